import PyProof.Rows.All
import Wide.All
import OpenK.AllK
import Wide.FinOn
import HandS.ForMost
import HandS.Codes
import HandS.TupAny
import HandS.IsInst
import PyProof.FactsAll.tuple_2
import HandS.TupMul
import HandS.Style
import HandS.SortInts
import KE.GoesEnum
import HandS.Walk
import HandS.ForExc
import HandS.SetFor
import HandS.TupSets
import PyProof.ReprRoads
import PyProof.ReprBulk
import PyProof.FitsInt
import HandS.Dict
import HandS.Small
import KE.KIndexWalk
import HandS.DictComp
import KE.DataMinMax
import HandS.Deep
import HandS.More
import HandS.Flow
import HandS.TupLe
import PySem.Challenge.RW_carfax_k09_passing
set_option Elab.async false
set_option linter.all false
set_option maxRecDepth 100000
/-! Data without addresses, a store of what may change, and what stands for them in the layer's heap. -/
namespace Z
open PySem L2

/-- data: what a program's value is, with tuples and lists written out; ref n is the n-th object of the store -/
inductive D where
  | non
  | bl (b : Bool)
  | int (i : Int)
  | str (x : Str)
  | tup (xs : List D)
  | lst (xs : List D)
  | scr (xs : List Int)
  | tpi (xs : List Int)
  | dcf (kvs : List (Int × List Int))
  | tpx (xs : List D)
  | ref (n : Nat)

/-- what may change -/
inductive MO where
  | lst (xs : List D)
  | dct (kvs : List (Key × D))
  | dtt (kvs : List (List Key × D))

abbrev Store := List MO
abbrev Env := List (Option D)

/-- a written list of the text's own -/
def KLst (K : PySem.W.Frag) (a : Addr) (vs : List V) : Prop := SqL K (fun _ => none) a vs
/-- the script: locked, or written -/
def CAt (K : PySem.W.Frag) (B : Addr → Prop) (al : List Addr) (H : Hp) (a : Addr) (vs : List V) : Prop :=
  (Rd H a (.lst vs) ∧ a ∉ al ∧ ¬ B a) ∨ KLst K a vs
/-- a list that nobody changes -/
def LAt (B : Addr → Prop) (al : List Addr) (H : Hp) (a : Addr) (vs : List V) : Prop := H a = some (.lst vs) ∧ a ∉ al ∧ ¬ B a
def TAt (al : List Addr) (H : Hp) (a : Addr) (vs : List V) : Prop := H a = some (.tup vs)

/-- a tuple of whole numbers, its object known -/
def XAt (B : Addr → Prop) (al : List Addr) (H : Hp) (a : Addr) (ns : List Int) : Prop := ∃ o : Obj, (H a = some (.frz o (.tup (ns.map V.int))) ∧ a ∉ al ∧ ¬ B a) ∧ o.dict = none

/-- a tuple whose object is known -/
def ZAt (B : Addr → Prop) (al : List Addr) (H : Hp) (a : Addr) (vs : List V) : Prop := ∃ o : Obj, (H a = some (.frz o (.tup vs)) ∧ a ∉ al ∧ ¬ B a) ∧ o.dict = none
/-- a dict that is locked for good -/
def YAt (B : Addr → Prop) (al : List Addr) (H : Hp) (a : Addr) (es : List (Key × V)) : Prop := ∃ o : Obj, (H a = some (.frz o (.dK es)) ∧ a ∉ al ∧ ¬ B a) ∧ True
def rowF (p : Int × List Int) : D := .tup (p.2.map .int)

mutual
/-- v stands for the data d -/
inductive RV (K : PySem.W.Frag) (B : Addr → Prop) (al : List Addr) (H : Hp) : D → V → Prop
  | non : RV K B al H .non .non
  | bl (b : Bool) : RV K B al H (.bl b) (.bl b)
  | int (i : Int) : RV K B al H (.int i) (.int i)
  | str (x : Str) : RV K B al H (.str x) (.str x)
  | tup (a : Addr) (ds : List D) (vs : List V) (h : TAt al H a vs) (r : RL K B al H ds vs) : RV K B al H (.tup ds) (.ref a)
  | lst (a : Addr) (ds : List D) (vs : List V) (h : LAt B al H a vs) (r : RL K B al H ds vs) : RV K B al H (.lst ds) (.ref a)
  | scr (a : Addr) (ns : List Int) (h : CAt K B al H a (ns.map V.int)) : RV K B al H (.scr ns) (.ref a)
  | tpi (a : Addr) (ns : List Int) (h : XAt B al H a ns) : RV K B al H (.tpi ns) (.ref a)
  | dcf (a : Addr) (kvs : List (Int × List Int)) (es : List (Key × V)) (h : YAt B al H a es) (k : es.map (·.1) = kvs.map fun p => .inl p.1) (r : RL K B al H (kvs.map rowF) (es.map (·.2))) : RV K B al H (.dcf kvs) (.ref a)
  | tpx (a : Addr) (ds : List D) (vs : List V) (h : ZAt B al H a vs) (r : RL K B al H ds vs) : RV K B al H (.tpx ds) (.ref a)
  | ref (n : Nat) (a : Addr) (h : al[n]? = some a) : RV K B al H (.ref n) (.ref a)
inductive RL (K : PySem.W.Frag) (B : Addr → Prop) (al : List Addr) (H : Hp) : List D → List V → Prop
  | nil : RL K B al H [] []
  | cons (d : D) (v : V) (ds : List D) (vs : List V) (h : RV K B al H d v) (r : RL K B al H ds vs) : RL K B al H (d :: ds) (v :: vs)
end

section
variable {K : PySem.W.Frag} {B : Addr → Prop} {al al' : List Addr} {H H' : Hp}
theorem RL.len {ds : List D} {vs : List V} (r : RL K B al H ds vs) : ds.length = vs.length := by
  induction ds generalizing vs with
  | nil => cases r; rfl
  | cons d ds ih => cases r with | cons _ _ _ _ _ r => simp [ih r]
theorem RL.get {ds : List D} {vs : List V} (r : RL K B al H ds vs) {i : Nat} {d : D} (e : ds[i]? = some d) : ∃ v, vs[i]? = some v ∧ RV K B al H d v := by
  induction ds generalizing vs i with
  | nil => simp at e
  | cons c ds ih =>
    cases r with
    | cons _ v _ vs h r =>
      cases i with
      | zero => simp at e; subst e; exact ⟨v, rfl, h⟩
      | succ i => simpa using ih r (i := i) (by simpa using e)
theorem RL.getV {ds : List D} {vs : List V} (r : RL K B al H ds vs) {i : Nat} {v : V} (e : vs[i]? = some v) : ∃ d, ds[i]? = some d ∧ RV K B al H d v := by
  induction ds generalizing vs i with
  | nil => cases r; simp at e
  | cons c ds ih =>
    cases r with
    | cons _ u _ vs h r =>
      cases i with
      | zero => simp at e; subst e; exact ⟨c, rfl, h⟩
      | succ i => simpa using ih r (i := i) (by simpa using e)
theorem RL.append {ds es : List D} {vs us : List V} (r : RL K B al H ds vs) (q : RL K B al H es us) : RL K B al H (ds ++ es) (vs ++ us) := by
  induction ds generalizing vs with
  | nil => cases r; exact q
  | cons c ds ih => cases r with | cons _ _ _ _ h r => exact .cons _ _ _ _ h (ih r)
theorem RL.take {ds : List D} {vs : List V} (r : RL K B al H ds vs) (n : Nat) : RL K B al H (ds.take n) (vs.take n) := by
  induction ds generalizing vs n with
  | nil => cases r; simp; exact .nil
  | cons c ds ih =>
    cases r with
    | cons _ _ _ _ h r =>
      cases n with
      | zero => exact .nil
      | succ n => exact .cons _ _ _ _ h (ih r n)
theorem RL.drop {ds : List D} {vs : List V} (r : RL K B al H ds vs) (n : Nat) : RL K B al H (ds.drop n) (vs.drop n) := by
  induction ds generalizing vs n with
  | nil => cases r; simp; exact .nil
  | cons c ds ih =>
    cases r with
    | cons _ _ _ _ h r =>
      cases n with
      | zero => exact .cons _ _ _ _ h r
      | succ n => exact ih r n
theorem RL.set {ds : List D} {vs : List V} (r : RL K B al H ds vs) {d : D} {v : V} (h : RV K B al H d v) (i : Nat) : RL K B al H (ds.set i d) (vs.set i v) := by
  induction ds generalizing vs i with
  | nil => cases r; exact .nil
  | cons c ds ih =>
    cases r with
    | cons _ _ _ _ g r =>
      cases i with
      | zero => exact .cons _ _ _ _ h r
      | succ i => exact .cons _ _ _ _ g (ih r i)
theorem RL.rev {ds : List D} {vs : List V} (r : RL K B al H ds vs) : RL K B al H ds.reverse vs.reverse := by
  induction ds generalizing vs with
  | nil => cases r; exact .nil
  | cons c ds ih => cases r with | cons _ _ _ _ h r => simp only [List.reverse_cons]; exact (ih r).append (.cons _ _ _ _ h .nil)
theorem RL.mem {ds : List D} {vs : List V} (r : RL K B al H ds vs) {v : V} (h : v ∈ vs) : ∃ d ∈ ds, RV K B al H d v := by
  obtain ⟨i, e⟩ := List.getElem?_of_mem h
  obtain ⟨d, e', q⟩ := r.getV e
  exact ⟨d, List.mem_of_getElem? e', q⟩

/-- one heap goes on from another: what the store does not name stays -/
structure Ex (al : List Addr) (H : Hp) (al' : List Addr) (H' : Hp) : Prop where
  pre : ∃ be, al' = al ++ be
  fr : ∀ a o, H a = some o → a ∉ al → H' a = some o ∧ a ∉ al'
theorem Ex.refl : Ex al H al H := ⟨⟨[], by simp⟩, fun _ _ h n => ⟨h, n⟩⟩
theorem Ex.trans {al2 : List Addr} {H2 : Hp} (x : Ex al H al' H') (y : Ex al' H' al2 H2) : Ex al H al2 H2 := by
  obtain ⟨⟨b1, e1⟩, f1⟩ := x
  obtain ⟨⟨b2, e2⟩, f2⟩ := y
  exact ⟨⟨b1 ++ b2, by rw [e2, e1, List.append_assoc]⟩, fun a o h n => let ⟨p, q⟩ := f1 a o h n; f2 a o p q⟩
theorem Ex.get (x : Ex al H al' H') {n : Nat} {a : Addr} (h : al[n]? = some a) : al'[n]? = some a := by
  obtain ⟨⟨b, rfl⟩, _⟩ := x
  rw [List.getElem?_append_left (List.getElem?_eq_some_iff.mp h).1]
  exact h

/-- an object of the store -/
def OAt (K : PySem.W.Frag) (B : Addr → Prop) (al : List Addr) (H : Hp) (a : Addr) : MO → Prop
  | .lst ds => ∃ vs, H a = some (.lst vs) ∧ RL K B al H ds vs
  | .dct kvs => ∃ es : List (Key × V), H a = some (.dK es) ∧ kvs.map (·.1) = es.map (·.1) ∧ RL K B al H (kvs.map (·.2)) (es.map (·.2))
  | .dtt kvs => ∃ es : List (List Key × V), H a = some (.dT es) ∧ kvs.map (·.1) = es.map (·.1) ∧ RL K B al H (kvs.map (·.2)) (es.map (·.2))

structure Rel (K : PySem.W.Frag) (B : Addr → Prop) (al : List Addr) (S : Store) (H : Hp) : Prop where
  len : al.length = S.length
  nd : al.Nodup
  bh : ∀ a, B a → a ∉ al ∧ ∃ o, H a = some o
  ob : ∀ (n : Nat) (a : Addr) (o : MO), al[n]? = some a → S[n]? = some o → OAt K B al H a o

theorem OAt.notup {a : Addr} {o : MO} (h : OAt K B al H a o) : (∃ u, H a = some u) ∧ ∀ vs, H a ≠ some (.tup vs) := by
  cases o with
  | lst ds => obtain ⟨vs, e, _⟩ := h; exact ⟨⟨_, e⟩, fun us q => by rw [e] at q; cases q⟩
  | dct kvs => obtain ⟨es, e, _⟩ := h; exact ⟨⟨_, e⟩, fun us q => by rw [e] at q; cases q⟩
  | dtt kvs => obtain ⟨es, e, _⟩ := h; exact ⟨⟨_, e⟩, fun us q => by rw [e] at q; cases q⟩
theorem Rel.there {S : Store} (r : Rel K B al S H) {a : Addr} (h : a ∈ al) : (∃ u, H a = some u) ∧ ∀ vs, H a ≠ some (.tup vs) := by
  obtain ⟨n, hn⟩ := List.getElem?_of_mem h
  have hl := (List.getElem?_eq_some_iff.mp hn).1
  have : n < S.length := by rw [← r.len]; exact hl
  exact (r.ob n a _ hn (List.getElem?_eq_getElem this)).notup
theorem Rel.fresh {S : Store} (r : Rel K B al S H) {p : Addr} (h : H p = none) : p ∉ al := fun hp => by
  obtain ⟨⟨u, e⟩, _⟩ := r.there hp
  rw [h] at e; cases e
theorem Rel.freshB {S : Store} (r : Rel K B al S H) {p : Addr} (h : H p = none) : ¬ B p := fun hp => by
  obtain ⟨_, u, e⟩ := r.bh p hp
  rw [h] at e; cases e
theorem Rel.notup {S : Store} (r : Rel K B al S H) {a : Addr} {vs : List V} (h : H a = some (.tup vs)) : a ∉ al := fun hp => (r.there hp).2 vs h

theorem Ex.ld (x : Ex al H al' H') {a : Addr} {vs : List V} (h : LAt B al H a vs) : LAt B al' H' a vs :=
  ⟨(x.fr _ _ h.1 h.2.1).1, (x.fr _ _ h.1 h.2.1).2, h.2.2⟩
theorem Ex.xd (x : Ex al H al' H') {a : Addr} {ns : List Int} (h : XAt B al H a ns) : XAt B al' H' a ns := by
  obtain ⟨o, ⟨h1, h2, h3⟩, h4⟩ := h
  exact ⟨o, ⟨(x.fr _ _ h1 h2).1, (x.fr _ _ h1 h2).2, h3⟩, h4⟩
theorem Ex.yd (x : Ex al H al' H') {a : Addr} {es : List (Key × V)} (h : YAt B al H a es) : YAt B al' H' a es := by
  obtain ⟨o, ⟨h1, h2, h3⟩, h4⟩ := h
  exact ⟨o, ⟨(x.fr _ _ h1 h2).1, (x.fr _ _ h1 h2).2, h3⟩, h4⟩
theorem Ex.zd (x : Ex al H al' H') {a : Addr} {vs : List V} (h : ZAt B al H a vs) : ZAt B al' H' a vs := by
  obtain ⟨o, ⟨h1, h2, h3⟩, h4⟩ := h
  exact ⟨o, ⟨(x.fr _ _ h1 h2).1, (x.fr _ _ h1 h2).2, h3⟩, h4⟩
theorem Ex.rd (x : Ex al H al' H') {a : Addr} {vs : List V} (h : CAt K B al H a vs) : CAt K B al' H' a vs := by
  rcases h with ⟨h, n, b⟩ | h
  · rcases h with h | ⟨o, h⟩
    · exact .inl ⟨.inl (x.fr _ _ h n).1, (x.fr _ _ h n).2, b⟩
    · exact .inl ⟨.inr ⟨o, (x.fr _ _ h n).1⟩, (x.fr _ _ h n).2, b⟩
  · exact .inr h

theorem rl_nums {C : Addr → Prop} {al2 : List Addr} {H2 : Hp} : ∀ {ns : List Int} {vs : List V}, RL K B al H (ns.map .int) vs → RL K C al2 H2 (ns.map .int) vs
  | [], _, r => by cases r; exact .nil
  | n :: ns, _, r => by
    cases r with
    | cons _ _ _ _ h r => cases h; exact .cons _ _ _ _ (.int n) (rl_nums r)
theorem rl_tups {C : Addr → Prop} {al2 : List Addr} {H2 : Hp} (hk : ∀ a vs, H a = some (.tup vs) → H2 a = some (.tup vs)) : ∀ {kvs : List (Int × List Int)} {vs : List V}, RL K B al H (kvs.map rowF) vs → RL K C al2 H2 (kvs.map rowF) vs
  | [], _, r => by cases r; exact .nil
  | p :: kvs, _, r => by
    cases r with
    | cons _ _ _ _ h r =>
      refine .cons _ _ _ _ ?_ (rl_tups hk r)
      unfold rowF at h ⊢
      cases h with
      | tup a ds vs h r => exact .tup a _ vs (hk _ _ h) (rl_nums r)
/-- no tuple is of the store -/
def NT (al : List Addr) (H : Hp) : Prop := ∀ a vs, H a = some (.tup vs) → a ∉ al
theorem Rel.nt {S : Store} (R : Rel K B al S H) : NT al H := fun _ _ h => R.notup h
mutual
theorem RV.monoN (R : NT al H) (x : Ex al H al' H') : ∀ {d : D} {v : V}, RV K B al H d v → RV K B al' H' d v
  | _, _, .non => .non
  | _, _, .bl b => .bl b
  | _, _, .int i => .int i
  | _, _, .str s => .str s
  | _, _, .tup a ds vs h r => .tup a ds vs (x.fr _ _ h (R _ _ h)).1 (RL.monoN R x r)
  | _, _, .lst a ds vs h r => .lst a ds vs (x.ld h) (RL.monoN R x r)
  | _, _, .scr a ns h => .scr a ns (x.rd h)
  | _, _, .tpi a ns h => .tpi a ns (x.xd h)
  | _, _, .dcf a kvs es h k r => .dcf a kvs es (x.yd h) k (rl_tups (fun a vs e => (x.fr _ _ e (R _ _ e)).1) r)
  | _, _, .tpx a ds vs h r => .tpx a ds vs (x.zd h) (RL.monoN R x r)
  | _, _, .ref n a h => .ref n a (x.get h)
theorem RL.monoN (R : NT al H) (x : Ex al H al' H') : ∀ {ds : List D} {vs : List V}, RL K B al H ds vs → RL K B al' H' ds vs
  | _, _, .nil => .nil
  | _, _, .cons d v ds vs h r => .cons d v ds vs (RV.monoN R x h) (RL.monoN R x r)
end
theorem RV.mono {S : Store} (R : Rel K B al S H) (x : Ex al H al' H') {d : D} {v : V} (r : RV K B al H d v) : RV K B al' H' d v := r.monoN R.nt x
theorem RL.mono {S : Store} (R : Rel K B al S H) (x : Ex al H al' H') {d : List D} {v : List V} (r : RL K B al H d v) : RL K B al' H' d v := r.monoN R.nt x

theorem OAt.keep {S : Store} (R : Rel K B al S H) (x : Ex al H al' H') {a : Addr} {o : MO} (q : OAt K B al H a o) (k : ∀ w, H a = some w → H' a = some w) : OAt K B al' H' a o := by
  cases o with
  | lst ds => obtain ⟨vs, e, r⟩ := q; exact ⟨vs, k _ e, r.mono R x⟩
  | dct kvs => obtain ⟨es, e, e2, r⟩ := q; exact ⟨es, k _ e, e2, r.mono R x⟩
  | dtt kvs => obtain ⟨es, e, e2, r⟩ := q; exact ⟨es, k _ e, e2, r.mono R x⟩
/-- a new object that the store does not name -/
theorem Rel.side {S : Store} (R : Rel K B al S H) {p : Addr} {o : HO} (h : H p = none) : Ex al H al (upd H p o) ∧ Rel K B al S (upd H p o) := by
  have x : Ex al H al (upd H p o) := ⟨⟨[], by simp⟩, fun a u e n => ⟨by rw [upd_ne (ne_of_none e h)]; exact e, n⟩⟩
  refine ⟨x, R.len, R.nd, fun a b => ?_, fun n a u e1 e2 => ?_⟩
  · obtain ⟨n, u, e⟩ := R.bh a b
    exact ⟨n, u, by rw [upd_ne (ne_of_none e h)]; exact e⟩
  · have q := R.ob n a u e1 e2
    exact q.keep R x fun w e => by rw [upd_ne (ne_of_none e h)]; exact e
/-- a new object of the store -/
theorem Rel.new {S : Store} (R : Rel K B al S H) {p : Addr} {o : HO} {u : MO} (h : H p = none) (q : Ex al H (al ++ [p]) (upd H p o) → OAt K B (al ++ [p]) (upd H p o) p u) :
    Ex al H (al ++ [p]) (upd H p o) ∧ Rel K B (al ++ [p]) (S ++ [u]) (upd H p o) := by
  have np := R.fresh h
  have x : Ex al H (al ++ [p]) (upd H p o) := ⟨⟨[p], rfl⟩, fun a u e n => ⟨by rw [upd_ne (ne_of_none e h)]; exact e, by simp only [List.mem_append, List.mem_singleton, not_or]; exact ⟨n, ne_of_none e h⟩⟩⟩
  refine ⟨x, by simp [R.len], ?_, fun a b => ?_, fun n a v e1 e2 => ?_⟩
  · rw [List.nodup_append]
    exact ⟨R.nd, by simp, fun a ha b hb => by simp at hb; subst hb; exact fun e => np (e ▸ ha)⟩
  · obtain ⟨n, u, e⟩ := R.bh a b
    exact ⟨by simp only [List.mem_append, List.mem_singleton, not_or]; exact ⟨n, ne_of_none e h⟩, u, by rw [upd_ne (ne_of_none e h)]; exact e⟩
  · by_cases hn : n < al.length
    · rw [List.getElem?_append_left hn] at e1
      rw [List.getElem?_append_left (by rw [← R.len]; exact hn)] at e2
      have q := R.ob n a v e1 e2
      exact q.keep R x fun w e => by rw [upd_ne (ne_of_none e h)]; exact e
    · have hl : n < (al ++ [p]).length := (List.getElem?_eq_some_iff.mp e1).1
      have : n = al.length := by simp at hl; omega
      subst this
      rw [List.getElem?_append_right (Nat.le_refl _)] at e1
      rw [R.len, List.getElem?_append_right (Nat.le_refl _)] at e2
      simp at e1 e2
      subst e1; subst e2
      exact q x
/-- the object of the store at n is changed -/
theorem Rel.put {S : Store} (R : Rel K B al S H) {n : Nat} {a : Addr} {o : HO} {u : MO} (ha : al[n]? = some a) (hn : ∀ vs, o ≠ .tup vs) (q : Ex al H al (upd H a o) → OAt K B al (upd H a o) a u) :
    Ex al H al (upd H a o) ∧ Rel K B al (S.set n u) (upd H a o) := by
  have hm : a ∈ al := List.mem_of_getElem? ha
  have x : Ex al H al (upd H a o) := ⟨⟨[], by simp⟩, fun b u e n => ⟨by rw [upd_ne (show _ ≠ a from fun z => n (by rw [z]; exact hm))]; exact e, n⟩⟩
  refine ⟨x, by simp [R.len], R.nd, fun b hb => ?_, fun m b v e1 e2 => ?_⟩
  · obtain ⟨n, u, e⟩ := R.bh b hb
    exact ⟨n, u, by rw [upd_ne (show _ ≠ a from fun z => n (by rw [z]; exact hm))]; exact e⟩
  · by_cases hmn : m = n
    · subst hmn
      rw [ha] at e1; cases e1
      have hl : m < S.length := by rw [← R.len]; exact (List.getElem?_eq_some_iff.mp ha).1
      rw [List.getElem?_set_self hl] at e2
      cases e2
      exact q x
    · rw [List.getElem?_set_ne (Ne.symm hmn)] at e2
      refine (R.ob m b v e1 e2).keep R x fun w e => ?_
      rw [upd_ne (fun z => ?_)]
      · exact e
      · subst z
        obtain ⟨h1, g1⟩ := List.getElem?_eq_some_iff.mp e1
        obtain ⟨h2, g2⟩ := List.getElem?_eq_some_iff.mp ha
        exact hmn ((List.getElem_inj R.nd).mp (g1.trans g2.symm))
theorem Rel.look {S : Store} (R : Rel K B al S H) {n : Nat} {a : Addr} {o : MO} (h : RV K B al H (.ref n) (.ref a)) (e : S[n]? = some o) : al[n]? = some a ∧ OAt K B al H a o := by
  cases h with
  | ref _ _ h => exact ⟨h, R.ob n a o h e⟩
end
end Z
set_option Elab.async false
set_option linter.all false
set_option maxRecDepth 100000
/-! What a piece of syntax computes, over data and store, and that the layer's readings follow it. -/
namespace Z
open PySem L2

abbrev M (α : Type) := Store → Option (α × Store)
def ret {α : Type} (a : α) : M α := fun S => some (a, S)
def fail {α : Type} : M α := fun _ => none
def bnd {α β : Type} (x : M α) (f : α → M β) : M β := fun S => match x S with
  | none => none
  | some (a, S') => f a S'
theorem bnd_some {α β : Type} {x : M α} {f : α → M β} {S S' : Store} {b : β} (h : bnd x f S = some (b, S')) : ∃ a S1, x S = some (a, S1) ∧ f a S1 = some (b, S') := by
  unfold bnd at h
  split at h
  · cases h
  · rename_i a S1 e
    exact ⟨a, S1, e, h⟩
theorem ret_some {α : Type} {a b : α} {S S' : Store} (h : ret a S = some (b, S')) : a = b ∧ S = S' := by
  unfold ret at h; cases h; exact ⟨rfl, rfl⟩

abbrev ME := Env → M D
abbrev MT := Env → M Bool
abbrev MA := Env → M (List D)

/-- the frame's slots -/
def ER (K : PySem.W.Frag) (B : Addr → Prop) (al : List Addr) (H : Hp) (ρ : Env) (σ : St) : Prop :=
  ρ.length = σ.length ∧ ∀ (i : Nat) (d : D), ρ[i]? = some (some d) → ∃ v, σ[i]? = some (some v) ∧ RV K B al H d v
theorem ER.mono {K : PySem.W.Frag} {B : Addr → Prop} {al al' : List Addr} {H H' : Hp} {S : Store} {ρ : Env} {σ : St} (e : ER K B al H ρ σ) (R : Rel K B al S H) (x : Ex al H al' H') : ER K B al' H' ρ σ :=
  ⟨e.1, fun i d h => let ⟨v, a, b⟩ := e.2 i d h; ⟨v, a, b.mono R x⟩⟩
theorem ER.set {K : PySem.W.Frag} {B : Addr → Prop} {al : List Addr} {H : Hp} {ρ : Env} {σ : St} (e : ER K B al H ρ σ) {d : D} {v : V} (r : RV K B al H d v) (i : Nat) : ER K B al H (ρ.set i (some d)) (σ.set i (some v)) := by
  refine ⟨by simp [e.1], fun j c h => ?_⟩
  by_cases hj : i = j
  · subst hj
    have hl : i < ρ.length := by
      have := (List.getElem?_eq_some_iff.mp h).1
      simpa using this
    rw [List.getElem?_set_self hl] at h
    cases h
    exact ⟨v, by rw [List.getElem?_set_self (by rw [← e.1]; exact hl)], r⟩
  · rw [List.getElem?_set_ne hj] at h
    obtain ⟨u, q, r'⟩ := e.2 j c h
    exact ⟨u, by rw [List.getElem?_set_ne hj]; exact q, r'⟩
def wipeD (ρ : Env) : List Nat → Env
  | [] => ρ
  | v :: vs => (wipeD ρ vs).set v none
theorem ER.none {K : PySem.W.Frag} {B : Addr → Prop} {al : List Addr} {H : Hp} {ρ : Env} {σ : St} (e : ER K B al H ρ σ) (i : Nat) : ER K B al H (ρ.set i none) (σ.set i none) := by
  refine ⟨by simp [e.1], fun j c h => ?_⟩
  by_cases hj : i = j
  · subst hj
    have hl : i < ρ.length := by
      have := (List.getElem?_eq_some_iff.mp h).1
      simpa using this
    rw [List.getElem?_set_self hl] at h
    cases h
  · rw [List.getElem?_set_ne hj] at h
    obtain ⟨u, q, r'⟩ := e.2 j c h
    exact ⟨u, by rw [List.getElem?_set_ne hj]; exact q, r'⟩
theorem ER.wipe {K : PySem.W.Frag} {B : Addr → Prop} {al : List Addr} {H : Hp} {ρ : Env} {σ : St} (e : ER K B al H ρ σ) : ∀ vs : List Nat, ER K B al H (wipeD ρ vs) (wipe σ vs)
  | [] => e
  | v :: vs => (e.wipe vs).none v

/-- the reading that a computation gives -/
def tG (K : PySem.W.Frag) {α β : Type} (rel : (Addr → Prop) → List Addr → Hp → α → β → Prop) (m : Env → M α) : St → Hp → (β → Hp → Prop) → Prop := fun σ H Q =>
  ∃ (B : Addr → Prop) (al : List Addr) (S : Store) (ρ : Env) (a : α) (S' : Store), Rel K B al S H ∧ ER K B al H ρ σ ∧ m ρ S = some (a, S') ∧
    ∀ (b : β) (al' : List Addr) (H' : Hp), Rel K B al' S' H' → Ex al H al' H' → rel B al' H' a b → Q b H'
def tE (K : PySem.W.Frag) (m : ME) : TE := tG K (fun B al H d v => RV K B al H d v) m
def tT (K : PySem.W.Frag) (m : MT) : TT := tG K (fun _ _ _ a b => a = b) m
def tA (K : PySem.W.Frag) (m : MA) : TA := tG K (fun B al H d v => RL K B al H d v) m
def tO (K : PySem.W.Frag) (m : Env → M (Option Int)) : TO := tG K (fun _ _ _ a b => a = b) m

/-- also without these -/
def Bp (B : Addr → Prop) (p : Addr) : Addr → Prop := fun b => B b ∨ b = p
/-- a list just made, which nobody knows -/
def tF (K : PySem.W.Frag) (m : MA) : TE := fun σ H Q =>
  ∃ (B : Addr → Prop) (al : List Addr) (S : Store) (ρ : Env) (ds : List D) (S' : Store), Rel K B al S H ∧ ER K B al H ρ σ ∧ m ρ S = some (ds, S') ∧
    ∀ (p : Addr) (vs : List V) (al' : List Addr) (H' : Hp), Rel K (Bp B p) al' S' H' → Ex al H al' H' → H p = none → H' p = some (.lst vs) → RL K (Bp B p) al' H' ds vs → Q (.ref p) H'

def Sn (X : Cx) (e : Expr) (m : ME) : Prop := PE X e (tE X.K m)
def SnF (X : Cx) (e : Expr) (m : MA) : Prop := PE X e (tF X.K m)
def Stt (X : Cx) (e : Expr) (m : MT) : Prop := PT X e (tT X.K m)
structure Sa (X : Cx) (es : List Expr) (m : MA) : Prop where
  run : PA X es (tA X.K m)
  len : ∀ ρ S ds S', m ρ S = some (ds, S') → ds.length = es.length

section
variable {X : Cx} {e : Expr}
theorem pe_imp {t t' : TE} (h : PE X e t) (q : ∀ σ H Q, t' σ H Q → t σ H Q) : PE X e t' := ⟨fun pins s σ H Q I w => h.run pins s σ H Q I (q _ _ _ w)⟩
theorem pt_imp {t t' : TT} (h : PT X e t) (q : ∀ σ H Q, t' σ H Q → t σ H Q) : PT X e t' := ⟨fun pins s σ H Q I w => h.run pins s σ H Q I (q _ _ _ w)⟩
theorem pa_imp {es : List Expr} {t t' : TA} (h : PA X es t) (q : ∀ σ H Q, t' σ H Q → t σ H Q) : PA X es t' := ⟨fun pos pins s σ H Q I w => h.run pos pins s σ H Q I (q _ _ _ w)⟩
end

/-! ### banned addresses -/
section
variable {K : PySem.W.Frag} {B C : Addr → Prop} {al : List Addr} {H : Hp}
theorem XAt.less (q : ∀ a, C a → B a) {a : Addr} {ns : List Int} (h : XAt B al H a ns) : XAt C al H a ns := by
  obtain ⟨o, ⟨h1, h2, h3⟩, h4⟩ := h
  exact ⟨o, ⟨h1, h2, fun z => h3 (q _ z)⟩, h4⟩
theorem ZAt.less (q : ∀ a, C a → B a) {a : Addr} {vs : List V} (h : ZAt B al H a vs) : ZAt C al H a vs := by
  obtain ⟨o, ⟨h1, h2, h3⟩, h4⟩ := h
  exact ⟨o, ⟨h1, h2, fun z => h3 (q _ z)⟩, h4⟩
theorem ZAt.ban {p : Addr} (h0 : H p = none) {a : Addr} {vs : List V} (h : ZAt B al H a vs) : ZAt (Bp B p) al H a vs := by
  obtain ⟨o, ⟨h1, h2, h3⟩, h4⟩ := h
  exact ⟨o, ⟨h1, h2, fun z => z.elim h3 fun e => by rw [e, h0] at h1; cases h1⟩, h4⟩
theorem ZAt.gain {p : Addr} {a : Addr} {vs : List V} (h : ZAt (Bp B p) al H a vs) : ZAt B (al ++ [p]) H a vs := by
  obtain ⟨o, ⟨h1, h2, h3⟩, h4⟩ := h
  exact ⟨o, ⟨h1, fun z => (List.mem_append.mp z).elim h2 fun y => h3 (.inr (List.mem_singleton.mp y)), fun z => h3 (.inl z)⟩, h4⟩
theorem YAt.less (q : ∀ a, C a → B a) {a : Addr} {es : List (Key × V)} (h : YAt B al H a es) : YAt C al H a es := by
  obtain ⟨o, ⟨h1, h2, h3⟩, h4⟩ := h
  exact ⟨o, ⟨h1, h2, fun z => h3 (q _ z)⟩, h4⟩
theorem YAt.ban {p : Addr} (h0 : H p = none) {a : Addr} {es : List (Key × V)} (h : YAt B al H a es) : YAt (Bp B p) al H a es := by
  obtain ⟨o, ⟨h1, h2, h3⟩, h4⟩ := h
  exact ⟨o, ⟨h1, h2, fun z => z.elim h3 fun e => by rw [e, h0] at h1; cases h1⟩, h4⟩
theorem YAt.gain {p : Addr} {a : Addr} {es : List (Key × V)} (h : YAt (Bp B p) al H a es) : YAt B (al ++ [p]) H a es := by
  obtain ⟨o, ⟨h1, h2, h3⟩, h4⟩ := h
  exact ⟨o, ⟨h1, fun z => (List.mem_append.mp z).elim h2 fun y => h3 (.inr (List.mem_singleton.mp y)), fun z => h3 (.inl z)⟩, h4⟩
theorem XAt.ban {p : Addr} (h0 : H p = none) {a : Addr} {ns : List Int} (h : XAt B al H a ns) : XAt (Bp B p) al H a ns := by
  obtain ⟨o, ⟨h1, h2, h3⟩, h4⟩ := h
  exact ⟨o, ⟨h1, h2, fun z => z.elim h3 fun e => by rw [e, h0] at h1; cases h1⟩, h4⟩
theorem XAt.gain {p : Addr} {a : Addr} {ns : List Int} (h : XAt (Bp B p) al H a ns) : XAt B (al ++ [p]) H a ns := by
  obtain ⟨o, ⟨h1, h2, h3⟩, h4⟩ := h
  exact ⟨o, ⟨h1, fun z => (List.mem_append.mp z).elim h2 fun y => h3 (.inr (List.mem_singleton.mp y)), fun z => h3 (.inl z)⟩, h4⟩
mutual
theorem RV.less (q : ∀ a, C a → B a) : ∀ {d : D} {v : V}, RV K B al H d v → RV K C al H d v
  | _, _, .non => .non
  | _, _, .bl b => .bl b
  | _, _, .int i => .int i
  | _, _, .str s => .str s
  | _, _, .tup a ds vs h r => .tup a ds vs h (RL.less q r)
  | _, _, .lst a ds vs h r => .lst a ds vs ⟨h.1, h.2.1, fun z => h.2.2 (q _ z)⟩ (RL.less q r)
  | _, _, .scr a ns h => .scr a ns (match h with | .inl ⟨x, y, z⟩ => .inl ⟨x, y, fun w => z (q _ w)⟩ | .inr x => .inr x)
  | _, _, .tpi a ns h => .tpi a ns (h.less q)
  | _, _, .dcf a kvs es h k r => .dcf a kvs es (h.less q) k (rl_tups (fun _ _ e => e) r)
  | _, _, .tpx a ds vs h r => .tpx a ds vs (h.less q) (RL.less q r)
  | _, _, .ref n a h => .ref n a h
theorem RL.less (q : ∀ a, C a → B a) : ∀ {ds : List D} {vs : List V}, RL K B al H ds vs → RL K C al H ds vs
  | _, _, .nil => .nil
  | _, _, .cons d v ds vs h r => .cons d v ds vs (RV.less q h) (RL.less q r)
end
theorem OAt.less (q : ∀ a, C a → B a) {a : Addr} {o : MO} (h : OAt K B al H a o) : OAt K C al H a o := by
  cases o with
  | lst ds => obtain ⟨vs, e, r⟩ := h; exact ⟨vs, e, r.less q⟩
  | dct kvs => obtain ⟨es, e, e2, r⟩ := h; exact ⟨es, e, e2, r.less q⟩
  | dtt kvs => obtain ⟨es, e, e2, r⟩ := h; exact ⟨es, e, e2, r.less q⟩
theorem Rel.less {S : Store} (R : Rel K B al S H) (q : ∀ a, C a → B a) : Rel K C al S H := ⟨R.len, R.nd, fun a h => R.bh a (q a h), fun n a o e1 e2 => (R.ob n a o e1 e2).less q⟩
theorem bp_less {p : Addr} : ∀ a, B a → Bp B p a := fun _ h => .inl h
mutual
theorem RV.ban {p : Addr} (h0 : H p = none) : ∀ {d : D} {v : V}, RV K B al H d v → RV K (Bp B p) al H d v
  | _, _, .non => .non
  | _, _, .bl b => .bl b
  | _, _, .int i => .int i
  | _, _, .str s => .str s
  | _, _, .tup a ds vs h r => .tup a ds vs h (RL.ban h0 r)
  | _, _, .lst a ds vs h r => .lst a ds vs ⟨h.1, h.2.1, fun z => z.elim h.2.2 fun e => by have h1 := h.1; rw [e, h0] at h1; cases h1⟩ (RL.ban h0 r)
  | _, _, .tpi a ns h => .tpi a ns (h.ban h0)
  | _, _, .dcf a kvs es h k r => .dcf a kvs es (h.ban h0) k (rl_tups (fun _ _ e => e) r)
  | _, _, .tpx a ds vs h r => .tpx a ds vs (h.ban h0) (RL.ban h0 r)
  | _, _, .scr a ns h => .scr a ns (match h with
    | .inl ⟨x, y, z⟩ => .inl ⟨x, y, fun w => w.elim z fun e => by
        rw [e] at x
        rcases x with x | ⟨o, x⟩ <;> rw [h0] at x <;> cases x⟩
    | .inr x => .inr x)
  | _, _, .ref n a h => .ref n a h
theorem RL.ban {p : Addr} (h0 : H p = none) : ∀ {ds : List D} {vs : List V}, RL K B al H ds vs → RL K (Bp B p) al H ds vs
  | _, _, .nil => .nil
  | _, _, .cons d v ds vs h r => .cons d v ds vs (RV.ban h0 h) (RL.ban h0 r)
end
theorem OAt.ban {p : Addr} (h0 : H p = none) {a : Addr} {o : MO} (h : OAt K B al H a o) : OAt K (Bp B p) al H a o := by
  cases o with
  | lst ds => obtain ⟨vs, e, r⟩ := h; exact ⟨vs, e, r.ban h0⟩
  | dct kvs => obtain ⟨es, e, e2, r⟩ := h; exact ⟨es, e, e2, r.ban h0⟩
  | dtt kvs => obtain ⟨es, e, e2, r⟩ := h; exact ⟨es, e, e2, r.ban h0⟩
/-- a new object that the store does not name and that nothing may lean on -/
theorem Rel.ban {S : Store} (R : Rel K B al S H) {p : Addr} {o : HO} (h : H p = none) : Ex al H al (upd H p o) ∧ Rel K (Bp B p) al S (upd H p o) := by
  obtain ⟨x, R1⟩ := R.side (o := o) h
  refine ⟨x, R.len, R.nd, fun a q => ?_, fun n a u e1 e2 => ?_⟩
  · rcases q with q | q
    · exact R1.bh a q
    · subst q; exact ⟨R.fresh h, _, upd_same⟩
  · have R0 : Rel K (Bp B p) al S H → True := fun _ => trivial
    have q := (R.ob n a u e1 e2)
    have k : ∀ w, H a = some w → upd H p o a = some w := fun w e => by rw [upd_ne (ne_of_none e h)]; exact e
    cases u with
    | lst ds => obtain ⟨vs, e, r⟩ := q; exact ⟨vs, k _ e, (r.ban h).monoN R.nt x⟩
    | dct kvs => obtain ⟨es, e, e2, r⟩ := q; exact ⟨es, k _ e, e2, (r.ban h).monoN R.nt x⟩
    | dtt kvs => obtain ⟨es, e, e2, r⟩ := q; exact ⟨es, k _ e, e2, (r.ban h).monoN R.nt x⟩

mutual
theorem RV.gain {p : Addr} : ∀ {d : D} {v : V}, RV K (Bp B p) al H d v → RV K B (al ++ [p]) H d v
  | _, _, .non => .non
  | _, _, .bl b => .bl b
  | _, _, .int i => .int i
  | _, _, .str s => .str s
  | _, _, .tup a ds vs h r => .tup a ds vs h (RL.gain r)
  | _, _, .lst a ds vs h r => .lst a ds vs ⟨h.1, fun z => (List.mem_append.mp z).elim h.2.1 fun y => h.2.2 (.inr (List.mem_singleton.mp y)), fun z => h.2.2 (.inl z)⟩ (RL.gain r)
  | _, _, .tpi a ns h => .tpi a ns h.gain
  | _, _, .dcf a kvs es h k r => .dcf a kvs es h.gain k (rl_tups (fun _ _ e => e) r)
  | _, _, .tpx a ds vs h r => .tpx a ds vs h.gain (RL.gain r)
  | _, _, .scr a ns h => .scr a ns (match h with
    | .inl ⟨x, y, z⟩ => .inl ⟨x, fun w => (List.mem_append.mp w).elim y fun u => z (.inr (List.mem_singleton.mp u)), fun w => z (.inl w)⟩
    | .inr x => .inr x)
  | _, _, .ref n a h => .ref n a (by rw [List.getElem?_append_left (List.getElem?_eq_some_iff.mp h).1]; exact h)
theorem RL.gain {p : Addr} : ∀ {ds : List D} {vs : List V}, RL K (Bp B p) al H ds vs → RL K B (al ++ [p]) H ds vs
  | _, _, .nil => .nil
  | _, _, .cons d v ds vs h r => .cons d v ds vs (RV.gain h) (RL.gain r)
end
theorem OAt.gain {p a : Addr} {o : MO} (h : OAt K (Bp B p) al H a o) : OAt K B (al ++ [p]) H a o := by
  cases o with
  | lst ds => obtain ⟨vs, e, r⟩ := h; exact ⟨vs, e, r.gain⟩
  | dct kvs => obtain ⟨es, e, e2, r⟩ := h; exact ⟨es, e, e2, r.gain⟩
  | dtt kvs => obtain ⟨es, e, e2, r⟩ := h; exact ⟨es, e, e2, r.gain⟩
/-- what nobody leans on is taken into the store -/
theorem Rel.gain {S : Store} {p : Addr} {u : MO} (R : Rel K (Bp B p) al S H) (q : OAt K (Bp B p) al H p u) (hb : ¬ B p) : Rel K B (al ++ [p]) (S ++ [u]) H := by
  have np := (R.bh p (.inr rfl)).1
  refine ⟨by simp [R.len], ?_, fun a b => ?_, fun n a v e1 e2 => ?_⟩
  · rw [List.nodup_append]
    exact ⟨R.nd, by simp, fun a ha b hb => by simp at hb; subst hb; exact fun e => np (e ▸ ha)⟩
  · obtain ⟨n, u⟩ := R.bh a (.inl b)
    exact ⟨by simp only [List.mem_append, List.mem_singleton, not_or]; exact ⟨n, fun e => hb (e ▸ b)⟩, u⟩
  · by_cases hn : n < al.length
    · rw [List.getElem?_append_left hn] at e1
      rw [List.getElem?_append_left (by rw [← R.len]; exact hn)] at e2
      exact (R.ob n a v e1 e2).gain
    · have hl : n < (al ++ [p]).length := (List.getElem?_eq_some_iff.mp e1).1
      have : n = al.length := by simp at hl; omega
      subst this
      rw [List.getElem?_append_right (Nat.le_refl _)] at e1
      rw [R.len, List.getElem?_append_right (Nat.le_refl _)] at e2
      simp at e1 e2
      subst e1; subst e2
      exact q.gain
end

theorem Ex.gain {al al' : List Addr} {H H' : Hp} {p : Addr} (x : Ex al H al' H') (h0 : H p = none) : Ex al H (al' ++ [p]) H' := by
  obtain ⟨⟨b, rfl⟩, f⟩ := x
  refine ⟨⟨b ++ [p], by simp⟩, fun a o e n => ⟨(f a o e n).1, ?_⟩⟩
  rw [List.mem_append, List.mem_singleton, not_or]
  exact ⟨(f a o e n).2, ne_of_none e h0⟩

/-- a list just made: as data that stays -/
def mFz (m : MA) : ME := fun ρ => bnd (m ρ) fun ds => ret (.lst ds)
/-- .. as an object of the store -/
def mAd (m : MA) : ME := fun ρ S => match m ρ S with
  | some (ds, S') => some (.ref S'.length, S' ++ [.lst ds])
  | none => none
section
variable {X : Cx} {e : Expr} {m : MA}
theorem sn_fz (h : SnF X e m) : Sn X e (mFz m) := pe_imp h fun σ H Q ⟨B, al, S, ρ, d, S', R, er, hm, q⟩ => by
  obtain ⟨ds, S1, h1, h2⟩ := bnd_some hm
  obtain ⟨rfl, rfl⟩ := ret_some h2
  refine ⟨B, al, S, ρ, ds, S1, R, er, h1, fun p vs al' H' R' x h0 hp r => q _ al' H' (R'.less bp_less) x ?_⟩
  exact .lst p ds vs ⟨hp, (R'.bh p (.inr rfl)).1, R.freshB h0⟩ (r.less bp_less)
theorem sn_ad (h : SnF X e m) : Sn X e (mAd m) := pe_imp h fun σ H Q ⟨B, al, S, ρ, d, S', R, er, hm, q⟩ => by
  unfold mAd at hm
  split at hm
  · rename_i ds S1 h1
    cases hm
    refine ⟨B, al, S, ρ, ds, S1, R, er, h1, fun p vs al' H' R' x h0 hp r => q _ (al' ++ [p]) H' ?_ ?_ ?_⟩
    · exact R'.gain ⟨vs, hp, r⟩ (R.freshB h0)
    · exact x.gain h0
    · refine .ref _ p ?_
      rw [← R'.len]
      simp
  · cases hm
end
end Z
set_option Elab.async false
set_option linter.all false
set_option maxRecDepth 100000
/-! Names, constants, arguments, displays, operators, tests. -/
namespace Z
open PySem L2

/-! ### names and constants -/
def mVar (i : Nat) : ME := fun ρ S => match ρ[i]? with
  | some (some d) => some (d, S)
  | _ => none
def mC (d : D) : ME := fun _ => ret d
/-- what a constant's data is as a value -/
def cV : D → Option V
  | .non => some .non
  | .bl b => some (.bl b)
  | .int i => some (.int i)
  | .str x => some (.str x)
  | _ => none
section
variable {X : Cx}
theorem sn_var {e : Expr} (i : Nat) (h : PE X e (tVar i)) : Sn X e (mVar i) := pe_imp h fun σ H Q ⟨B, al, S, ρ, d, S', R, er, hm, q⟩ => by
  unfold mVar at hm
  split at hm
  · rename_i d' h1
    cases hm
    obtain ⟨v, hv, r⟩ := er.2 i d h1
    exact ⟨v, hv, q v al H R .refl r⟩
  · cases hm
theorem sn_c {e : Expr} {d : D} {v : V} (h : PE X e (tC v)) (hc : cV d = some v) : Sn X e (mC d) := pe_imp h fun σ H Q ⟨B, al, S, ρ, d', S', R, er, hm, q⟩ => by
  obtain ⟨rfl, rfl⟩ := ret_some hm
  refine q v al H R .refl ?_
  cases d <;> simp [cV] at hc <;> subst hc
  · exact .non
  · exact .bl _
  · exact .int _
  · exact .str _
end

/-! ### argument lists -/
def mNil : MA := fun _ => ret []
def mCons (m : ME) (r : MA) : MA := fun ρ => bnd (m ρ) fun d => bnd (r ρ) fun ds => ret (d :: ds)
section
variable {X : Cx}
theorem sa_nil : Sa X [] mNil := ⟨pa_imp pa_nil fun σ H Q ⟨B, al, S, ρ, d', S', R, er, hm, q⟩ => by
  obtain ⟨rfl, rfl⟩ := ret_some hm
  exact q [] al H R .refl .nil, fun ρ S ds S' h => by obtain ⟨rfl, _⟩ := ret_some h; rfl⟩
theorem sa_cons {e : Expr} {es : List Expr} {m : ME} {r : MA} (he : Sn X e m) (hr : Sa X es r) (hs : starEach (e :: es) X.env = (false, eval e X.env) :: starEach es X.env := by rfl) : Sa X (e :: es) (mCons m r) :=
  ⟨pa_imp (pa_cons he hr.run hs) fun σ H Q ⟨B, al, S, ρ, d', S', R, er, hm, q⟩ => by
    obtain ⟨d, S1, h1, h2⟩ := bnd_some hm
    obtain ⟨ds, S2, h3, h4⟩ := bnd_some h2
    obtain ⟨rfl, rfl⟩ := ret_some h4
    refine ⟨B, al, S, ρ, d, S1, R, er, h1, fun v al1 H1 R1 x1 r1 => ⟨B, al1, S1, ρ, ds, S2, R1, er.mono R x1, h3, fun vs al2 H2 R2 x2 r2 => ?_⟩⟩
    exact q _ al2 H2 R2 (x1.trans x2) (.cons _ _ _ _ (r1.mono R1 x2) r2), fun ρ S ds S' h => by
    obtain ⟨d, S1, h1, h2⟩ := bnd_some h
    obtain ⟨ds, S2, h3, h4⟩ := bnd_some h2
    obtain ⟨rfl, _⟩ := ret_some h4
    simp [hr.len _ _ _ _ h3]⟩
end

/-! ### displays -/
def mTup (m : MA) : ME := fun ρ => bnd (m ρ) fun ds => ret (.tup ds)
section
variable {X : Cx}
theorem sn_tup {es : List Expr} {m : MA} {pos : Pos} {x1} (h : Sa X es m) (hl : es.length ≤ 1000 := by decide) : Sn X (.Tuple es x1 pos) (mTup m) := pe_imp (pe_tup h.run) fun σ H Q ⟨B, al, S, ρ, d', S', R, er, hm, q⟩ => by
  obtain ⟨ds, S1, h1, h2⟩ := bnd_some hm
  obtain ⟨rfl, rfl⟩ := ret_some h2
  refine ⟨B, al, S, ρ, ds, S1, R, er, h1, fun vs al1 H1 R1 x1 r1 => ⟨?_, fun p hp => ?_⟩⟩
  · rw [← r1.len, h.len _ _ _ _ h1]; exact Nat.le_trans hl (by decide)
  · obtain ⟨x2, R2⟩ := R1.side (o := .tup vs) hp
    exact q _ al1 _ R2 (x1.trans x2) (.tup p ds vs upd_same (r1.mono R1 x2))
theorem sn_lst {es : List Expr} {m : MA} {pos : Pos} (h : Sa X es m) (hl : es.length ≤ 1000 := by decide) : SnF X (.List es pos) m := pe_imp (pe_lst h.run) fun σ H Q ⟨B, al, S, ρ, ds, S1, R, er, h1, q⟩ => by
  refine ⟨B, al, S, ρ, ds, S1, R, er, h1, fun vs al1 H1 R1 x1 r1 => ⟨?_, fun p hp => ?_⟩⟩
  · rw [← r1.len, h.len _ _ _ _ h1]; exact Nat.le_trans hl (by decide)
  · obtain ⟨x2, R2⟩ := R1.ban (o := .lst vs) hp
    have h0 : H p = none := by
      cases hq : H p with
      | none => rfl
      | some o =>
        exfalso
        by_cases hpa : p ∈ al
        · obtain ⟨be, rfl⟩ := x1.pre
          exact R1.fresh hp (List.mem_append_left _ hpa)
        · rw [(x1.fr p o hq hpa).1] at hp; cases hp
    exact q p vs al1 _ R2 (x1.trans x2) h0 upd_same ((r1.ban hp).monoN R1.nt x2)
end

/-! ### operators -/
/-- a two-place operation by values follows one by data -/
def R2S (K : PySem.W.Frag) (r : R2) (f : D → D → M D) : Prop := ∀ (B : Addr → Prop) (al : List Addr) (S : Store) (H : Hp) (d e z : D) (v w : V) (S' : Store), Rel K B al S H → RV K B al H d v → RV K B al H e w → f d e S = some (z, S') →
  ∀ Q : VK, (∀ u al' H', Rel K B al' S' H' → Ex al H al' H' → RV K B al' H' z u → Q u H') → r v w H Q
def mOp (f : D → D → M D) (a b : ME) : ME := fun ρ => bnd (a ρ) fun x => bnd (b ρ) fun y => f x y
section
variable {X : Cx} {a b : Expr} {ma mb : ME} {pos : Pos} {f : D → D → M D} {r : R2}
theorem top_of (hr : R2S X.K r f) : ∀ σ H Q, tE X.K (mOp f ma mb) σ H Q → tOp r (tE X.K ma) (tE X.K mb) σ H Q := fun σ H Q ⟨B, al, S, ρ, z, S', R, er, hm, q⟩ => by
  obtain ⟨d, S1, h1, h2⟩ := bnd_some hm
  obtain ⟨e, S2, h3, h4⟩ := bnd_some h2
  refine ⟨B, al, S, ρ, d, S1, R, er, h1, fun v al1 H1 R1 x1 r1 => ⟨B, al1, S1, ρ, e, S2, R1, er.mono R x1, h3, fun w al2 H2 R2 x2 r2 => ?_⟩⟩
  exact hr B al2 S2 H2 d e z v w S' R2 (r1.mono R1 x2) r2 h4 Q fun u al3 H3 R3 x3 r3 => q u al3 H3 R3 ((x1.trans x2).trans x3) r3
theorem sn_bin {op : Operator} (ho : OpR X (binaryOp op) r) (hr : R2S X.K r f) (ha : Sn X a ma) (hb : Sn X b mb) : Sn X (.BinOp a op b pos) (mOp f ma mb) := pe_imp (pe_op ho ha hb) (top_of hr)
theorem sn_cmp {op : CmpOp} (ho : OpR X (compareOp op) r) (hr : R2S X.K r f) (ha : Sn X a ma) (hb : Sn X b mb) (hm : behindInMarks op b = false) : Sn X (.Compare a [op] [b] pos) (mOp f ma mb) := pe_imp (pe_cmpR ho ha hb hm) (top_of hr)
theorem sn_ix (ho : IxR X r) (hr : R2S X.K r f) (ha : Sn X a ma) (hb : Sn X b mb) (hs : PlainIx b) : Sn X (.Subscript a b pos) (mOp f ma mb) := pe_imp (pe_ix ho ha hb hs) (top_of hr)
/-- a value that is a truth value, as a test -/
def mB (m : ME) : MT := fun ρ => bnd (m ρ) fun d => match d with
  | .bl b => ret b
  | _ => fail
theorem mB_some {m : ME} {ρ : Env} {S S' : Store} {k : Bool} (h : mB m ρ S = some (k, S')) : m ρ S = some (.bl k, S') := by
  obtain ⟨d, S1, h1, h2⟩ := bnd_some h
  split at h2
  · obtain ⟨rfl, rfl⟩ := ret_some h2; exact h1
  · cases h2
theorem tb_of {m : ME} : ∀ σ H Q, tT X.K (mB m) σ H Q → tB (tE X.K m) σ H Q := fun σ H Q ⟨B, al, S, ρ, z, S', R, er, hm, q⟩ =>
  ⟨B, al, S, ρ, .bl z, S', R, er, mB_some hm, fun v al' H' R' x r => by cases r; exact ⟨z, rfl, q z al' H' R' x rfl⟩⟩
theorem ttest_of {m : ME} : ∀ σ H Q, tT X.K (mB m) σ H Q → tTest (tE X.K m) σ H Q := fun σ H Q ⟨B, al, S, ρ, z, S', R, er, hm, q⟩ =>
  ⟨B, al, S, ρ, .bl z, S', R, er, mB_some hm, fun v al' H' R' x r => by cases r; exact ⟨z, rfl, q z al' H' R' x rfl⟩⟩
theorem st_cmp {op : CmpOp} (ho : OpR X (compareOp op) r) (hr : R2S X.K r f) (ha : Sn X a ma) (hb : Sn X b mb) (hm : behindInMarks op b = false) : Stt X (.Compare a [op] [b] pos) (mB (mOp f ma mb)) :=
  pt_imp (pt_cmpR ho ha hb hm) fun σ H Q ⟨B, al, S, ρ, z, S', R, er, hm, q⟩ => top_of hr σ H _ ⟨B, al, S, ρ, .bl z, S', R, er, mB_some hm, fun v al' H' R' x r => by cases r; exact ⟨z, rfl, q z al' H' R' x rfl⟩⟩
theorem st_val {m : ME} (h : Sn X a m) (he : ∀ whole, isTrue a X.env whole = (do let v ← whole; standAt a.pos; holding [v] (truthy v)) := by intro _; rfl) : Stt X a (mB m) := pt_imp (pt_val h he) tb_of
end

/-! ### and, or, not, if -/
def mAnd (a b : MT) : MT := fun ρ => bnd (a ρ) fun x => if x = true then b ρ else ret false
def mOr (a b : MT) : MT := fun ρ => bnd (a ρ) fun x => if x = true then ret true else b ρ
def mNot (a : MT) : MT := fun ρ => bnd (a ρ) fun x => ret (!x)
def mIf (t : MT) (a b : ME) : ME := fun ρ => bnd (t ρ) fun x => if x = true then a ρ else b ρ
def mBl (a : MT) : ME := fun ρ => bnd (a ρ) fun x => ret (.bl x)
/-- a test whatever its whole is -/
def Sw (X : Cx) (e : Expr) (m : MT) : Prop := PW X e (tT X.K m)
section
variable {X : Cx} {a b : Expr} {ma mb : MT} {pos : Pos} {rest : List Expr}
theorem pw_imp {e : Expr} {t t' : TT} (h : PW X e t) (q : ∀ σ H Q, t' σ H Q → t σ H Q) : PW X e t' := ⟨fun wh pins s σ H Q I w => h.run wh pins s σ H Q I (q _ _ _ w)⟩
theorem sw_and1 (h : Stt X a ma) : Sw X (.BoolOp .And [a] pos) ma := pw_and1 h
theorem sw_or1 (h : Stt X a ma) : Sw X (.BoolOp .Or [a] pos) ma := pw_or1 h
theorem sw_and (h : Stt X a ma) (g : Sw X (.BoolOp .And (b :: rest) pos) mb) : Sw X (.BoolOp .And (a :: b :: rest) pos) (mAnd ma mb) := pw_imp (pw_and h g) fun σ H Q ⟨B, al, S, ρ, z, S', R, er, hm, q⟩ => by
  obtain ⟨x, S1, h1, h2⟩ := bnd_some hm
  refine ⟨B, al, S, ρ, x, S1, R, er, h1, fun k al1 H1 R1 x1 e1 => ?_⟩
  subst e1
  cases x with
  | true => exact ⟨B, al1, S1, ρ, z, S', R1, er.mono R x1, h2, fun k al2 H2 R2 x2 e2 => q k al2 H2 R2 (x1.trans x2) e2⟩
  | false => obtain ⟨rfl, rfl⟩ := ret_some h2; exact q false al1 H1 R1 x1 rfl
theorem sw_or (h : Stt X a ma) (g : Sw X (.BoolOp .Or (b :: rest) pos) mb) : Sw X (.BoolOp .Or (a :: b :: rest) pos) (mOr ma mb) := pw_imp (pw_or h g) fun σ H Q ⟨B, al, S, ρ, z, S', R, er, hm, q⟩ => by
  obtain ⟨x, S1, h1, h2⟩ := bnd_some hm
  refine ⟨B, al, S, ρ, x, S1, R, er, h1, fun k al1 H1 R1 x1 e1 => ?_⟩
  subst e1
  cases x with
  | true => obtain ⟨rfl, rfl⟩ := ret_some h2; exact q true al1 H1 R1 x1 rfl
  | false => exact ⟨B, al1, S1, ρ, z, S', R1, er.mono R x1, h2, fun k al2 H2 R2 x2 e2 => q k al2 H2 R2 (x1.trans x2) e2⟩
theorem st_w {e : Expr} {m : MT} (h : Sw X e m) : Stt X e m := h.pt
theorem st_not (h : Stt X a ma) : Stt X (.UnaryOp .Not a pos) (mNot ma) := pt_imp (pt_not h) fun σ H Q ⟨B, al, S, ρ, z, S', R, er, hm, q⟩ => by
  obtain ⟨x, S1, h1, h2⟩ := bnd_some hm
  obtain ⟨rfl, rfl⟩ := ret_some h2
  exact ⟨B, al, S, ρ, x, S1, R, er, h1, fun k al1 H1 R1 x1 e1 => by subst e1; exact q _ al1 H1 R1 x1 rfl⟩
theorem sn_if {c : Expr} {ea eb : Expr} {mc : MT} {na nb : ME} (hc : Stt X c mc) (ha : Sn X ea na) (hb : Sn X eb nb) : Sn X (.IfExp c ea eb pos) (mIf mc na nb) := pe_imp (pe_ifExp hc ha hb) fun σ H Q ⟨B, al, S, ρ, z, S', R, er, hm, q⟩ => by
  obtain ⟨x, S1, h1, h2⟩ := bnd_some hm
  refine ⟨B, al, S, ρ, x, S1, R, er, h1, fun k al1 H1 R1 x1 e1 => ?_⟩
  subst e1
  cases x with
  | true => exact ⟨B, al1, S1, ρ, z, S', R1, er.mono R x1, h2, fun k al2 H2 R2 x2 e2 => q k al2 H2 R2 (x1.trans x2) e2⟩
  | false => exact ⟨B, al1, S1, ρ, z, S', R1, er.mono R x1, h2, fun k al2 H2 R2 x2 e2 => q k al2 H2 R2 (x1.trans x2) e2⟩
/-- as values, truth values all -/
def mAndV (a b : ME) : ME := fun ρ => bnd (mB a ρ) fun x => if x = true then b ρ else ret (.bl false)
def mOrV (a b : ME) : ME := fun ρ => bnd (mB a ρ) fun x => if x = true then ret (.bl true) else b ρ
def mNotV (a : ME) : ME := fun ρ => bnd (mB a ρ) fun x => ret (.bl (!x))
theorem sn_one {op} {m : ME} (h : Sn X a m) : Sn X (.BoolOp op [a] pos) m := pe_one h
theorem sn_and {na nb : ME} (h : Sn X a na) (g : Sn X (.BoolOp .And (b :: rest) pos) nb) : Sn X (.BoolOp .And (a :: b :: rest) pos) (mAndV na nb) := pe_imp (pe_and h g) fun σ H Q ⟨B, al, S, ρ, z, S', R, er, hm, q⟩ => by
  obtain ⟨x, S1, h1, h2⟩ := bnd_some hm
  refine ⟨B, al, S, ρ, .bl x, S1, R, er, mB_some h1, fun v al1 H1 R1 x1 r1 => ?_⟩
  cases r1
  refine ⟨x, rfl, ?_⟩
  cases x with
  | true => exact ⟨B, al1, S1, ρ, z, S', R1, er.mono R x1, h2, fun k al2 H2 R2 x2 e2 => q k al2 H2 R2 (x1.trans x2) e2⟩
  | false => obtain ⟨rfl, rfl⟩ := ret_some h2; exact q _ al1 H1 R1 x1 (.bl _)
theorem sn_or {na nb : ME} (h : Sn X a na) (g : Sn X (.BoolOp .Or (b :: rest) pos) nb) : Sn X (.BoolOp .Or (a :: b :: rest) pos) (mOrV na nb) := pe_imp (pe_or h g) fun σ H Q ⟨B, al, S, ρ, z, S', R, er, hm, q⟩ => by
  obtain ⟨x, S1, h1, h2⟩ := bnd_some hm
  refine ⟨B, al, S, ρ, .bl x, S1, R, er, mB_some h1, fun v al1 H1 R1 x1 r1 => ?_⟩
  cases r1
  refine ⟨x, rfl, ?_⟩
  cases x with
  | true => obtain ⟨rfl, rfl⟩ := ret_some h2; exact q _ al1 H1 R1 x1 (.bl _)
  | false => exact ⟨B, al1, S1, ρ, z, S', R1, er.mono R x1, h2, fun k al2 H2 R2 x2 e2 => q k al2 H2 R2 (x1.trans x2) e2⟩
theorem sn_not {na : ME} (h : Sn X a na) : Sn X (.UnaryOp .Not a pos) (mNotV na) := pe_imp (pe_not h) fun σ H Q ⟨B, al, S, ρ, z, S', R, er, hm, q⟩ => by
  obtain ⟨x, S1, h1, h2⟩ := bnd_some hm
  obtain ⟨rfl, rfl⟩ := ret_some h2
  refine ⟨B, al, S, ρ, .bl x, S1, R, er, mB_some h1, fun v al1 H1 R1 x1 r1 => ?_⟩
  cases r1
  exact ⟨x, rfl, q _ al1 H1 R1 x1 (.bl _)⟩
end
end Z
set_option Elab.async false
set_option linter.all false
set_option maxRecDepth 100000
/-! Reading data: lists behind references, equality; operators over data. -/
namespace Z
open PySem L2

/-! ### no references; references replaced by what they hold -/
mutual
def nr : D → Bool
  | .tup xs => nrs xs
  | .tpx xs => nrs xs
  | .lst xs => nrs xs
  | .ref _ => false
  | .dcf _ => false
  | _ => true
def nrs : List D → Bool
  | [] => true
  | d :: ds => nr d && nrs ds
end
mutual
def rsF (g : Nat → D) : D → D
  | .tup xs => .tup (rsFs g xs)
  | .tpx xs => .tpx (rsFs g xs)
  | .lst xs => .lst (rsFs g xs)
  | .ref n => g n
  | d => d
def rsFs (g : Nat → D) : List D → List D
  | [] => []
  | d :: ds => rsF g d :: rsFs g ds
end
def rsG (S : Store) (h : D → D) (n : Nat) : D := match S[n]? with
  | some (.lst xs) => .lst (xs.map h)
  | _ => .ref n
def rs (S : Store) : Nat → D → D
  | 0 => fun d => d
  | k + 1 => rsF (rsG S (rs S k))
mutual
theorem rsF_nr (g : Nat → D) : ∀ d : D, nr d = true → rsF g d = d
  | .non, _ => rfl
  | .bl _, _ => rfl
  | .int _, _ => rfl
  | .str _, _ => rfl
  | .scr _, _ => rfl
  | .tpi _, _ => rfl
  | .dcf _, h => by simp [nr] at h
  | .tpx xs, h => by unfold rsF; rw [rsFs_nr g xs (by simpa [nr] using h)]
  | .tup xs, h => by unfold rsF; rw [rsFs_nr g xs (by simpa [nr] using h)]
  | .lst xs, h => by unfold rsF; rw [rsFs_nr g xs (by simpa [nr] using h)]
  | .ref _, h => by simp [nr] at h
theorem rsFs_nr (g : Nat → D) : ∀ ds : List D, nrs ds = true → rsFs g ds = ds
  | [], _ => rfl
  | d :: ds, h => by
    simp only [nrs, Bool.and_eq_true] at h
    unfold rsFs
    rw [rsF_nr g d h.1, rsFs_nr g ds h.2]
end
theorem rs_nr (S : Store) (k : Nat) {d : D} (h : nr d = true) : rs S k d = d := by
  cases k with
  | zero => rfl
  | succ k => exact rsF_nr _ d h
theorem nrs_mem {ds : List D} (h : nrs ds = true) : ∀ d ∈ ds, nr d = true := by
  induction ds with
  | nil => intro d hd; cases hd
  | cons c ds ih =>
    simp only [nrs, Bool.and_eq_true] at h
    intro d hd
    rcases List.mem_cons.mp hd with rfl | hd
    · exact h.1
    · exact ih h.2 d hd
theorem nrs_all {ds : List D} (h : ∀ d ∈ ds, nr d = true) : nrs ds = true := by
  induction ds with
  | nil => rfl
  | cons c ds ih => simp [nrs, h c List.mem_cons_self, ih fun d hd => h d (List.mem_cons_of_mem _ hd)]

abbrev B0 : Addr → Prop := fun _ => False
section
variable {K : PySem.W.Frag} {B : Addr → Prop} {al : List Addr} {H : Hp} {S : Store}
theorem rl_map {f : D → D} {C : Addr → Prop} {be : List Addr} : ∀ {ds : List D} {vs : List V}, RL K B al H ds vs → (∀ d v, d ∈ ds → RV K B al H d v → RV K C be H (f d) v) → RL K C be H (ds.map f) vs
  | _, _, .nil, _ => .nil
  | _, _, .cons d v ds vs h r, q => .cons _ _ _ _ (q d v List.mem_cons_self h) (rl_map r fun d v m => q d v (List.mem_cons_of_mem _ m))
mutual
theorem rsF_frz {g : Nat → D} (hg : ∀ (n : Nat) (a : Addr), RV K B al H (.ref n) (.ref a) → nr (g n) = true → RV K B0 [] H (g n) (.ref a)) : ∀ {d : D} {v : V}, RV K B al H d v → nr (rsF g d) = true → RV K B0 [] H (rsF g d) v
  | _, _, .non, _ => .non
  | _, _, .bl b, _ => .bl b
  | _, _, .int i, _ => .int i
  | _, _, .str s, _ => .str s
  | _, _, .tup a ds vs h r, e => .tup a _ vs h (rsFs_frz hg r (by simpa [rsF, nr] using e))
  | _, _, .lst a ds vs h r, e => .lst a _ vs ⟨h.1, by simp, fun z => z⟩ (rsFs_frz hg r (by simpa [rsF, nr] using e))
  | _, _, .scr a ns h, _ => .scr a ns (match h with | .inl ⟨x, y, z⟩ => .inl ⟨x, by simp, fun w => w⟩ | .inr x => .inr x)
  | _, _, .tpi a ns h, _ => .tpi a ns (match h with | ⟨o, ⟨h1, _, _⟩, h4⟩ => ⟨o, ⟨h1, by simp, fun w => w⟩, h4⟩)
  | _, _, .dcf a kvs es h k r, _ => .dcf a kvs es (match h with | ⟨o, ⟨h1, _, _⟩, h4⟩ => ⟨o, ⟨h1, by simp, fun w => w⟩, h4⟩) k (rl_tups (fun _ _ e => e) r)
  | _, _, .tpx a ds vs h r, e => .tpx a _ vs (match h with | ⟨o, ⟨h1, _, _⟩, h4⟩ => ⟨o, ⟨h1, by simp, fun w => w⟩, h4⟩) (rsFs_frz hg r (by simpa [rsF, nr] using e))
  | _, _, .ref n a h, e => hg n a (.ref n a h) (by simpa [rsF] using e)
theorem rsFs_frz {g : Nat → D} (hg : ∀ (n : Nat) (a : Addr), RV K B al H (.ref n) (.ref a) → nr (g n) = true → RV K B0 [] H (g n) (.ref a)) : ∀ {ds : List D} {vs : List V}, RL K B al H ds vs → nrs (rsFs g ds) = true → RL K B0 [] H (rsFs g ds) vs
  | _, _, .nil, _ => .nil
  | _, _, .cons d v ds vs h r, e => .cons _ v _ vs (rsF_frz hg h (by simp [rsFs, nrs] at e; exact e.1)) (rsFs_frz hg r (by simp [rsFs, nrs] at e; exact e.2))
end
/-- what is behind the references, as data that stays while nothing is changed -/
theorem rs_frz (R : Rel K B al S H) : ∀ (k : Nat) {d : D} {v : V}, RV K B al H d v → nr (rs S k d) = true → RV K B0 [] H (rs S k d) v
  | 0, d, v, r, e => by
    have q := rsF_frz (g := fun n => .ref n) (fun n a _ z => by simp [nr] at z) r (by rw [rsF_nr _ d e]; exact e)
    rw [rsF_nr _ d e] at q
    exact q
  | k + 1, d, v, r, e => rsF_frz (fun n a h z => by
    cases ho : S[n]? with
    | none => simp [rsG, ho, nr] at z
    | some o =>
      obtain ⟨ha, oa⟩ := R.look h ho
      cases o with
      | lst xs =>
        obtain ⟨vs, hv, rl⟩ := oa
        simp only [rsG, ho] at z ⊢
        refine .lst a _ vs ⟨hv, by simp, fun w => w⟩ (rl_map rl fun d v m r => rs_frz R k r (nrs_mem (by simpa [nr] using z) _ (List.mem_map_of_mem m)))
      | dct _ => simp [rsG, ho, nr] at z
      | dtt _ => simp [rsG, ho, nr] at z) r e

/-! ### lists and tuples that are read -/
def asL (S : Store) : D → Option (List D)
  | .lst xs => some xs
  | .ref n => match S[n]? with
    | some (.lst xs) => some xs
    | _ => none
  | _ => none
def asSq (S : Store) : D → Option (List D)
  | .tup xs => some xs
  | .scr ns => some (ns.map .int)
  | .tpi ns => some (ns.map .int)
  | .tpx xs => some xs
  | d => asL S d
theorem asL_rep (R : Rel K B al S H) {d : D} {v : V} (r : RV K B al H d v) {xs : List D} (e : asL S d = some xs) : ∃ a vs, v = .ref a ∧ H a = some (.lst vs) ∧ RL K B al H xs vs := by
  cases r with
  | lst a ds vs h r => simp [asL] at e; subst e; exact ⟨a, vs, rfl, h.1, r⟩
  | ref n a h =>
    simp only [asL] at e
    split at e
    · rename_i ys ho
      cases e
      obtain ⟨_, vs, hv, rl⟩ := R.look (.ref n a h) ho
      exact ⟨a, vs, rfl, hv, rl⟩
    · cases e
  | _ => simp [asL] at e
theorem rl_ints : ∀ ns : List Int, RL K B al H (ns.map .int) (ns.map V.int)
  | [] => .nil
  | n :: ns => .cons _ _ _ _ (.int n) (rl_ints ns)
theorem cat_sq {a : Addr} {vs : List V} (h : CAt K B al H a vs) : SqL K H a vs := by
  rcases h with ⟨h, _⟩ | h
  · exact .inl h
  · rcases h with (h | ⟨o, h⟩) | h
    · cases h
    · cases h
    · exact .inr h
theorem xat_sq {a : Addr} {ns : List Int} (h : XAt B al H a ns) : SqT K H a (ns.map V.int) := by
  obtain ⟨o, ⟨h, _⟩, _⟩ := h
  exact .inl (.inr ⟨o, h⟩)
theorem zat_sq {a : Addr} {vs : List V} (h : ZAt B al H a vs) : SqT K H a vs := by
  obtain ⟨o, ⟨h, _⟩, _⟩ := h
  exact .inl (.inr ⟨o, h⟩)
theorem asSq_rep (R : Rel K B al S H) {d : D} {v : V} (r : RV K B al H d v) {xs : List D} (e : asSq S d = some xs) : ∃ a vs, v = .ref a ∧ (SqL K H a vs ∨ SqT K H a vs) ∧ RL K B al H xs vs := by
  cases r with
  | tup a ds vs h r => simp [asSq] at e; subst e; exact ⟨a, vs, rfl, .inr (.of h), r⟩
  | scr a ns h => simp [asSq] at e; subst e; exact ⟨a, _, rfl, .inl (cat_sq h), rl_ints ns⟩
  | tpi a ns h => simp [asSq] at e; subst e; exact ⟨a, _, rfl, .inr (xat_sq h), rl_ints ns⟩
  | tpx a ds vs h r => simp [asSq] at e; subst e; exact ⟨a, vs, rfl, .inr (zat_sq h), r⟩
  | lst a ds vs h r =>
    obtain ⟨b, us, e1, e2, q⟩ := asL_rep R (.lst a ds vs h r) e
    exact ⟨b, us, e1, .inl (.of e2), q⟩
  | ref n a h =>
    obtain ⟨b, us, e1, e2, q⟩ := asL_rep R (.ref n a h) e
    exact ⟨b, us, e1, .inl (.of e2), q⟩
  | _ => simp [asSq, asL] at e
theorem RL.at {xs : List D} {vs : List V} (r : RL K B al H xs vs) {i : Int} {d : D} (h : atI xs i = some d) : ∃ v, atI vs i = some v ∧ RV K B al H d v := by
  unfold atI at h ⊢
  rw [r.len] at h
  cases hx : ixN vs.length i with
  | none => rw [hx] at h; cases h
  | some j => rw [hx] at h; exact r.get h

/-! ### equality, as Python has it -/
mutual
def toP : D → PyData
  | .non => .none
  | .bl b => .bool b
  | .int i => .int i
  | .str x => .str x
  | .tup xs => .tuple (toPs xs)
  | .lst xs => .list (toPs xs)
  | .scr ns => .list (ns.map .int)
  | .tpi ns => .tuple (ns.map .int)
  | .dcf _ => .none
  | .tpx xs => .tuple (toPs xs)
  | .ref _ => .none
def toPs : List D → List PyData
  | [] => []
  | d :: ds => toP d :: toPs ds
end
theorem dp_ints : ∀ ns : List Int, DpAll K H (ns.map V.int) (ns.map .int)
  | [] => .nil
  | n :: ns => .cons (.int n) (dp_ints ns)
mutual
theorem dp_of : ∀ {d : D} {v : V}, RV K B al H d v → nr d = true → Dp K H v (toP d)
  | _, _, .non, _ => .non
  | _, _, .bl b, _ => .bl b
  | _, _, .int i, _ => .int i
  | _, _, .str s, _ => .str s
  | _, _, .tup a ds vs h r, e => .tup (.of h) (dps_of r (by simpa [nr] using e))
  | _, _, .lst a ds vs h r, e => .lst (.of h.1) (dps_of r (by simpa [nr] using e))
  | _, _, .scr a ns h, _ => .lst (cat_sq h) (dp_ints ns)
  | _, _, .tpi a ns h, _ => .tup (xat_sq h) (dp_ints ns)
  | _, _, .dcf a kvs es h k r, e => by simp [nr] at e
  | _, _, .tpx a ds vs h r, e => .tup (zat_sq h) (dps_of r (by simpa [nr] using e))
  | _, _, .ref n a h, e => by simp [nr] at e
theorem dps_of : ∀ {ds : List D} {vs : List V}, RL K B al H ds vs → nrs ds = true → DpAll K H vs (toPs ds)
  | _, _, .nil, _ => .nil
  | _, _, .cons d v ds vs h r, e => .cons (dp_of h (by simp [nrs] at e; exact e.1)) (dps_of r (by simp [nrs] at e; exact e.2))
end
/-- the data that two things are compared as -/
def eqD (S : Store) (d e : D) : Option Bool :=
  let d' := rs S 4 d
  let e' := rs S 4 e
  if nr d' && nr e' && SeqAt.shaped (toP d') && SeqAt.shaped (toP e') then some (PyData.eqv (toP d') (toP e')) else none
def dEq (d e : D) : M D := fun S => (eqD S d e).map fun b => (.bl b, S)
def dNe (d e : D) : M D := fun S => (eqD S d e).map fun b => (.bl (!b), S)
theorem r_eq : R2S K (rEqD K) dEq := fun B al S H d e z v w S' R r1 r2 h Q q => by
  unfold dEq eqD at h
  simp only at h
  split at h
  · rename_i hc
    simp only [Option.map_some, Option.some.injEq, Prod.mk.injEq] at h
    obtain ⟨rfl, rfl⟩ := h
    simp only [Bool.and_eq_true] at hc
    obtain ⟨⟨⟨h1, h2⟩, h3⟩, h4⟩ := hc
    exact ⟨_, _, dp_of (rs_frz R 4 r1 h1) h1, dp_of (rs_frz R 4 r2 h2) h2, h3, h4, q _ al H R .refl (.bl _)⟩
  · cases h
theorem r_ne : R2S K (rNeD K) dNe := fun B al S H d e z v w S' R r1 r2 h Q q => by
  unfold dNe eqD at h
  simp only at h
  split at h
  · rename_i hc
    simp only [Option.map_some, Option.some.injEq, Prod.mk.injEq] at h
    obtain ⟨rfl, rfl⟩ := h
    simp only [Bool.and_eq_true] at hc
    obtain ⟨⟨⟨h1, h2⟩, h3⟩, h4⟩ := hc
    exact ⟨_, _, dp_of (rs_frz R 4 r1 h1) h1, dp_of (rs_frz R 4 r2 h2) h2, h3, h4, q _ al H R .refl (.bl _)⟩
  · cases h
end

/-! ### whole numbers -/
def dI (C : Int → Int → Bool) (g : Int → Int → D) (d e : D) : M D := match d, e with
  | .int i, .int j => if C i j then ret (g i j) else fail
  | _, _ => fail
section
variable {K : PySem.W.Frag}
theorem r_I {C : Int → Int → Prop} {c : Int → Int → Bool} {g : Int → Int → V} {k : Int → Int → D} (hc : ∀ i j, c i j = true → C i j) (hk : ∀ (i j : Int), cV (k i j) = some (g i j)) : R2S K (rI C g) (dI c k) := fun B al S H d e z v w S' R r1 r2 h Q q => by
  unfold dI at h
  split at h
  · rename_i i j
    split at h
    · rename_i h0
      obtain ⟨rfl, rfl⟩ := ret_some h
      cases r1; cases r2
      refine ⟨i, j, rfl, rfl, hc i j h0, q _ al H R .refl ?_⟩
      have := hk i j
      generalize k i j = u at this
      cases u <;> simp [cV] at this <;> rw [← this] <;> constructor
    · cases h
  · cases h
theorem r_I0 {g : Int → Int → V} {k : Int → Int → D} (hk : ∀ (i j : Int), cV (k i j) = some (g i j)) : R2S K (rI0 g) (dI (fun _ _ => true) k) := fun B al S H d e z v w S' R r1 r2 h Q q => by
  obtain ⟨i, j, h1, h2, _, h3⟩ := r_I (C := fun _ _ => True) (K := K) (fun _ _ _ => trivial) hk B al S H d e z v w S' R r1 r2 h Q q
  exact ⟨i, j, h1, h2, h3⟩
theorem R2S.or {r r' : R2} {f f' : D → D → M D} (h : R2S K r f) (h' : R2S K r' f') : R2S K (fun x y H Q => r x y H Q ∨ r' x y H Q) (fun d e S => (f d e S).orElse fun _ => f' d e S) := fun B al S H d e z v w S' R r1 r2 g Q q => by
  cases hf : f d e S with
  | some p =>
    simp only [hf, Option.orElse_some, Option.some.injEq] at g
    exact .inl (h B al S H d e z v w S' R r1 r2 (by rw [hf, g]) Q q)
  | none =>
    simp only [hf, Option.orElse_none] at g
    exact .inr (h' B al S H d e z v w S' R r1 r2 g Q q)
end
end Z
set_option Elab.async false
set_option linter.all false
set_option maxRecDepth 100000
/-! The operators of the text, over data. -/
namespace Z
open PySem L2

/-- the longest list that is made -/
def lim : Nat := 1000000
theorem lim_le {n : Nat} (h : n ≤ lim) : n ≤ sizeLine := Nat.le_trans h (by decide)
theorem lim_lt {n : Nat} (h : n < lim) : n < sizeLine := Nat.lt_of_lt_of_le h (by decide)

section
variable {X : Cx} {K : PySem.W.Frag}
/-! ### a tuple once -/
theorem mul_once (l : Addr) (its : Array Value) (n : Nat) (dd : Option Addr) (sl : Array (Option Value)) (u : Tok) :
    Meets (Builtin.«tuple.__mul__» ⟨[.ref l, .int 1 u], []⟩) (fun _ R s => s.heap.get? l = some { cls := .type "tuple", dict := dd, data := .seq its n, slots := sl } ∧ R (.ok (.ret (Value.ref l))) s) :=
  .of_wp fun prog w A R s h => by
    obtain ⟨hp, g, d, tk, os⟩ := s
    obtain ⟨hl, h⟩ := h
    have f1 := AutoSeq1.idx_int
    wp_walk using wpAny_loadPart' hl
    repeat (first
      | (refine wpAny_ite_false (decide_eq_false (by decide)) ?_; wp_walk using wpAny_loadPart' hl)
      | (refine wpAny_ite_true (decide_eq_true (by simp)) ?_; wp_walk using wpAny_loadPart' hl))
    exact ⟨_, rfl, h⟩
def rOnce (K : PySem.W.Frag) : R2 := fun x y H Q => ∃ l xs, x = .ref l ∧ y = .int 1 ∧ SqT K H l xs ∧ Q (.ref l) H
theorem op_once : OpR X (binaryOp .Mult) (rOnce X.K) := by
  intro pins s σ H x y v u Q I rx ry h
  obtain ⟨l, xs, rfl, rfl, hT, q⟩ := h
  cases rx
  obtain ⟨t, rfl⟩ := ry
  obtain ⟨its, r, ⟨⟨cls, dd, data, sl⟩, ho, hc, n, hd⟩, hs⟩ := I.tuple hT
  simp only at hc hd
  subst hc hd
  refine wpAny_binaryOp_repeat_ref (T := "tuple") (U := "int") (by decide) ⟨_, ho, rfl⟩ (fun s' => typeIs_int s' 1 t) noFill_tuple_mul F.fills_int_mul F.slot_int_rmul repeat_tuple F.slot_int_index.lookup
    (call_meets F.slot_int_rmul (typeIs_int s 1 t) F.entry_int_rmul (F.args_int_rmul_2 _ _) (int_rmul_tuple 1 t l its.toArray n dd sl)
      ⟨ho, rfl, ⟨_, ho, rfl⟩, call_meets F.slot_tuple_mul ⟨_, ho, rfl⟩ F.entry_tuple_mul (F.args_tuple_mul_2 _ _) (mul_once l its.toArray n dd sl t) ⟨ho, ?_⟩⟩)
  exact ⟨.ref l, H, I, rfl, q⟩

/-! ### + -/
def dCatT (d e : D) : M D := match d, e with
  | .tup xs, .tup ys => if xs.length + ys.length ≤ lim then ret (.tup (xs ++ ys)) else fail
  | _, _ => fail
theorem r_catT : R2S K (rCatA K) dCatT := fun B al S H d e z v w S' R r1 r2 h Q q => by
  unfold dCatT at h
  split at h
  · rename_i xs ys
    split at h
    · rename_i hz
      obtain ⟨rfl, rfl⟩ := ret_some h
      cases r1 with
      | tup a _ vs ha ra =>
        cases r2 with
        | tup b _ us hb rb =>
          refine ⟨a, b, vs, us, rfl, rfl, .of ha, .of hb, by rw [← ra.len, ← rb.len]; exact lim_le hz, fun e0 => ?_, fun _ e0 => ?_, fun _ _ p hp => ?_⟩
          · subst e0
            cases ra
            exact q _ al H R .refl (.tup b _ us hb rb)
          · subst e0
            cases rb
            rw [List.append_nil] at q
            exact q _ al H R .refl (.tup a _ vs ha ra)
          · obtain ⟨x, R1⟩ := R.side (o := .tup (vs ++ us)) hp
            exact q _ al _ R1 x (.tup p _ _ upd_same ((ra.append rb).mono R x))
    · cases h
  · cases h
def dCatL (d e : D) : M D := fun S => match asL S d, asL S e with
  | some xs, some ys => if xs.length + ys.length ≤ lim then some (.lst (xs ++ ys), S) else none
  | _, _ => none
theorem lst_side {B : Addr → Prop} {al : List Addr} {S : Store} {H : Hp} {p : Addr} {ds : List D} {vs : List V} (R : Rel K B al S H) (hp : H p = none) (r : RL K B al H ds vs) :
    Rel K B al S (upd H p (.lst vs)) ∧ Ex al H al (upd H p (.lst vs)) ∧ RV K B al (upd H p (.lst vs)) (.lst ds) (.ref p) := by
  obtain ⟨x, R1⟩ := R.side (o := .lst vs) hp
  exact ⟨R1, x, .lst p _ _ ⟨upd_same, R.fresh hp, R.freshB hp⟩ (r.mono R x)⟩
theorem r_catL : R2S K rCat dCatL := fun B al S H d e z v w S' R r1 r2 h Q q => by
  unfold dCatL at h
  split at h
  · rename_i xs ys h1 h2
    split at h
    · rename_i hz
      cases h
      obtain ⟨a, vs, rfl, ha, ra⟩ := asL_rep R r1 h1
      obtain ⟨b, us, rfl, hb, rb⟩ := asL_rep R r2 h2
      refine ⟨a, b, vs, us, rfl, rfl, ha, hb, by rw [← ra.len, ← rb.len]; exact lim_le hz, fun p hp => ?_⟩
      obtain ⟨R1, x, r⟩ := lst_side R hp (ra.append rb)
      exact q _ al _ R1 x r
    · cases h
  · cases h
abbrev dAddI : D → D → M D := dI (fun _ _ => true) fun i j => .int (i + j)
def dAdd (d e : D) : M D := fun S => (dAddI d e S).orElse fun _ => ((dCatT d e S).orElse fun _ => dCatL d e S)
theorem b_add : OpR X (binaryOp .Add) (fun x y H Q => rI0 (fun i j => .int (i + j)) x y H Q ∨ (rCatA X.K x y H Q ∨ rCat x y H Q)) := op_add.or (op_catA.or op_cat)
theorem r_add : R2S K (fun x y H Q => rI0 (fun i j => .int (i + j)) x y H Q ∨ (rCatA K x y H Q ∨ rCat x y H Q)) dAdd := (r_I0 fun _ _ => rfl).or (r_catT.or r_catL)
abbrev dSub : D → D → M D := dI (fun _ _ => true) fun i j => .int (i - j)
theorem r_sub : R2S K (rI0 fun i j => .int (i - j)) dSub := r_I0 fun _ _ => rfl

/-! ### times -/
def dRepT (d e : D) : M D := match d, e with
  | .tup xs, .int k => if k = 1 then ret (.tup xs) else if 2 ≤ k ∧ k ≤ 1000 ∧ xs ≠ [] ∧ xs.length ≤ 1000 then ret (.tup (List.replicate k.toNat xs).flatten) else fail
  | _, _ => fail
theorem RL.rep {B : Addr → Prop} {al : List Addr} {H : Hp} {ds : List D} {vs : List V} (r : RL K B al H ds vs) : ∀ k : Nat, RL K B al H (List.replicate k ds).flatten (List.replicate k vs).flatten
  | 0 => .nil
  | k + 1 => by simp only [List.replicate_succ, List.flatten_cons]; exact r.append (r.rep k)
theorem r_repT : R2S K (fun x y H Q => rOnce K x y H Q ∨ rRepT K x y H Q) dRepT := fun B al S H d e z v w S' R r1 r2 h Q q => by
  unfold dRepT at h
  split at h
  · rename_i xs k
    cases r2
    cases r1 with
    | tup a _ vs ha ra =>
      split at h
      · rename_i hk
        subst hk
        obtain ⟨rfl, rfl⟩ := ret_some h
        exact .inl ⟨a, vs, rfl, rfl, .of ha, q _ al H R .refl (.tup a _ vs ha ra)⟩
      · split at h
        · rename_i hk
          obtain ⟨rfl, rfl⟩ := ret_some h
          have hl := ra.len
          refine .inr ⟨a, k, vs, rfl, rfl, .of ha, fun e0 => hk.2.2.1 ?_, hk.1, hk.2.1, by rw [← hl]; exact hk.2.2.2, fun p hp => ?_⟩
          · subst e0; cases ra; rfl
          · obtain ⟨x, R1⟩ := R.side (o := .tup (List.replicate k.toNat vs).flatten) hp
            exact q _ al _ R1 x (.tup p _ _ upd_same ((ra.rep _).mono R x))
        · cases h
  · cases h
def dRepL (d e : D) : M D := fun S => match asL S d, e with
  | some xs, .int k => if -1000 ≤ k ∧ k ≤ 1000 ∧ xs.length * k.toNat ≤ lim then some (.lst (List.replicate k.toNat xs).flatten, S) else none
  | _, _ => none
theorem r_repL : R2S K rRep dRepL := fun B al S H d e z v w S' R r1 r2 h Q q => by
  unfold dRepL at h
  split at h
  · rename_i xs k h1
    split at h
    · rename_i hk
      cases h
      cases r2
      obtain ⟨a, vs, rfl, ha, ra⟩ := asL_rep R r1 h1
      refine ⟨a, k, vs, rfl, rfl, ha, by omega, by omega, by rw [← ra.len]; exact lim_le hk.2.2, fun p hp => ?_⟩
      obtain ⟨R1, x, r⟩ := lst_side R hp (ra.rep k.toNat)
      exact q _ al _ R1 x r
    · cases h
  · cases h
abbrev dMulI : D → D → M D := dI (fun i j => decide (-(2 ^ 64) < i ∧ i < 2 ^ 64) || decide (-(2 ^ 64) < j ∧ j < 2 ^ 64)) fun i j => .int (i * j)
def dMul (d e : D) : M D := fun S => (dMulI d e S).orElse fun _ => ((dRepT d e S).orElse fun _ => dRepL d e S)
theorem b_mul : OpR X (binaryOp .Mult) (fun x y H Q => rI CMul (fun i j => .int (i * j)) x y H Q ∨ ((rOnce X.K x y H Q ∨ rRepT X.K x y H Q) ∨ rRep x y H Q)) := op_mul.or ((op_once.or op_repT).or op_rep)
theorem r_mul : R2S K (fun x y H Q => rI CMul (fun i j => .int (i * j)) x y H Q ∨ ((rOnce K x y H Q ∨ rRepT K x y H Q) ∨ rRep x y H Q)) dMul :=
  (r_I (fun i j h => by simpa [CMul] using h) fun _ _ => rfl).or (r_repT.or r_repL)
abbrev dMod : D → D → M D := dI (fun _ j => decide (0 < j)) fun i j => .int (i % j)
theorem r_mod : R2S K (rI (fun _ j => 0 < j) fun i j => .int (i % j)) dMod := r_I (fun _ _ h => of_decide_eq_true h) fun _ _ => rfl
abbrev dDiv : D → D → M D := dI (fun _ j => decide (0 < j ∧ j < 1073741824)) fun i j => .int (i / j)
theorem r_div : R2S K (rI CDiv fun i j => .int (i / j)) dDiv := r_I (fun i j h => by simpa [CDiv] using h) fun _ _ => rfl
abbrev dPow : D → D → M D := dI (fun i j => decide (0 ≤ j ∧ j ≤ 1000000 ∧ i.natAbs < 2 ^ 64)) fun i j => .int (i ^ j.toNat)
theorem r_pow : R2S K (rI CPow fun i j => .int (i ^ j.toNat)) dPow := r_I (fun i j h => by simpa [CPow] using h) fun _ _ => rfl

/-! ### order, is -/
abbrev dLt : D → D → M D := dI (fun _ _ => true) fun i j => .bl (decide (i < j))
abbrev dLe : D → D → M D := dI (fun _ _ => true) fun i j => .bl (decide (i ≤ j))
abbrev dGt : D → D → M D := dI (fun _ _ => true) fun i j => .bl (decide (j < i))
abbrev dGe : D → D → M D := dI (fun _ _ => true) fun i j => .bl (decide (j ≤ i))
theorem r_lt : R2S K (rI0 fun i j => .bl (decide (i < j))) dLt := r_I0 fun _ _ => rfl
theorem r_le : R2S K (rI0 fun i j => .bl (decide (i ≤ j))) dLe := r_I0 fun _ _ => rfl
theorem r_gt : R2S K (rI0 fun i j => .bl (decide (j < i))) dGt := r_I0 fun _ _ => rfl
theorem r_ge : R2S K (rI0 fun i j => .bl (decide (j ≤ i))) dGe := r_I0 fun _ _ => rfl
def isN : D → Bool
  | .non => true
  | _ => false
theorem isN_eq {B : Addr → Prop} {al : List Addr} {H : Hp} {d : D} {v : V} (r : RV K B al H d v) : decide (v = .non) = isN d := by
  cases r <;> simp [isN]
def dIs (d e : D) : M D := if isN e then ret (.bl (isN d)) else fail
def dIsNot (d e : D) : M D := if isN e then ret (.bl (!isN d)) else fail
theorem r_is : R2S K (fun x y H Q => y = .non ∧ Q (.bl (decide (x = .non))) H) dIs := fun B al S H d e z v w S' R r1 r2 h Q q => by
  unfold dIs at h
  split at h
  · rename_i he
    obtain ⟨rfl, rfl⟩ := ret_some h
    refine ⟨of_decide_eq_true (by rw [isN_eq r2]; exact he), ?_⟩
    rw [isN_eq r1]
    exact q _ al H R .refl (.bl _)
  · cases h
theorem r_isNot : R2S K (fun x y H Q => y = .non ∧ Q (.bl (!decide (x = .non))) H) dIsNot := fun B al S H d e z v w S' R r1 r2 h Q q => by
  unfold dIsNot at h
  split at h
  · rename_i he
    obtain ⟨rfl, rfl⟩ := ret_some h
    refine ⟨of_decide_eq_true (by rw [isN_eq r2]; exact he), ?_⟩
    rw [isN_eq r1]
    exact q _ al H R .refl (.bl _)
  · cases h

/-! ### in -/
def vOf : D → V
  | .bl b => .bl b
  | .int i => .int i
  | .str x => .str x
  | _ => .non
def flatD : D → Bool
  | .non => true
  | .bl _ => true
  | .int _ => true
  | .str _ => true
  | _ => false
theorem flat_v {B : Addr → Prop} {al : List Addr} {H : Hp} {d : D} {v : V} (r : RV K B al H d v) (f : flatD d = true) : v = vOf d ∧ flatV v = true := by
  cases r <;> simp [flatD] at f <;> exact ⟨rfl, rfl⟩
theorem flat_vs {B : Addr → Prop} {al : List Addr} {H : Hp} : ∀ {ds : List D} {vs : List V}, RL K B al H ds vs → ds.all flatD = true → vs = ds.map vOf ∧ vs.all flatV = true
  | _, _, .nil, _ => ⟨rfl, rfl⟩
  | _, _, .cons d v ds vs h r, f => by
    simp only [List.all_cons, Bool.and_eq_true] at f
    obtain ⟨e1, f1⟩ := flat_v h f.1
    obtain ⟨e2, f2⟩ := flat_vs r f.2
    exact ⟨by rw [e1, e2]; rfl, by simp [f1, f2]⟩
def dInS (neg : Bool) (d e : D) : M D := fun S => match asSq S e with
  | some xs => if flatD d && xs.all flatD then some (.bl (if neg then !inV (vOf d) (xs.map vOf) else inV (vOf d) (xs.map vOf)), S) else none
  | none => none
theorem r_inS {neg : Bool} : R2S K (rIn K neg) (dInS neg) := fun B al S H d e z v w S' R r1 r2 h Q q => by
  unfold dInS at h
  split at h
  · rename_i xs h1
    split at h
    · rename_i hf
      cases h
      simp only [Bool.and_eq_true] at hf
      obtain ⟨a, vs, rfl, ha, ra⟩ := asSq_rep R r2 h1
      obtain ⟨e1, f1⟩ := flat_v r1 hf.1
      obtain ⟨e2, f2⟩ := flat_vs ra hf.2
      refine ⟨a, vs, rfl, ha, f1, f2, ?_⟩
      rw [e1, e2]
      exact q _ al H R .refl (.bl _)
    · cases h
  · cases h

/-! ### an item -/
def dIx (d e : D) : M D := fun S => match asSq S d, e with
  | some xs, .int i => (atI xs i).map fun x => (x, S)
  | _, _ => none
theorem r_ix : R2S K (fun x y H Q => rIxL K x y H Q ∨ rIxT K x y H Q) dIx := fun B al S H d e z v w S' R r1 r2 h Q q => by
  unfold dIx at h
  split at h
  · rename_i xs i h1
    cases hx : atI xs i with
    | none => rw [hx] at h; cases h
    | some x =>
      rw [hx] at h
      cases h
      obtain ⟨a, vs, rfl, ha, ra⟩ := asSq_rep R r1 h1
      obtain ⟨u, e1, ru⟩ := ra.at hx
      cases r2
      rcases ha with ha | ha
      · exact .inl ⟨a, vs, i, u, rfl, rfl, ha, e1, q _ al H R .refl ru⟩
      · exact .inr ⟨a, vs, i, u, rfl, rfl, ha, e1, q _ al H R .refl ru⟩
  · cases h
theorem b_ix : IxR X (fun x y H Q => rIxL X.K x y H Q ∨ rIxT X.K x y H Q) := ix_list.or ix_tup
end
end Z
set_option Elab.async false
set_option linter.all false
set_option maxRecDepth 100000
/-! Slices, chains, calls of built-ins. -/
namespace Z
open PySem L2

/-! ### a new list from values -/
theorem fresh_al {al al1 : List Addr} {H H1 : Hp} {p : Addr} (x : Ex al H al1 H1) (R : p ∉ al1) (hp : H1 p = none) : H p = none := by
  cases hq : H p with
  | none => rfl
  | some o =>
    exfalso
    by_cases hpa : p ∈ al
    · obtain ⟨be, rfl⟩ := x.pre
      exact R (List.mem_append_left _ hpa)
    · rw [(x.fr p o hq hpa).1] at hp; cases hp
section
variable {K : PySem.W.Frag} {B : Addr → Prop} {al al1 : List Addr} {S S1 : Store} {H H1 : Hp} {p : Addr}
/-- what SnF is asked: a new list laid -/
theorem new_F (R : Rel K B al1 S1 H1) (x : Ex al H al1 H1) (hp : H1 p = none) {ds : List D} {vs : List V} (r : RL K B al1 H1 ds vs) :
    Rel K (Bp B p) al1 S1 (upd H1 p (.lst vs)) ∧ Ex al H al1 (upd H1 p (.lst vs)) ∧ H p = none ∧ upd H1 p (.lst vs) p = some (.lst vs) ∧ RL K (Bp B p) al1 (upd H1 p (.lst vs)) ds vs := by
  obtain ⟨x2, R2⟩ := R.ban (o := .lst vs) hp
  exact ⟨R2, x.trans x2, fresh_al x (R.fresh hp) hp, upd_same, (r.ban hp).monoN R.nt x2⟩
end

/-! ### slices -/
structure So (X : Cx) (e : Option Expr) (m : Env → M (Option Int)) : Prop where
  run : PO X e (tO X.K m)
def mNoPart : Env → M (Option Int) := fun _ => ret none
def mPart (m : ME) : Env → M (Option Int) := fun ρ => bnd (m ρ) fun d => match d with
  | .int i => ret (some i)
  | _ => fail
def cutD (xs : List D) (lo hi : Option Int) : List D := (xs.drop (HT.sIx xs.length 0 lo)).take (HT.sIx xs.length xs.length hi - HT.sIx xs.length 0 lo)
def mSlT (m : ME) (lo hi : Env → M (Option Int)) : ME := fun ρ => bnd (m ρ) fun d => bnd (lo ρ) fun l => bnd (hi ρ) fun h => match d with
  | .tup xs => ret (.tup (cutD xs l h))
  | _ => fail
def mSlL (m : ME) (lo hi : Env → M (Option Int)) : MA := fun ρ => bnd (m ρ) fun d => bnd (lo ρ) fun l => bnd (hi ρ) fun h => fun S => match asL S d with
  | some xs => some (cutD xs l h, S)
  | none => none
section
variable {X : Cx}
theorem po_imp {e : Option Expr} {t t' : TO} (h : PO X e t) (q : ∀ σ H Q, t' σ H Q → t σ H Q) : PO X e t' := ⟨fun pins s σ H Q I w => h.run pins s σ H Q I (q _ _ _ w)⟩
theorem so_none : So X none mNoPart := ⟨po_imp po_none fun σ H Q ⟨B, al, S, ρ, d', S', R, er, hm, q⟩ => by
  obtain ⟨rfl, rfl⟩ := ret_some hm
  exact q none al H R .refl rfl⟩
theorem so_some {e : Expr} {m : ME} (h : Sn X e m) : So X (some e) (mPart m) := ⟨po_imp (po_some h) fun σ H Q ⟨B, al, S, ρ, d', S', R, er, hm, q⟩ => by
  obtain ⟨d, S1, h1, h2⟩ := bnd_some hm
  split at h2
  · rename_i i
    obtain ⟨rfl, rfl⟩ := ret_some h2
    exact ⟨B, al, S, ρ, _, S1, R, er, h1, fun v al1 H1 R1 x1 r1 => by cases r1; exact ⟨i, rfl, q _ al1 H1 R1 x1 rfl⟩⟩
  · cases h2⟩
theorem RL.cut {K : PySem.W.Frag} {B : Addr → Prop} {al : List Addr} {H : Hp} {ds : List D} {vs : List V} (r : RL K B al H ds vs) (lo hi : Option Int) : RL K B al H (cutD ds lo hi) (cutV vs lo hi) := by
  unfold cutD cutV
  rw [r.len]
  exact (r.drop _).take _
theorem sn_slT {e : Expr} {lo hi : Option Expr} {m : ME} {ml mh : Env → M (Option Int)} {p2 pos : Pos} (he : Sn X e m) (hl : So X lo ml) (hh : So X hi mh) : Sn X (.Subscript e (.Slice lo hi none p2) pos) (mSlT m ml mh) :=
  pe_imp (pe_slice sl_tupA he hl.run hh.run) fun σ H Q ⟨B, al, S, ρ, d', S', R, er, hm, q⟩ => by
    obtain ⟨d, S1, h1, h2⟩ := bnd_some hm
    obtain ⟨l, S2, h3, h4⟩ := bnd_some h2
    obtain ⟨u, S3, h5, h6⟩ := bnd_some h4
    split at h6
    · rename_i xs
      obtain ⟨rfl, rfl⟩ := ret_some h6
      refine ⟨B, al, S, ρ, _, S1, R, er, h1, fun v al1 H1 R1 x1 r1 => ⟨B, al1, S1, ρ, l, S2, R1, er.mono R x1, h3, fun l' al2 H2 R2 x2 e2 => ?_⟩⟩
      subst e2
      refine ⟨B, al2, S2, ρ, u, S3, R2, (er.mono R x1).mono R1 x2, h5, fun u' al3 H3 R3 x3 e3 => ?_⟩
      subst e3
      have r3 := (r1.mono R1 x2).mono R2 x3
      cases r3 with
      | tup a _ vs ha ra =>
        refine ⟨a, vs, rfl, .of ha, fun hw => ?_, fun _ p hp => ?_⟩
        · have e0 : cutD xs l u = xs := by
            unfold cutD
            rw [ra.len, hw.1, hw.2, List.drop_zero, Nat.sub_zero]
            exact List.take_of_length_le (by rw [ra.len]; exact Nat.le_refl _)
          rw [e0] at q
          exact q _ al3 H3 R3 ((x1.trans x2).trans x3) (.tup a _ vs ha ra)
        · obtain ⟨x4, R4⟩ := R3.side (o := .tup (cutV vs l u)) hp
          exact q _ al3 _ R4 (((x1.trans x2).trans x3).trans x4) (.tup p _ _ upd_same ((ra.cut l u).mono R3 x4))
    · cases h6
theorem sn_slL {e : Expr} {lo hi : Option Expr} {m : ME} {ml mh : Env → M (Option Int)} {p2 pos : Pos} (he : Sn X e m) (hl : So X lo ml) (hh : So X hi mh) : SnF X (.Subscript e (.Slice lo hi none p2) pos) (mSlL m ml mh) :=
  pe_imp (pe_slice sl_list he hl.run hh.run) fun σ H Q ⟨B, al, S, ρ, d', S', R, er, hm, q⟩ => by
    obtain ⟨d, S1, h1, h2⟩ := bnd_some hm
    obtain ⟨l, S2, h3, h4⟩ := bnd_some h2
    obtain ⟨u, S3, h5, h6⟩ := bnd_some h4
    split at h6
    · rename_i xs h7
      cases h6
      refine ⟨B, al, S, ρ, _, S1, R, er, h1, fun v al1 H1 R1 x1 r1 => ⟨B, al1, S1, ρ, l, S2, R1, er.mono R x1, h3, fun l' al2 H2 R2 x2 e2 => ?_⟩⟩
      subst e2
      refine ⟨B, al2, S2, ρ, u, _, R2, (er.mono R x1).mono R1 x2, h5, fun u' al3 H3 R3 x3 e3 => ?_⟩
      subst e3
      obtain ⟨a, vs, rfl, ha, ra⟩ := asL_rep R3 ((r1.mono R1 x2).mono R2 x3) h7
      refine ⟨a, vs, rfl, .of ha, fun p hp => ?_⟩
      obtain ⟨g1, g2, g3, g4, g5⟩ := new_F R3 ((x1.trans x2).trans x3) hp (ra.cut l u)
      exact q p _ al3 _ g1 g2 g3 g4 g5
    · cases h6
/-- xs[::-1] -/
def mRev (m : ME) : MA := fun ρ => bnd (m ρ) fun d => fun S => match asL S d with
  | some xs => some (xs.reverse, S)
  | none => none
theorem sn_rev {e : Expr} {m : ME} {p1 p2 p3 pos : Pos} {k} (he : Sn X e m) : SnF X (.Subscript e (.Slice none none (some (.UnaryOp .USub (.Constant (.int 1) k p1) p2)) p3) pos) (mRev m) :=
  pe_imp (pe_revL he) fun σ H Q ⟨B, al, S, ρ, d', S', R, er, hm, q⟩ => by
    obtain ⟨d, S1, h1, h2⟩ := bnd_some hm
    split at h2
    · rename_i xs h3
      cases h2
      refine ⟨B, al, S, ρ, _, _, R, er, h1, fun v al1 H1 R1 x1 r1 => ?_⟩
      obtain ⟨a, vs, rfl, ha, ra⟩ := asL_rep R1 r1 h3
      refine ⟨a, vs, rfl, .of ha, fun p hp => ?_⟩
      obtain ⟨g1, g2, g3, g4, g5⟩ := new_F R1 x1 hp ra.rev
      exact q p _ al1 _ g1 g2 g3 g4 g5
    · cases h2

/-! ### a < b < c -/
def mChain (f g : D → D → M D) (a b c : ME) : ME := fun ρ => bnd (a ρ) fun x => bnd (b ρ) fun y => bnd (f x y) fun z => match z with
  | .bl true => bnd (c ρ) fun w => g y w
  | .bl false => ret (.bl false)
  | _ => fail
theorem chain_of {r r' : R2} {f g : D → D → M D} {ma mb mc : ME} (hr : R2S X.K r f) (hr' : R2S X.K r' g) : ∀ σ H Q, tE X.K (mChain f g ma mb mc) σ H Q → tChain r r' (tE X.K ma) (tE X.K mb) (tE X.K mc) σ H Q := fun σ H Q ⟨B, al, S, ρ, z, S', R, er, hm, q⟩ => by
  obtain ⟨d, S1, h1, h2⟩ := bnd_some hm
  obtain ⟨e, S2, h3, h4⟩ := bnd_some h2
  obtain ⟨k, S3, h5, h6⟩ := bnd_some h4
  refine ⟨B, al, S, ρ, d, S1, R, er, h1, fun v al1 H1 R1 x1 r1 => ⟨B, al1, S1, ρ, e, S2, R1, er.mono R x1, h3, fun w al2 H2 R2 x2 r2 => ?_⟩⟩
  refine hr B al2 S2 H2 d e k v w S3 R2 (r1.mono R1 x2) r2 h5 _ fun u al3 H3 R3 x3 r3 => ?_
  split at h6
  · cases r3
    refine ⟨true, rfl, ?_⟩
    obtain ⟨c, S4, h7, h8⟩ := bnd_some h6
    refine ⟨B, al3, S3, ρ, c, S4, R3, ((er.mono R x1).mono R1 x2).mono R2 x3, h7, fun w4 al4 H4 R4 x4 r4 => ?_⟩
    refine hr' B al4 S4 H4 e c z w w4 S' R4 ((r2.mono R2 x3).mono R3 x4) r4 h8 _ fun u5 al5 H5 R5 x5 r5 => ?_
    exact q _ al5 H5 R5 ((((x1.trans x2).trans x3).trans x4).trans x5) r5
  · cases r3
    refine ⟨false, rfl, ?_⟩
    obtain ⟨rfl, rfl⟩ := ret_some h6
    exact q _ al3 H3 R3 ((x1.trans x2).trans x3) (.bl _)
  · cases h6
section
variable {op op' : CmpOp} {r r' : R2} {f g : D → D → M D} {a b c : Expr} {ma mb mc : ME} {pos : Pos}
theorem sn_chain (ho : OpR X (compareOp op) r) (ho' : OpR X (compareOp op') r') (hr : R2S X.K r f) (hr' : R2S X.K r' g) (ha : Sn X a ma) (hb : Sn X b mb) (hc : Sn X c mc)
    (hm : lastMarks [op, op'] [b, c] = false) : Sn X (.Compare a [op, op'] [b, c] pos) (mChain f g ma mb mc) := pe_imp (pe_chain ho ho' ha hb hc hm) (chain_of hr hr')
theorem st_chain (ho : OpR X (compareOp op) r) (ho' : OpR X (compareOp op') r') (hr : R2S X.K r f) (hr' : R2S X.K r' g) (ha : Sn X a ma) (hb : Sn X b mb) (hc : Sn X c mc)
    (hm : lastMarks [op, op'] [b, c] = false) : Stt X (.Compare a [op, op'] [b, c] pos) (mB (mChain f g ma mb mc)) :=
  pt_imp (pt_chain ho ho' ha hb hc hm) fun σ H Q ⟨B, al, S, ρ, z, S', R, er, hm, q⟩ => chain_of hr hr' σ H _ ⟨B, al, S, ρ, .bl z, S', R, er, mB_some hm, fun v al' H' R' x r => by cases r; exact ⟨z, rfl, q z al' H' R' x rfl⟩⟩
end

/-! ### truth of a value of any kind -/
def truD (S : Store) : D → Option Bool
  | .bl b => some b
  | .non => some false
  | .int i => some (i != 0)
  | .tup xs => some (!xs.isEmpty)
  | .tpx xs => some (!xs.isEmpty)
  | d => (asL S d).map fun xs => !xs.isEmpty
def mTru (m : ME) : MT := fun ρ => bnd (m ρ) fun d => fun S => (truD S d).map fun b => (b, S)
theorem RL.emp {K : PySem.W.Frag} {B : Addr → Prop} {al : List Addr} {H : Hp} {ds : List D} {vs : List V} (r : RL K B al H ds vs) : ds.isEmpty = vs.isEmpty := by cases r <;> rfl

theorem st_tru {a : Expr} {m : ME} (h : Sn X a m) (he : ∀ whole, isTrue a X.env whole = (do let v ← whole; standAt a.pos; holding [v] (truthy v)) := by intro _; rfl) : Stt X a (mTru m) :=
  pt_imp (pt_truth h he) fun σ H Q ⟨B, al, S, ρ, z, S', R, er, hm, q⟩ => by
    obtain ⟨d, S1, h1, h2⟩ := bnd_some hm
    refine ⟨B, al, S, ρ, d, S1, R, er, h1, fun v al1 H1 R1 x1 r1 => ⟨z, ?_, ?_⟩⟩
    · cases ht : truD S1 d with
      | none => rw [ht] at h2; cases h2
      | some b =>
        rw [ht] at h2
        simp only [Option.map_some, Option.some.injEq, Prod.mk.injEq] at h2
        obtain ⟨rfl, rfl⟩ := h2
        cases r1 with
        | non => cases ht; rfl
        | bl b => cases ht; rfl
        | int i => cases ht; rfl
        | str x => simp [truD, asL] at ht
        | tup a ds vs h r => cases ht; exact .inr (.inl ⟨vs, .of h, by rw [r.emp]⟩)
        | lst a ds vs h r => cases ht; exact .inl ⟨vs, .of h.1, by show (!ds.isEmpty) = _; rw [r.emp]⟩
        | scr a ns h => simp [truD, asL] at ht
        | tpi a ns h => simp [truD, asL] at ht
        | dcf a kvs es h k r => simp [truD, asL] at ht
        | tpx a ds vs h r => cases ht; exact .inr (.inl ⟨vs, zat_sq h, by rw [r.emp]⟩)
        | ref n a h =>
          simp only [truD] at ht
          cases hx : asL S1 (.ref n) with
          | none => rw [hx] at ht; cases ht
          | some xs =>
            rw [hx] at ht
            cases ht
            obtain ⟨b, vs, e, hb, rb⟩ := asL_rep R1 (.ref n a h) hx
            cases e
            exact .inl ⟨vs, .of hb, by show (!xs.isEmpty) = _; rw [rb.emp]⟩
    · cases ht : truD S1 d with
      | none => rw [ht] at h2; cases h2
      | some b =>
        rw [ht] at h2
        simp only [Option.map_some, Option.some.injEq, Prod.mk.injEq] at h2
        obtain ⟨rfl, rfl⟩ := h2
        exact q _ al1 H1 R1 x1 rfl

/-! ### calls of built-ins -/
def CRS (K : PySem.W.Frag) (r : List V → Hp → VK → Prop) (f : List D → M D) : Prop := ∀ (B : Addr → Prop) (al : List Addr) (S : Store) (H : Hp) (ds : List D) (z : D) (vs : List V) (S' : Store), Rel K B al S H → RL K B al H ds vs → f ds S = some (z, S') →
  ∀ Q : VK, (∀ u al' H', Rel K B al' S' H' → Ex al H al' H' → RV K B al' H' z u → Q u H') → r vs H Q
/-- .. that make a new list -/
def CRF (K : PySem.W.Frag) (r : List V → Hp → VK → Prop) (f : List D → M (List D)) : Prop := ∀ (B : Addr → Prop) (al : List Addr) (S : Store) (H : Hp) (ds : List D) (zs : List D) (vs : List V) (S' : Store), Rel K B al S H → RL K B al H ds vs → f ds S = some (zs, S') →
  ∀ Q : VK, (∀ p us al' H', Rel K (Bp B p) al' S' H' → Ex al H al' H' → H p = none → H' p = some (.lst us) → RL K (Bp B p) al' H' zs us → Q (.ref p) H') → r vs H Q
def mCB (f : List D → M D) (m : MA) : ME := fun ρ => bnd (m ρ) f
def mCF (f : List D → M (List D)) (m : MA) : MA := fun ρ => bnd (m ρ) f
theorem tcb_of {r : List V → Hp → VK → Prop} {f : List D → M D} {m : MA} (hr : CRS X.K r f) : ∀ σ H Q, tE X.K (mCB f m) σ H Q → tCB r (tA X.K m) σ H Q := fun σ H Q ⟨B, al, S, ρ, z, S', R, er, hm, q⟩ => by
  obtain ⟨ds, S1, h1, h2⟩ := bnd_some hm
  exact ⟨B, al, S, ρ, ds, S1, R, er, h1, fun vs al1 H1 R1 x1 r1 => hr B al1 S1 H1 ds z vs S' R1 r1 h2 Q fun u al2 H2 R2 x2 r2 => q u al2 H2 R2 (x1.trans x2) r2⟩
theorem tcf_of {r : List V → Hp → VK → Prop} {f : List D → M (List D)} {m : MA} (hr : CRF X.K r f) : ∀ σ H Q, tF X.K (mCF f m) σ H Q → tCB r (tA X.K m) σ H Q := fun σ H Q ⟨B, al, S, ρ, zs, S', R, er, hm, q⟩ => by
  obtain ⟨ds, S1, h1, h2⟩ := bnd_some hm
  refine ⟨B, al, S, ρ, ds, S1, R, er, h1, fun vs al1 H1 R1 x1 r1 => hr B al1 S1 H1 ds zs vs S' R1 r1 h2 Q fun p us al2 H2 R2 x2 h0 hp r2 => q p us al2 H2 R2 (x1.trans x2) ?_ hp r2⟩
  exact fresh_al x1 (R1.fresh h0) h0
section
variable {x : Str} {p pos : Pos} {e : Expr} {es : List Expr} {id : String} {r : List V → Hp → VK → Prop} {m : MA}
theorem sn_cB {f : List D → M D} (hc : CallR X (.builtin id) r) (hr : CRS X.K r f) (hg : Gl X x) (hm : X.mg x = none) (hv : bootBuiltins x = some (.builtin id)) (ha : Sa X (e :: es) m)
    (h : PE X (.Call (.Name x p) (e :: es) [] pos) (tCB r (tA X.K m))) : Sn X (.Call (.Name x p) (e :: es) [] pos) (mCB f m) := pe_imp h (tcb_of hr)
end
theorem sn_cb {E : Expr} {r : List V → Hp → VK → Prop} {m : MA} {f : List D → M D} (hr : CRS X.K r f) (h : PE X E (tCB r (tA X.K m))) : Sn X E (mCB f m) := pe_imp h (tcb_of hr)
theorem sn_cf {E : Expr} {r : List V → Hp → VK → Prop} {m : MA} {f : List D → M (List D)} (hr : CRF X.K r f) (h : PE X E (tCB r (tA X.K m))) : SnF X E (mCF f m) := pe_imp h (tcf_of hr)
end

section
variable {K : PySem.W.Frag}
theorem CRS.or {r r' : List V → Hp → VK → Prop} {f f' : List D → M D} (h : CRS K r f) (h' : CRS K r' f') : CRS K (fun xs H Q => r xs H Q ∨ r' xs H Q) (fun ds S => (f ds S).orElse fun _ => f' ds S) := fun B al S H ds z vs S' R r1 g Q q => by
  cases hf : f ds S with
  | some p =>
    simp only [hf, Option.orElse_some, Option.some.injEq] at g
    exact .inl (h B al S H ds z vs S' R r1 (by rw [hf, g]) Q q)
  | none =>
    simp only [hf, Option.orElse_none] at g
    exact .inr (h' B al S H ds z vs S' R r1 g Q q)
def cLen (ds : List D) : M D := fun S => match ds with
  | [d] => (asSq S d).map fun xs => (.int xs.length, S)
  | _ => none
theorem rl_one {B : Addr → Prop} {al : List Addr} {H : Hp} {d : D} {vs : List V} (r : RL K B al H [d] vs) : ∃ v, vs = [v] ∧ RV K B al H d v := by
  cases r with | cons _ v _ _ h r => cases r; exact ⟨v, rfl, h⟩
theorem rl_two {B : Addr → Prop} {al : List Addr} {H : Hp} {d e : D} {vs : List V} (r : RL K B al H [d, e] vs) : ∃ v w, vs = [v, w] ∧ RV K B al H d v ∧ RV K B al H e w := by
  cases r with | cons _ v _ _ h r => obtain ⟨w, rfl, g⟩ := rl_one r; exact ⟨v, w, rfl, h, g⟩
theorem c_len : CRS K (fun xs H Q => ∃ p ys, xs = [.ref p] ∧ (SqL K H p ys ∨ SqT K H p ys) ∧ Q (.int ys.length) H) cLen := fun B al S H ds z vs S' R r1 h Q q => by
  unfold cLen at h
  split at h
  · rename_i d
    cases hx : asSq S d with
    | none => rw [hx] at h; cases h
    | some xs =>
      rw [hx] at h
      cases h
      obtain ⟨v, rfl, rv⟩ := rl_one r1
      obtain ⟨a, us, rfl, ha, ra⟩ := asSq_rep R rv hx
      refine ⟨a, us, rfl, ha, ?_⟩
      rw [← ra.len]
      exact q _ al H R .refl (.int _)
  · cases h
def c1I (f : Int → Int) (ds : List D) : M D := match ds with
  | [.int i] => ret (.int (f i))
  | _ => fail
theorem c_1I {f : Int → Int} : CRS K (fun xs H Q => ∃ i, xs = [.int i] ∧ Q (.int (f i)) H) (c1I f) := fun B al S H ds z vs S' R r1 h Q q => by
  unfold c1I at h
  split at h
  · obtain ⟨rfl, rfl⟩ := ret_some h
    obtain ⟨v, rfl, rv⟩ := rl_one r1
    cases rv
    exact ⟨_, rfl, q _ al H R .refl (.int _)⟩
  · cases h
abbrev cAbs : List D → M D := c1I fun i => if i < 0 then -i else i
def c2I (f : Int → Int → Int) (ds : List D) : M D := match ds with
  | [.int i, .int j] => ret (.int (f i j))
  | _ => fail
theorem c_2I {f : Int → Int → Int} : CRS K (fun xs H Q => ∃ i j, xs = [.int i, .int j] ∧ Q (.int (f i j)) H) (c2I f) := fun B al S H ds z vs S' R r1 h Q q => by
  unfold c2I at h
  split at h
  · obtain ⟨rfl, rfl⟩ := ret_some h
    obtain ⟨v, w, rfl, rv, rw'⟩ := rl_two r1
    cases rv; cases rw'
    exact ⟨_, _, rfl, q _ al H R .refl (.int _)⟩
  · cases h
abbrev cMin2 : List D → M D := c2I fun i j => if j < i then j else i
abbrev cMax2 : List D → M D := c2I fun i j => if j > i then j else i
def cInt (ds : List D) : M D := match ds with
  | [.int i] => ret (.int i)
  | [.bl b] => ret (.int (if b then 1 else 0))
  | _ => fail
theorem c_int : CRS K (fun xs H Q => (∃ i, xs = [.int i] ∧ Q (.int i) H) ∨ ∃ k, xs = [.bl k] ∧ Q (.int (if k then 1 else 0)) H) cInt := fun B al S H ds z vs S' R r1 h Q q => by
  unfold cInt at h
  split at h
  · obtain ⟨rfl, rfl⟩ := ret_some h
    obtain ⟨v, rfl, rv⟩ := rl_one r1
    cases rv
    exact .inl ⟨_, rfl, q _ al H R .refl (.int _)⟩
  · obtain ⟨rfl, rfl⟩ := ret_some h
    obtain ⟨v, rfl, rv⟩ := rl_one r1
    cases rv
    exact .inr ⟨_, rfl, q _ al H R .refl (.int _)⟩
  · cases h
/-- list(x) -/
def cList (ds : List D) : M (List D) := fun S => match ds with
  | [d] => (asSq S d).map fun xs => (xs, S)
  | _ => none
theorem c_list : CRF K (fun xs H Q => ∃ p ys, xs = [.ref p] ∧ (SqL K H p ys ∨ SqT K H p ys) ∧ ∀ l, H l = none → Q (.ref l) (upd H l (.lst ys))) cList := fun B al S H ds z vs S' R r1 h Q q => by
  unfold cList at h
  split at h
  · rename_i d
    cases hx : asSq S d with
    | none => rw [hx] at h; cases h
    | some xs =>
      rw [hx] at h
      cases h
      obtain ⟨v, rfl, rv⟩ := rl_one r1
      obtain ⟨a, us, rfl, ha, ra⟩ := asSq_rep R rv hx
      refine ⟨a, us, rfl, ha, fun l hl => ?_⟩
      obtain ⟨g1, g2, g3, g4, g5⟩ := new_F R .refl hl ra
      exact q l _ al _ g1 g2 g3 g4 g5
  · cases h
/-- lists alone, the script among them -/
def asLC (S : Store) : D → Option (List D)
  | .scr ns => some (ns.map .int)
  | d => asL S d
theorem asLC_rep {B : Addr → Prop} {al : List Addr} {S : Store} {H : Hp} (R : Rel K B al S H) {d : D} {v : V} (r : RV K B al H d v) {xs : List D} (e : asLC S d = some xs) : ∃ a vs, v = .ref a ∧ SqL K H a vs ∧ RL K B al H xs vs := by
  cases r with
  | scr a ns h => simp [asLC] at e; subst e; exact ⟨a, _, rfl, cat_sq h, rl_ints ns⟩
  | lst a ds vs h r => obtain ⟨b, us, e1, e2, q⟩ := asL_rep R (.lst a ds vs h r) e; exact ⟨b, us, e1, .of e2, q⟩
  | ref n a h => obtain ⟨b, us, e1, e2, q⟩ := asL_rep R (.ref n a h) e; exact ⟨b, us, e1, .of e2, q⟩
  | _ => simp [asLC, asL] at e
/-- tuple(x) -/
def cTuple (ds : List D) : M D := fun S => match ds with
  | [.tup xs] => some (.tup xs, S)
  | [d] => (asLC S d).map fun xs => (.tup xs, S)
  | _ => none
theorem c_tuple : CRS K (fun xs H Q => ∃ p ys, xs = [.ref p] ∧ ((SqL K H p ys ∧ ∀ l, H l = none → Q (.ref l) (upd H l (.tup ys))) ∨ (SqT K H p ys ∧ Q (.ref p) H))) cTuple := fun B al S H ds z vs S' R r1 h Q q => by
  unfold cTuple at h
  split at h
  · cases h
    obtain ⟨v, rfl, rv⟩ := rl_one r1
    cases rv with
    | tup a _ us ha ra => exact ⟨a, us, rfl, .inr ⟨.of ha, q _ al H R .refl (.tup a _ us ha ra)⟩⟩
  · rename_i d hd
    cases hx : asLC S d with
    | none => rw [hx] at h; cases h
    | some xs =>
      rw [hx] at h
      cases h
      obtain ⟨v, rfl, rv⟩ := rl_one r1
      obtain ⟨a, us, rfl, ha, ra⟩ := asLC_rep R rv hx
      refine ⟨a, us, rfl, .inl ⟨ha, fun p hp => ?_⟩⟩
      obtain ⟨x, R1⟩ := R.side (o := .tup us) hp
      exact q _ al _ R1 x (.tup p _ _ upd_same (ra.mono R x))
  · cases h
/-- a list's whole numbers, truth values -/
def intsOf : List D → Option (List Int)
  | [] => some []
  | .int i :: ds => (intsOf ds).map (i :: ·)
  | _ => none
def blsOf : List D → Option (List Bool)
  | [] => some []
  | .bl b :: ds => (blsOf ds).map (b :: ·)
  | _ => none
theorem ints_rep {B : Addr → Prop} {al : List Addr} {H : Hp} : ∀ {ds : List D} {vs : List V} {ns : List Int}, RL K B al H ds vs → intsOf ds = some ns → vs = ns.map V.int ∧ ds = ns.map D.int
  | _, _, _, .nil, e => by cases e; exact ⟨rfl, rfl⟩
  | _, _, _, .cons d v ds vs h r, e => by
    cases h with
    | int i =>
      simp only [intsOf] at e
      cases hx : intsOf ds with
      | none => rw [hx] at e; cases e
      | some ms =>
        rw [hx] at e
        cases e
        obtain ⟨e1, e2⟩ := ints_rep r hx
        exact ⟨by rw [e1]; rfl, by rw [e2]; rfl⟩
    | _ => simp [intsOf] at e
theorem bls_rep {B : Addr → Prop} {al : List Addr} {H : Hp} : ∀ {ds : List D} {vs : List V} {ns : List Bool}, RL K B al H ds vs → blsOf ds = some ns → vs = ns.map V.bl ∧ ds = ns.map D.bl
  | _, _, _, .nil, e => by cases e; exact ⟨rfl, rfl⟩
  | _, _, _, .cons d v ds vs h r, e => by
    cases h with
    | bl i =>
      simp only [blsOf] at e
      cases hx : blsOf ds with
      | none => rw [hx] at e; cases e
      | some ms =>
        rw [hx] at e
        cases e
        obtain ⟨e1, e2⟩ := bls_rep r hx
        exact ⟨by rw [e1]; rfl, by rw [e2]; rfl⟩
    | _ => simp [blsOf] at e
theorem intsOf_map : ∀ ns : List Int, intsOf (ns.map D.int) = some ns
  | [] => rfl
  | n :: ns => by simp [intsOf, intsOf_map ns]
theorem blsOf_map : ∀ ns : List Bool, blsOf (ns.map D.bl) = some ns
  | [] => rfl
  | n :: ns => by simp [blsOf, blsOf_map ns]
/-- of a list's whole numbers -/
def cInts (f : List Int → Option Int) (ds : List D) : M D := fun S => match ds with
  | [d] => (asLC S d).bind fun xs => (intsOf xs).bind fun ns => (f ns).map fun i => (.int i, S)
  | _ => none
def cBls (f : List Bool → Bool) (ds : List D) : M D := fun S => match ds with
  | [d] => (asLC S d).bind fun xs => (blsOf xs).map fun ns => (.bl (f ns), S)
  | _ => none
theorem c_ints {B : Addr → Prop} {al : List Addr} {S S' : Store} {H : Hp} {f : List Int → Option Int} {ds : List D} {z : D} {vs : List V} (R : Rel K B al S H) (r1 : RL K B al H ds vs) (h : cInts f ds S = some (z, S')) :
    ∃ a ns i, vs = [.ref a] ∧ SqL K H a (ns.map V.int) ∧ f ns = some i ∧ z = .int i ∧ S' = S := by
  unfold cInts at h
  split at h
  · rename_i d
    cases hx : asLC S d with
    | none => rw [hx] at h; cases h
    | some xs =>
      rw [hx] at h
      simp only [Option.bind_some] at h
      cases hy : intsOf xs with
      | none => rw [hy] at h; cases h
      | some ns =>
        rw [hy] at h
        simp only [Option.bind_some] at h
        cases hz : f ns with
        | none => rw [hz] at h; cases h
        | some i =>
          rw [hz] at h
          cases h
          obtain ⟨v, rfl, rv⟩ := rl_one r1
          obtain ⟨a, us, rfl, ha, ra⟩ := asLC_rep R rv hx
          obtain ⟨e, _⟩ := ints_rep ra hy
          exact ⟨a, ns, i, rfl, by rw [← e]; exact ha, hz, rfl, rfl⟩
  · cases h
abbrev cSum : List D → M D := cInts fun ns => some ns.sum
theorem c_sum : CRS K (rSum K) cSum := fun B al S H ds z vs S' R r1 h Q q => by
  obtain ⟨a, ns, i, rfl, ha, e, rfl, rfl⟩ := c_ints R r1 h
  cases e
  exact ⟨a, ns, rfl, ha, q _ al H R .refl (.int _)⟩
theorem max_uniq {ns : List Int} {m k : Int} (h : m ∈ ns) (h1 : ∀ y, y ∈ ns → y ≤ m) (g : k ∈ ns) (g1 : ∀ y, y ∈ ns → y ≤ k) : m = k := Int.le_antisymm (g1 m h) (h1 k g)
theorem min_uniq {ns : List Int} {m k : Int} (h : m ∈ ns) (h1 : ∀ y, y ∈ ns → m ≤ y) (g : k ∈ ns) (g1 : ∀ y, y ∈ ns → k ≤ y) : m = k := Int.le_antisymm (h1 k g) (g1 m h)
def maxI : List Int → Option Int
  | [] => none
  | n :: ns => some (ns.foldl max n)
def minI : List Int → Option Int
  | [] => none
  | n :: ns => some (ns.foldl min n)
theorem fold_max : ∀ (ns : List Int) (a : Int), (ns.foldl max a = a ∨ ns.foldl max a ∈ ns) ∧ a ≤ ns.foldl max a ∧ ∀ y ∈ ns, y ≤ ns.foldl max a
  | [], a => ⟨.inl rfl, Int.le_refl _, fun _ h => nomatch h⟩
  | n :: ns, a => by
    obtain ⟨h1, h2, h3⟩ := fold_max ns (max a n)
    simp only [List.foldl_cons]
    refine ⟨?_, by omega, fun y hy => ?_⟩
    · rcases h1 with h1 | h1
      · rcases Int.le_total a n with h | h
        · right; rw [h1, Int.max_eq_right h]; exact List.mem_cons_self
        · left; rw [h1, Int.max_eq_left h]
      · right; exact List.mem_cons_of_mem _ h1
    · rcases List.mem_cons.mp hy with rfl | hy
      · omega
      · exact h3 y hy
theorem fold_min : ∀ (ns : List Int) (a : Int), (ns.foldl min a = a ∨ ns.foldl min a ∈ ns) ∧ ns.foldl min a ≤ a ∧ ∀ y ∈ ns, ns.foldl min a ≤ y
  | [], a => ⟨.inl rfl, Int.le_refl _, fun _ h => nomatch h⟩
  | n :: ns, a => by
    obtain ⟨h1, h2, h3⟩ := fold_min ns (min a n)
    simp only [List.foldl_cons]
    refine ⟨?_, by omega, fun y hy => ?_⟩
    · rcases h1 with h1 | h1
      · rcases Int.le_total a n with h | h
        · left; rw [h1, Int.min_eq_left h]
        · right; rw [h1, Int.min_eq_right h]; exact List.mem_cons_self
      · right; exact List.mem_cons_of_mem _ h1
    · rcases List.mem_cons.mp hy with rfl | hy
      · omega
      · exact h3 y hy
theorem maxI_spec {ns : List Int} {m : Int} (h : maxI ns = some m) : m ∈ ns ∧ (∀ y, y ∈ ns → y ≤ m) ∧ 0 < ns.length := by
  cases ns with
  | nil => cases h
  | cons n ns =>
    cases h
    obtain ⟨h1, h2, h3⟩ := fold_max ns n
    refine ⟨?_, fun y hy => ?_, by simp⟩
    · rcases h1 with h1 | h1
      · rw [h1]; exact List.mem_cons_self
      · exact List.mem_cons_of_mem _ h1
    · rcases List.mem_cons.mp hy with rfl | hy
      · exact h2
      · exact h3 y hy
theorem minI_spec {ns : List Int} {m : Int} (h : minI ns = some m) : m ∈ ns ∧ (∀ y, y ∈ ns → m ≤ y) ∧ 0 < ns.length := by
  cases ns with
  | nil => cases h
  | cons n ns =>
    cases h
    obtain ⟨h1, h2, h3⟩ := fold_min ns n
    refine ⟨?_, fun y hy => ?_, by simp⟩
    · rcases h1 with h1 | h1
      · rw [h1]; exact List.mem_cons_self
      · exact List.mem_cons_of_mem _ h1
    · rcases List.mem_cons.mp hy with rfl | hy
      · exact h2
      · exact h3 y hy
abbrev cMax : List D → M D := cInts maxI
abbrev cMin : List D → M D := cInts minI
theorem c_max : CRS K (rMax K) cMax := fun B al S H ds z vs S' R r1 h Q q => by
  obtain ⟨a, ns, i, rfl, ha, e, rfl, rfl⟩ := c_ints R r1 h
  obtain ⟨h1, h2, h3⟩ := maxI_spec e
  refine ⟨a, ns, rfl, ha, h3, fun m g1 g2 => ?_⟩
  rw [max_uniq g1 g2 h1 h2]
  exact q _ al H R .refl (.int _)
theorem c_min : CRS K (rMin K) cMin := fun B al S H ds z vs S' R r1 h Q q => by
  obtain ⟨a, ns, i, rfl, ha, e, rfl, rfl⟩ := c_ints R r1 h
  obtain ⟨h1, h2, h3⟩ := minI_spec e
  refine ⟨a, ns, rfl, ha, h3, fun m g1 g2 => ?_⟩
  rw [min_uniq g1 g2 h1 h2]
  exact q _ al H R .refl (.int _)
theorem c_bls {B : Addr → Prop} {al : List Addr} {S S' : Store} {H : Hp} {f : List Bool → Bool} {ds : List D} {z : D} {vs : List V} (R : Rel K B al S H) (r1 : RL K B al H ds vs) (h : cBls f ds S = some (z, S')) :
    ∃ a ns, vs = [.ref a] ∧ SqL K H a (ns.map V.bl) ∧ z = .bl (f ns) ∧ S' = S := by
  unfold cBls at h
  split at h
  · rename_i d
    cases hx : asLC S d with
    | none => rw [hx] at h; cases h
    | some xs =>
      rw [hx] at h
      simp only [Option.bind_some] at h
      cases hy : blsOf xs with
      | none => rw [hy] at h; cases h
      | some ns =>
        rw [hy] at h
        cases h
        obtain ⟨v, rfl, rv⟩ := rl_one r1
        obtain ⟨a, us, rfl, ha, ra⟩ := asLC_rep R rv hx
        obtain ⟨e, _⟩ := bls_rep ra hy
        exact ⟨a, ns, rfl, by rw [← e]; exact ha, rfl, rfl⟩
  · cases h
abbrev cAll : List D → M D := cBls fun bs => bs.all id
abbrev cAny : List D → M D := cBls fun bs => bs.any id
theorem c_all : CRS K (rAll K) cAll := fun B al S H ds z vs S' R r1 h Q q => by
  obtain ⟨a, ns, rfl, ha, rfl, rfl⟩ := c_bls R r1 h
  exact ⟨a, ns, rfl, ha, q _ al H R .refl (.bl _)⟩
theorem c_any : CRS K (rAny K) cAny := fun B al S H ds z vs S' R r1 h Q q => by
  obtain ⟨a, ns, rfl, ha, rfl, rfl⟩ := c_bls R r1 h
  exact ⟨a, ns, rfl, ha, q _ al H R .refl (.bl _)⟩
/-- sorted(ints) -/
def srtI (ns : List Int) : List Int := ns.mergeSort fun a b => decide (a ≤ b)
theorem srtI_perm (ns : List Int) : (srtI ns).Perm ns := List.mergeSort_perm ns _
theorem srtI_sorted (ns : List Int) : (srtI ns).Pairwise (· ≤ ·) := by
  have h := List.pairwise_mergeSort (le := fun a b : Int => decide (a ≤ b)) (fun a b c h1 h2 => by simp at *; omega) (fun a b => by simp; omega) ns
  exact h.imp fun h => by simpa using h
theorem srt_uniq : ∀ {as bs : List Int}, as.Perm bs → as.Pairwise (· ≤ ·) → bs.Pairwise (· ≤ ·) → as = bs := fun p h1 h2 => p.eq_of_pairwise (fun a b _ _ h h' => Int.le_antisymm h h') h1 h2
def cSortI (ds : List D) : M (List D) := fun S => match ds with
  | [d] => (asLC S d).bind fun xs => (intsOf xs).map fun ns => ((srtI ns).map .int, S)
  | _ => none
theorem c_sortI : CRF K (rSortedI K) cSortI := fun B al S H ds z vs S' R r1 h Q q => by
  unfold cSortI at h
  split at h
  · rename_i d
    cases hx : asLC S d with
    | none => rw [hx] at h; cases h
    | some xs =>
      rw [hx] at h
      simp only [Option.bind_some] at h
      cases hy : intsOf xs with
      | none => rw [hy] at h; cases h
      | some ns =>
        rw [hy] at h
        cases h
        obtain ⟨v, rfl, rv⟩ := rl_one r1
        obtain ⟨a, us, rfl, ha, ra⟩ := asLC_rep R rv hx
        obtain ⟨e, _⟩ := ints_rep ra hy
        refine ⟨a, ns, rfl, by rw [← e]; exact ha, fun ns' p hp hs h0 => ?_⟩
        have e2 : ns' = srtI ns := srt_uniq (hp.trans (srtI_perm ns).symm) hs (srtI_sorted ns)
        subst e2
        obtain ⟨g1, g2, g3, g4, g5⟩ := new_F R .refl h0 (rl_ints (K := K) (B := B) (al := al) (H := H) (srtI ns))
        exact q p _ al _ g1 g2 g3 g4 g5
  · cases h
end
end Z
set_option Elab.async false
set_option linter.all false
set_option maxRecDepth 100000
/-! Statements and loops. -/
namespace Z
open PySem L2

inductive Out where
  | nx (ρ : Env)
  | rt (d : D)
  | bk (ρ : Env)
  | ct (ρ : Env)
  | ex (c : Str)
abbrev MS := Env → Store → Option (Out × Store)
def Post (K : PySem.W.Frag) (W : Str → Hp → Prop) (B : Addr → Prop) (al : List Addr) (H : Hp) (D : Ends) (S' : Store) : Out → Prop
  | .nx ρ' => ∀ (σ' : St) (al' : List Addr) (H' : Hp), Rel K B al' S' H' → Ex al H al' H' → ER K B al' H' ρ' σ' → D.nx σ' H'
  | .rt d => ∀ (v : V) (al' : List Addr) (H' : Hp), Rel K B al' S' H' → Ex al H al' H' → RV K B al' H' d v → D.rt v H'
  | .bk ρ' => ∀ (σ' : St) (al' : List Addr) (H' : Hp), Rel K B al' S' H' → Ex al H al' H' → ER K B al' H' ρ' σ' → D.bk σ' H'
  | .ct ρ' => ∀ (σ' : St) (al' : List Addr) (H' : Hp), Rel K B al' S' H' → Ex al H al' H' → ER K B al' H' ρ' σ' → D.ct σ' H'
  | .ex c => ∀ (al' : List Addr) (H' : Hp), Rel K B al' S' H' → Ex al H al' H' → W c H'
theorem Post.step {K : PySem.W.Frag} {W : Str → Hp → Prop} {B : Addr → Prop} {al al1 : List Addr} {H H1 : Hp} {D : Ends} {S' : Store} {o : Out} (x : Ex al H al1 H1) (p : Post K W B al H D S' o) : Post K W B al1 H1 D S' o := by
  cases o with
  | nx ρ => exact fun σ' al' H' R y => p σ' al' H' R (x.trans y)
  | rt d => exact fun σ' al' H' R y => p σ' al' H' R (x.trans y)
  | bk ρ => exact fun σ' al' H' R y => p σ' al' H' R (x.trans y)
  | ct ρ => exact fun σ' al' H' R y => p σ' al' H' R (x.trans y)
  | ex c => exact fun al' H' R y => p al' H' R (x.trans y)
def tS (K : PySem.W.Frag) (W : Str → Hp → Prop) (m : MS) : TS := fun D σ H =>
  ∃ (B : Addr → Prop) (al : List Addr) (S : Store) (ρ : Env) (o : Out) (S' : Store), Rel K B al S H ∧ ER K B al H ρ σ ∧ m ρ S = some (o, S') ∧ Post K W B al H D S' o
def Ss (X : Cx) (W : Str → Hp → Prop) (st : Stmt) (m : MS) : Prop := PS X st (tS X.K W m)
def Sb (X : Cx) (W : Str → Hp → Prop) (st : List Stmt) (m : MS) : Prop := PSs X st (tS X.K W m)
theorem ps_imp {X : Cx} {st : Stmt} {t t' : TS} (h : PS X st t) (q : ∀ D σ H, t' D σ H → t D σ H) : PS X st t' := ⟨fun pins s σ H D I w => h.run pins s σ H D I (q _ _ _ w)⟩
theorem pss_imp {X : Cx} {st : List Stmt} {t t' : TS} (h : PSs X st t) (q : ∀ D σ H, t' D σ H → t D σ H) : PSs X st t' := ⟨fun pins s σ H D I w => h.run pins s σ H D I (q _ _ _ w)⟩

/-! ### blocks -/
def mNext : MS := fun ρ S => some (.nx ρ, S)
def mSeq (a b : MS) : MS := fun ρ S => match a ρ S with
  | some (.nx ρ', S') => b ρ' S'
  | r => r
section
variable {X : Cx} {W : Str → Hp → Prop} {st : Stmt} {rest : List Stmt} {a b : MS}
theorem sb_nil : Sb X W [] mNext := pss_imp pss_nil fun D σ H ⟨B, al, S, ρ, o, S', R, er, hm, p⟩ => by cases hm; exact p σ al H R .refl er
theorem sb_one (h : Ss X W st a) : Sb X W [st] a := pss_one h
theorem sb_cons (h : Ss X W st a) (g : Sb X W rest b) : Sb X W (st :: rest) (mSeq a b) := pss_imp (pss_cons h g) fun D σ H ⟨B, al, S, ρ, o, S', R, er, hm, p⟩ => by
  unfold mSeq at hm
  split at hm
  · rename_i ρ1 S1 h1
    exact ⟨B, al, S, ρ, .nx ρ1, _, R, er, h1, fun σ1 al1 H1 R1 x1 er1 => ⟨B, al1, S1, ρ1, o, S', R1, er1, hm, p.step x1⟩⟩
  · rename_i h1
    refine ⟨B, al, S, ρ, o, S', R, er, hm, ?_⟩
    cases o with
    | nx ρ' => exact (h1 _ _ hm).elim
    | rt d => exact p
    | bk ρ' => exact p
    | ct ρ' => exact p
    | ex c => exact p

/-! ### small statements -/
def mBrk : MS := fun ρ S => some (.bk ρ, S)
def mCnt : MS := fun ρ S => some (.ct ρ, S)
theorem ss_pass {pos : Pos} : Ss X W (.Pass pos) mNext := ps_imp ps_pass fun D σ H ⟨B, al, S, ρ, o, S', R, er, hm, p⟩ => by cases hm; exact p σ al H R .refl er
theorem ss_break {pos : Pos} : Ss X W (.Break pos) mBrk := ps_imp ps_break fun D σ H ⟨B, al, S, ρ, o, S', R, er, hm, p⟩ => by cases hm; exact p σ al H R .refl er
theorem ss_continue {pos : Pos} : Ss X W (.Continue pos) mCnt := ps_imp ps_continue fun D σ H ⟨B, al, S, ρ, o, S', R, er, hm, p⟩ => by cases hm; exact p σ al H R .refl er
theorem ss_doc {x : Str} {j pos pos'} : Ss X W (.Expr (.Constant (.str x) j pos) pos') mNext := ps_imp ps_doc fun D σ H ⟨B, al, S, ρ, o, S', R, er, hm, p⟩ => by cases hm; exact p σ al H R .refl er
def mDrop (m : ME) : MS := fun ρ S => match m ρ S with
  | some (_, S') => some (.nx ρ, S')
  | none => none
def mRet (m : ME) : MS := fun ρ S => match m ρ S with
  | some (d, S') => some (.rt d, S')
  | none => none
def mRetN : MS := fun _ S => some (.rt .non, S)
theorem ss_expr {e : Expr} {m : ME} {pos : Pos} (h : Sn X e m) (hs : swapsWith e none pos.line X.env = pure false := by rfl) : Ss X W (.Expr e pos) (mDrop m) := ps_imp (ps_expr h hs) fun D σ H ⟨B, al, S, ρ, o, S', R, er, hm, p⟩ => by
  unfold mDrop at hm
  split at hm
  · rename_i d S1 h1
    cases hm
    exact ⟨B, al, S, ρ, d, _, R, er, h1, fun v al1 H1 R1 x1 _ => p σ al1 H1 R1 x1 (er.mono R x1)⟩
  · cases hm
theorem ss_ret {e : Expr} {m : ME} {pos : Pos} (h : Sn X e m) : Ss X W (.Return (some e) pos) (mRet m) := ps_imp (ps_ret h) fun D σ H ⟨B, al, S, ρ, o, S', R, er, hm, p⟩ => by
  unfold mRet at hm
  split at hm
  · rename_i d S1 h1
    cases hm
    exact ⟨B, al, S, ρ, d, _, R, er, h1, fun v al1 H1 R1 x1 r => p v al1 H1 R1 x1 r⟩
  · cases hm
theorem ss_retN {pos : Pos} : Ss X W (.Return none pos) mRetN := ps_imp ps_retN fun D σ H ⟨B, al, S, ρ, o, S', R, er, hm, p⟩ => by cases hm; exact p .non al H R .refl .non
def mIfS (t : MT) (a b : MS) : MS := fun ρ S => match t ρ S with
  | some (true, S') => a ρ S'
  | some (false, S') => b ρ S'
  | none => none
theorem ss_if {c : Expr} {s1 s2 : List Stmt} {t : MT} {pos : Pos} (hc : Stt X c t) (ha : Sb X W s1 a) (hb : Sb X W s2 b) : Ss X W (.If c s1 s2 pos) (mIfS t a b) := ps_imp (ps_if hc ha hb) fun D σ H ⟨B, al, S, ρ, o, S', R, er, hm, p⟩ => by
  unfold mIfS at hm
  split at hm
  · rename_i S1 h1
    exact ⟨B, al, S, ρ, true, _, R, er, h1, fun k al1 H1 R1 x1 e => by subst e; exact ⟨B, al1, S1, ρ, o, S', R1, er.mono R x1, hm, p.step x1⟩⟩
  · rename_i S1 h1
    exact ⟨B, al, S, ρ, false, _, R, er, h1, fun k al1 H1 R1 x1 e => by subst e; exact ⟨B, al1, S1, ρ, o, S', R1, er.mono R x1, hm, p.step x1⟩⟩
  · cases hm

/-! ### stores -/
def mSet (i : Nat) (m : ME) : MS := fun ρ S => match m ρ S with
  | some (d, S') => some (.nx (ρ.set i (some d)), S')
  | none => none
theorem set_of {i : Nat} {m : ME} {te : TE} (q : ∀ σ H Q, tE X.K m σ H Q → te σ H Q) : ∀ D σ H, tS X.K W (mSet i m) D σ H → tAsg te (gName i) D σ H := fun D σ H ⟨B, al, S, ρ, o, S', R, er, hm, p⟩ => by
  unfold mSet at hm
  split at hm
  · rename_i d S1 h1
    cases hm
    exact q σ H _ ⟨B, al, S, ρ, d, _, R, er, h1, fun v al1 H1 R1 x1 r => p _ al1 H1 R1 x1 ((er.mono R x1).set r i)⟩
  · cases hm
theorem ss_set {e : Expr} {m : ME} {i : Nat} {x : Str} {pos pos' : Pos} (hN : X.N.Nodup) (hi : X.N[i]? = some x) (hx : Loc X.env.scope x) (h : Sn X e m) (hs : swapsWith e (some (.Name x pos')) pos.line X.env = pure false := by rfl)
    (hf : X.fn x = true ∨ X.env.scope.names.lookup x = some .local := by first | exact .inl rfl | exact .inr rfl | assumption) : Ss X W (.Assign [.Name x pos'] e pos) (mSet i m) := ps_imp (ps_set hN hi hx h hs hf) (set_of fun _ _ _ z => z)
/-- where a for or a comprehension puts its items -/
inductive Tg where
  | nm (i : Nat)
  | tp (is : List Nat)
def Tg.slots : Tg → List Nat
  | .nm i => [i]
  | .tp is => is
theorem wipe_set {i : Nat} {x : Option V} : ∀ {vs : List Nat} {σ : St}, i ∈ vs → wipe (σ.set i x) vs = wipe σ vs
  | v :: vs, σ, h => by
    unfold wipe
    by_cases e : i ∈ vs
    · rw [wipe_set e]
    · have : i = v := by
        rcases List.mem_cons.mp h with h | h
        · exact h
        · exact (e h).elim
      subst this
      have comm : ∀ (vs : List Nat) (σ : St) (x : Option V), i ∉ vs → wipe (σ.set i x) vs = (wipe σ vs).set i x := by
        intro vs
        induction vs with
        | nil => intro σ x _; rfl
        | cons w vs ih =>
          intro σ x hn
          unfold wipe
          rw [ih σ x (fun z => hn (List.mem_cons_of_mem _ z))]
          rw [List.set_comm]
          intro z
          exact hn (by rw [z]; exact List.mem_cons_self)
      rw [comm vs σ x e]
      simp
theorem wipe_wipe : ∀ {vs : List Nat} {σ : St}, wipe (wipe σ vs) vs = wipe σ vs := by
  have aux : ∀ (us vs : List Nat) (σ : St), (∀ u ∈ us, u ∈ vs) → wipe (wipe σ us) vs = wipe σ vs := by
    intro us
    induction us with
    | nil => intro vs σ _; rfl
    | cons u us ih =>
      intro vs σ h
      show wipe ((wipe σ us).set u none) vs = _
      rw [wipe_set (h u List.mem_cons_self)]
      exact ih vs σ fun w hw => h w (List.mem_cons_of_mem _ hw)
  intro vs σ
  exact aux vs vs σ fun _ h => h
def setAll : List Nat → List D → Env → Option Env
  | [], [], ρ => some ρ
  | i :: is, d :: ds, ρ => setAll is ds (ρ.set i (some d))
  | _, _, _ => none
def Tg.put : Tg → D → Env → Option Env
  | .nm i, d, ρ => some (ρ.set i (some d))
  | .tp is, .tup ds, ρ => setAll is ds ρ
  | .tp is, .tpx ds, ρ => setAll is ds ρ
  | _, _, _ => none
def tTg (K : PySem.W.Frag) (g : Tg) : TG := fun v σ H Q => ∃ (B : Addr → Prop) (al : List Addr) (S : Store) (ρ ρ' : Env) (d : D), Rel K B al S H ∧ ER K B al H ρ σ ∧ RV K B al H d v ∧ g.put d ρ = some ρ' ∧
  ∀ σ', ER K B al H ρ' σ' → (∀ vs : List Nat, (∀ i ∈ g.slots, i ∈ vs) → wipe σ' vs = wipe σ vs) → Q σ' H
def tTgs (K : PySem.W.Frag) (is : List Nat) : TGs := fun vs σ H Q => ∃ (B : Addr → Prop) (al : List Addr) (S : Store) (ρ ρ' : Env) (ds : List D), Rel K B al S H ∧ ER K B al H ρ σ ∧ RL K B al H ds vs ∧ setAll is ds ρ = some ρ' ∧
  ∀ σ', ER K B al H ρ' σ' → (∀ vs : List Nat, (∀ i ∈ is, i ∈ vs) → wipe σ' vs = wipe σ vs) → Q σ' H
def Sg (X : Cx) (e : Expr) (g : Tg) : Prop := PG X e (tTg X.K g)
def Sgs (X : Cx) (es : List Expr) (is : List Nat) : Prop := PGs X es (tTgs X.K is)
theorem pg_imp {e : Expr} {t t' : TG} (h : PG X e t) (q : ∀ v σ H Q, t' v σ H Q → t v σ H Q) : PG X e t' := ⟨fun pins s σ H v u Q I r w => h.run pins s σ H v u Q I r (q _ _ _ _ w)⟩
theorem pgs_imp {e : List Expr} {t t' : TGs} (h : PGs X e t) (q : ∀ v σ H Q, t' v σ H Q → t v σ H Q) : PGs X e t' := ⟨fun pins s σ H v u Q I r w => h.run pins s σ H v u Q I r (q _ _ _ _ w)⟩
theorem sg_name {i : Nat} {e : Expr} (h : PG X e (gName i)) : Sg X e (.nm i) := pg_imp h fun v σ H Q ⟨B, al, S, ρ, ρ', d, R, er, r, e, q⟩ => by
  cases e
  exact q _ (er.set r i) fun vs h => wipe_set (h i (by simp [Tg.slots]))
theorem sgs_nil : Sgs X [] [] := pgs_imp pgs_nil fun v σ H Q ⟨B, al, S, ρ, ρ', d, R, er, r, e, q⟩ => by
  cases r with
  | nil => cases e; exact ⟨rfl, q _ er fun _ _ => rfl⟩
  | cons => cases e
theorem sgs_cons {e : Expr} {es : List Expr} {i : Nat} {is : List Nat} (h1 : PG X e (gName i)) (h2 : Sgs X es is) (hs : (assignEach (e :: es) X.env).map (·.2) = assign e X.env :: (assignEach es X.env).map (·.2) := by rfl) : Sgs X (e :: es) (i :: is) :=
  pgs_imp (pgs_cons h1 h2 hs) fun v σ H Q ⟨B, al, S, ρ, ρ', d, R, er, r, e, q⟩ => by
    cases r with
    | nil => cases e
    | cons d v ds vs h r => exact ⟨v, vs, rfl, B, al, S, _, ρ', ds, R, er.set h i, r, e, fun σ' er' hw => q σ' er' fun us hu => (hw us fun j hj => hu j (List.mem_cons_of_mem _ hj)).trans (wipe_set (hu i List.mem_cons_self))⟩
theorem setAll_len : ∀ {is : List Nat} {ds : List D} {ρ ρ' : Env}, setAll is ds ρ = some ρ' → ds.length = is.length
  | [], [], _, _, _ => rfl
  | i :: is, d :: ds, ρ, ρ', h => by simp [setAll_len (is := is) (ds := ds) h]
  | [], _ :: _, _, _, h => by cases h
  | _ :: _, [], _, _, h => by cases h
theorem sg_tup {es : List Expr} {k : Nat} {is : List Nat} {pos : Pos} (hc : X.calm = true) (h : Sgs X es is) (hn : (assignEach es X.env).length = is.length := by rfl) (hst : (assignEach es X.env).findIdx? (·.1) = none := by rfl) :
    Sg X (.Tuple es k pos) (.tp is) := pg_imp (pg_tup hc h hn hst) fun v σ H Q ⟨B, al, S, ρ, ρ', d, R, er, r, e, q⟩ => by
  cases r with
  | tup a ds vs ha ra =>
    have hl := setAll_len (is := is) (ds := ds) e
    exact ⟨a, vs, rfl, .of ha, by rw [← ra.len]; exact hl, B, al, S, ρ, ρ', ds, R, er, ra, e, q⟩
  | tpx a ds vs ha ra =>
    have hl := setAll_len (is := is) (ds := ds) e
    exact ⟨a, vs, rfl, zat_sq ha, by rw [← ra.len]; exact hl, B, al, S, ρ, ρ', ds, R, er, ra, e, q⟩
  | _ => cases e
/-- target = value -/
def mAsg (g : Tg) (m : ME) : MS := fun ρ S => match m ρ S with
  | some (d, S') => (g.put d ρ).map fun ρ' => (.nx ρ', S')
  | none => none
theorem ss_asg {tg e : Expr} {m : ME} {g : Tg} {pos : Pos} (he : Sn X e m) (hg : Sg X tg g) (hs : swapsWithSole [tg] e pos.line X.env = pure false := by rfl) (hw : swappedStores [tg] e X.env = pure none := by rfl)
    (h1 : (assignEach [tg] X.env).map (·.2) = [assign tg X.env] := by rfl) : Ss X W (.Assign [tg] e pos) (mAsg g m) := ps_imp (ps_asg he hg hs hw h1) fun D σ H ⟨B, al, S, ρ, o, S', R, er, hm, p⟩ => by
  unfold mAsg at hm
  split at hm
  · rename_i d S1 h1
    cases hx : g.put d ρ with
    | none => rw [hx] at hm; cases hm
    | some ρ' =>
      rw [hx] at hm
      cases hm
      exact ⟨B, al, S, ρ, d, _, R, er, h1, fun v al1 H1 R1 x1 r => ⟨B, al1, _, ρ, ρ', d, R1, er.mono R x1, r, hx, fun σ' er' _ => p σ' al1 H1 R1 x1 er'⟩⟩
  · cases hm
/-- xs[i] = v, a list of the store -/
def mSetL (mo mi mv : ME) : MS := fun ρ S => match mv ρ S with
  | none => none
  | some (v, S1) => match mo ρ S1 with
    | some (.ref n, S2) => match mi ρ S2 with
      | some (.int i, S3) => match S3[n]? with
        | some (.lst xs) => (ixN xs.length i).map fun j => (.nx ρ, S3.set n (.lst (xs.set j v)))
        | _ => none
      | _ => none
    | _ => none
theorem ss_setL {o i e : Expr} {mo mi mv : ME} {pos p2 : Pos} (hv : Sn X e mv) (ho : Sn X o mo) (hi : Sn X i mi)
    (ha : ∀ v, assign (.Subscript o i p2) X.env v = (do
      let ov ← holding [v] (eval o X.env)
      let iv ← holding [v, ov] (eval i X.env)
      standAt p2
      holding [v, ov, iv] (setItem ov iv v)
      release [v, ov, iv] []) := by intro _; rfl)
    (hs : swapsWithSole [.Subscript o i p2] e pos.line X.env = pure false := by rfl) (hw : swappedStores [.Subscript o i p2] e X.env = pure none := by rfl)
    (h1 : (assignEach [.Subscript o i p2] X.env).map (·.2) = [assign (.Subscript o i p2) X.env] := by rfl) : Ss X W (.Assign [.Subscript o i p2] e pos) (mSetL mo mi mv) :=
  ps_imp (ps_asg hv (pg_sub ho hi set_list ha) hs hw h1) fun D σ H ⟨B, al, S, ρ, o, S', R, er, hm, p⟩ => by
    unfold mSetL at hm
    split at hm
    · cases hm
    · rename_i v S1 h1
      split at hm
      · rename_i n S2 h2
        split at hm
        · rename_i i S3 h3
          split at hm
          · rename_i xs h4
            cases hx : ixN xs.length i with
            | none => rw [hx] at hm; cases hm
            | some j =>
              rw [hx] at hm
              cases hm
              refine ⟨B, al, S, ρ, v, _, R, er, h1, fun vv al1 H1 R1 x1 r1 => ⟨B, al1, S1, ρ, .ref n, S2, R1, er.mono R x1, h2, fun vo al2 H2 R2 x2 r2 =>
                ⟨B, al2, S2, ρ, .int i, S3, R2, (er.mono R x1).mono R1 x2, h3, fun vi al3 H3 R3 x3 r3 => ?_⟩⟩⟩
              cases r3
              have r2' := r2.mono R2 x3
              cases r2' with
              | ref _ a hn =>
                obtain ⟨_, us, hu, ru⟩ := R3.look (.ref n a hn) h4
                refine ⟨a, us, i, j, rfl, rfl, hu, by rw [← ru.len]; exact hx, ?_⟩
                obtain ⟨x4, R4⟩ := R3.put (o := .lst (us.set j vv)) (u := .lst (xs.set j v)) hn (fun _ z => nomatch z) fun x4 => ⟨_, upd_same, ((ru.set ((r1.mono R1 x2).mono R2 x3) j)).mono R3 x4⟩
                exact p σ al3 _ R4 (((x1.trans x2).trans x3).trans x4) ((((er.mono R x1).mono R1 x2).mono R2 x3).mono R3 x4)
          · cases hm
        · cases hm
      · cases hm
/-- x += e, whole numbers -/
def mAug (i : Nat) (f : Int → Int → Int) (m : ME) : MS := fun ρ S => match ρ[i]? with
  | some (some (.int a)) => match m ρ S with
    | some (.int b, S') => some (.nx (ρ.set i (some (.int (f a b)))), S')
    | _ => none
  | _ => none
theorem ss_aug {st : Stmt} {i : Nat} {f : Int → Int → Int} {m : ME} (h : PS X st (tAug i (tE X.K m) (ipI f))) : Ss X W st (mAug i f m) := ps_imp h fun D σ H ⟨B, al, S, ρ, o, S', R, er, hm, p⟩ => by
  unfold mAug at hm
  split at hm
  · rename_i a ha
    split at hm
    · rename_i b S1 h1
      cases hm
      obtain ⟨v, hv, rv⟩ := er.2 i _ ha
      cases rv
      exact ⟨_, hv, B, al, S, ρ, .int b, _, R, er, h1, fun w al1 H1 R1 x1 r => by cases r; exact ⟨a, b, rfl, rfl, p _ al1 H1 R1 x1 ((er.mono R x1).set (.int _) i)⟩⟩
    · cases hm
  · cases hm
end
end Z
set_option Elab.async false
set_option linter.all false
set_option maxRecDepth 100000
/-! What loops walk over. -/
namespace L2
open PySem PySem.Spec PyProof.Rows
open AutoSeq1 (wpAny_loadPart')

/-! ### a list or a tuple -/
def iSq (K : PySem.W.Frag) (tl : TE) : TI := fun σ H R => tl σ H fun x H1 => ∃ a, x = .ref a ∧ (((∃ xs, SqL K H1 a xs) ∧ R (Itl K a) H1) ∨ ((∃ xs, SqT K H1 a xs) ∧ R (Itt K a) H1))
theorem pi_sq {X : Cx} {tg l : Expr} {tl : TE} (hl : PE X l tl) : PI X tg l (iSq X.K tl) := by
  refine ⟨fun pins s σ H R I h => thn (hl.run pins s σ H _ I h) fun v s1 ⟨x, H1, I1, r1, q1⟩ => ?_⟩
  obtain ⟨a, rfl, q⟩ := q1
  cases r1
  have fp (b : Addr) (hb : b ∈ [s1.heap.objs.size]) : FpOk X pins H1 b := by
    obtain rfl := List.mem_singleton.mp hb
    exact I1.fpOk (Nat.le_refl _) (I1.hok.fresh (Nat.le_refl _))
  rcases q with ⟨⟨xs, hq⟩, q⟩ | ⟨⟨xs, hq⟩, q⟩
  · obtain ⟨its, rv, p, hz⟩ := I1.list hq
    exact wpAny_pyIter_list p.isList ⟨_, [s1.heap.objs.size], _, _, H1, rfl, I1.kept (t' := s1.toks) fun b o e => Heap.get?_push_of_some _ e, turn_list a _, ⟨_, Heap.get?_push_size _ rfl, rfl, rfl⟩, fp, q⟩
  · obtain ⟨its, rv, p, hz⟩ := I1.tuple hq
    exact wpAny_pyIter_tuple (show s1.heap.IsTuple a its.toArray from p) ⟨_, [s1.heap.objs.size], _, _, H1, rfl, I1.kept (t' := s1.toks) fun b o e => Heap.get?_push_of_some _ e, turn_tuple a _, ⟨_, Heap.get?_push_size _ rfl, rfl, rfl⟩, fp, q⟩

/-! ### enumerate of a tuple -/
theorem enum_newT (v : Value) (o : Obj) (G : Heap → Prop) (B : Begins v o G) :
    Meets (Builtin.«enumerate.__new__» ⟨[.type "enumerate", v], []⟩) (fun _ R s => G s.heap ∧
      R (.ok (.ret (.ref (s.heap.push o).objs.size))) { s with heap := (s.heap.push o).push { cls := .type "enumerate", data := .fields #[.none, .bool false, .ref s.heap.objs.size, rawInt 0, .none, .none] } }) :=
  .of_wp fun prog w A R s h => by
    obtain ⟨hp, g, d, tk, os⟩ := s
    obtain ⟨h1, h⟩ := h
    have hsub := sub_enumerate
    have q1 : ∀ {A' : Around} {E : Value → Shared → Prop} {Q : Value → Shared → Prop}, Q (.ref hp.objs.size) ⟨hp.push o, g, d, tk, os⟩ → wpAny (model prog w) A' (pyIter v) Q E ⟨hp, g, d, tk, os⟩ :=
      fun {A' E Q} q => B.iter prog w A' E ⟨hp, g, d, tk, os⟩ Q h1 q
    wp_walk using q1
    refine wpAny_stack_any fun st => wpAny_pure ?_
    split
    · rename_i c _ _ _ _ _
      cases (c == Value.type "enumerate") <;> (wp_walk using q1; exact ⟨_, rfl, h⟩)
    · wp_walk using q1
      exact ⟨_, rfl, h⟩
section
variable {prog : Program} {w : World} {A : Around} {E : Value → Shared → Prop} {s : Shared}
theorem enum_callT {v : Value} {o : Obj} {G : Heap → Prop} {Q : Value → Shared → Prop} (B : Begins v o G) (hG : G s.heap)
    (h : ∀ h', IsEnum h' (s.heap.objs.size + 1) s.heap.objs.size 0 .none → h'.get? s.heap.objs.size = some o → (∀ b o, s.heap.get? b = some o → h'.get? b = some o) → Q (.ref (s.heap.objs.size + 1)) { s with heap := h' }) :
    wpAny (model prog w) A (call (.type "enumerate") [v]) Q E s := by
  refine callType_new F.called_enumerate (by decide) (F.typeCall_enumerate_1 _) (F.newCall_enumerate_1 _) (fun obj => F.args_object_init_2 obj _) F.entry_enumerate_new (enum_newT v o G B) ⟨hG, ?_⟩
  have hz : (s.heap.push o).objs.size = s.heap.objs.size + 1 := Heap.size_push ..
  have he := Heap.get?_push_size (s.heap.push o) (o := { cls := .type "enumerate", data := .fields #[.none, .bool false, .ref s.heap.objs.size, rawInt 0, .none, .none] }) rfl
  rw [hz] at he
  show _ ∧ _
  rw [hz]
  exact ⟨⟨_, he, rfl⟩, h _ he (Heap.get?_push_of_some _ (Heap.get?_push_size _ B.free)) fun b o x => Heap.get?_push_of_some _ (Heap.get?_push_of_some _ x)⟩
end
def IteT (K : PySem.W.Frag) (a : Addr) : It :=
  ⟨fun i H => ∃ (xs : List V) (x : V), SqT K H a xs ∧ xs[i]? = some x, fun i H v H' => ∃ T x, v = .ref T ∧ H T = none ∧ H' = upd H T (.tup [.int (i : Nat), x]) ∧ ∀ xs, SqT K H a xs → xs[i]? = some x,
   fun i H => ∃ xs : List V, SqT K H a xs ∧ xs.length = i⟩
theorem turn_enumT {P : Program} {w : World} {K : PySem.W.Frag} {elts : List Expr} {kk : Nat} {tpos : Pos} (a e it : Addr) (hne : e ≠ it) (hea : e ≠ a) (hia : a ≠ it) :
    Turn P w K (.Tuple elts kk tpos) (IteT K a) [e, it] e (fun i h => (∃ old, IsEnum h e it ((i : Nat) : Int) old) ∧ h.IsTupleIter it a i) where
  mem := by simp
  obj := fun i h st b hb => by
    obtain ⟨⟨old, he⟩, o, ho, hc, hd⟩ := st
    rcases (show b = e ∨ b = it by simpa using hb) with rfl | rfl
    · exact ⟨_, he, fun v q => nomatch q⟩
    · exact ⟨o, ho, fun v q => by rw [hd] at q; cases q⟩
  keep := fun i h h' st k => ⟨st.1.imp fun old he => k e (by simp) _ he, st.2.at fun o q => k it (by simp) o q⟩
  item := by
    intro X hP hw hK hc i pins s σ H E I hf st hg
    subst hP hw hK
    obtain ⟨⟨old, he⟩, hit⟩ := st
    obtain ⟨xs, x, hq, hx⟩ := hg
    obtain ⟨its, rv, p, hz⟩ := I.tuple hq
    obtain ⟨u, hu, ru⟩ := rv.get hx
    have hel : e < s.heap.objs.size := Heap.lt_size he
    have hil : it < s.heap.objs.size := by obtain ⟨_, q, _⟩ := hit; exact Heap.lt_size q
    have D := Draws.tuple (prog := X.prog) (w := X.w) (A := X.A.in1) (I.ok.hd hc) it a hia its.toArray
    have hi : i < its.toArray.size := by
      have := (List.getElem?_eq_some_iff.mp hu).1
      simpa using this
    refine wpAny_pyNext_enum_itemC D he ⟨hit, p⟩ hi hne (by simp [hne, hea]) fun y h' tk hy ho hit' hT hsz hk => ?_
    have ey : y = u := by
      have : its.toArray[i]? = some u := by simpa using hu
      rw [this] at hy
      exact (Option.some.inj hy).symm
    subst ey
    refine ⟨_, rfl, wpAny_letOwnedTupleGo_enum (s := { s with heap := h', toks := tk + 1 }) ho fun h'' he' sb => ?_⟩
    have hT2 : h''.get? s.heap.objs.size = some { cls := .type "tuple", data := .seq #[.int i tk, y] } := (sb.2 _ (Nat.ne_of_gt hel)).trans hT
    have I1 : Inv X pins σ (upd H s.heap.objs.size (.tup [.int (i : Nat), x])) { s with heap := h'', toks := tk + 1 } := by
      refine I.turnedNew (ch := [e, it]) (fun b ob hb q => ?_) hf (Nat.le_refl _) ⟨by show 2 ≤ sizeLine; decide, [.int i tk, y], .cons ⟨_, rfl⟩ (.cons ru .nil), ⟨_, hT2, rfl, _, rfl⟩⟩
      have hbe : b ≠ e := fun z => hb (by simp [z])
      have hbi : b ≠ it := fun z => hb (by simp [z])
      exact (sb.2 b hbe).trans (hk b ob hbe hbi q)
    refine ⟨.ref s.heap.objs.size, _, I1, rfl, ⟨_, x, rfl, I.hok.fresh (Nat.le_refl _), rfl, fun ys hy => by rw [I.tuple_inj hy hq]; exact hx⟩, ⟨⟨y, ?_⟩, hit'.1.at fun o q => (sb.2 it (Ne.symm hne)).trans q⟩, fun b hb => ?_⟩
    · have e1 : ((i + 1 : Nat) : Int) = (i : Int) + 1 := by omega
      rw [e1]; exact he'
    · have hb' : b < s.heap.objs.size := by
        rcases (show b = e ∨ b = it by simpa using hb) with rfl | rfl
        · exact hel
        · exact hil
      rw [upd_ne (Nat.ne_of_lt hb')]
      exact (hf b hb).1
  done := by
    intro X hP hw hK hc i pins s σ H E I hf st hg
    subst hP hw hK
    obtain ⟨⟨old, he⟩, hit⟩ := st
    obtain ⟨xs, hq, hx⟩ := hg
    obtain ⟨its, rv, p, hz⟩ := I.tuple hq
    obtain ⟨f0, f1, f2, f3, f4, f5⟩ := hf it (by simp)
    have D := Draws.tuple (prog := X.prog) (w := X.w) (A := X.A.in1) (I.ok.hd hc) it a hia its.toArray
    have en : its.toArray.size = i := by rw [List.size_toArray, ← rv.length]; exact hx
    refine wpAny_pyNext_enum_endD D he (by rw [en]; exact ⟨hit, p⟩) fun h' eb => ⟨rfl, I.turned (t' := s.toks) (fun b o hb q => eb b o hb q) f0 f1 f3 f4 f5⟩
  self := fun A i s Q E st h => let ⟨⟨_, he⟩, _⟩ := st; wpAny_pyIter_enum he h
def iEnA (K : PySem.W.Frag) (te : TE) : TI := fun σ H R => te σ H fun v H1 => ∃ a, [v] = [V.ref a] ∧ (((∃ xs, SqL K H1 a xs) ∧ R (Ite K a) H1) ∨ ((∃ xs, SqT K H1 a xs) ∧ R (IteT K a) H1))
theorem pi_enA {X : Cx} {e : Expr} {te : TE} {p pos tpos : Pos} {elts : List Expr} {kk : Nat} (hg : Gl X "enumerate") (hm : X.mg "enumerate" = none) (he : PE X e te) (hs : starEach [e] X.env = [(false, eval e X.env)] := by rfl)
    (hs2 : starEach (e :: []) X.env = (false, eval e X.env) :: starEach [] X.env := by rfl) : PI X (.Tuple elts kk tpos) (.Call (.Name "enumerate" p) [e] [] pos) (iEnA X.K te) := by
  refine ⟨fun pins s σ H R I h => ?_⟩
  refine Call_ (ld_blt I hg hm boot_enumerate (PyProof.Rows.callWith_type1 (thn ((pa_cons he pa_nil hs2).run pos pins s σ H (fun vs H1 => ∃ a, vs = [.ref a] ∧ (((∃ xs, SqL X.K H1 a xs) ∧ R (Ite X.K a) H1) ∨ ((∃ xs, SqT X.K H1 a xs) ∧ R (IteT X.K a) H1))) I ?_) fun us s1 ⟨vs, H1, I1, r1, q1⟩ => ?_) hs rfl))
  · exact h
  · obtain ⟨a, rfl, q⟩ := q1
    rw [Vals.ref1 r1]
    have fp (b : Addr) (hb : b ∈ [s1.heap.objs.size + 1, s1.heap.objs.size]) : FpOk X pins H1 b := by
      have hle : s1.heap.objs.size ≤ b := by
        rcases (show b = s1.heap.objs.size + 1 ∨ b = s1.heap.objs.size by simpa using hb) with z | z <;> rw [z]
        · exact Nat.le_add_right _ _
        · exact Nat.le_refl _
      exact I1.fpOk hle (I1.hok.fresh hle)
    rcases q with ⟨⟨xs, hq⟩, q⟩ | ⟨⟨xs, hq⟩, q⟩
    · obtain ⟨its, rv, p', hz⟩ := I1.list hq
      refine call_enumerate_list p'.isList fun h' he hit hsz hk => wpAny_pyIter_enum he ?_
      exact ⟨s1.heap.objs.size + 1, [s1.heap.objs.size + 1, s1.heap.objs.size], _, _, H1, rfl, I1.kept (t' := s1.toks) hk, turn_enum a (s1.heap.objs.size + 1) s1.heap.objs.size, ⟨⟨.none, he⟩, hit, Nat.succ_ne_self _⟩, fp, q⟩
    · obtain ⟨its, rv, p', hz⟩ := I1.tuple hq
      have al : a < s1.heap.objs.size := IsTup.lt p'
      refine enum_callT (begins_tuple a its.toArray) p' fun h' he hit hk => wpAny_pyIter_enum he ?_
      exact ⟨s1.heap.objs.size + 1, [s1.heap.objs.size + 1, s1.heap.objs.size], _, _, H1, rfl, I1.kept (t' := s1.toks) hk,
        turn_enumT a (s1.heap.objs.size + 1) s1.heap.objs.size (Nat.succ_ne_self _) (Nat.ne_of_gt (Nat.lt_succ_of_lt al)) (Nat.ne_of_lt al), ⟨⟨.none, he⟩, ⟨_, hit, rfl, rfl⟩⟩, fp, q⟩
end L2
set_option Elab.async false
set_option linter.all false
set_option maxRecDepth 100000
/-! for, while, comprehensions. -/
namespace Z
open PySem L2

/-- what is walked: its items, and whether the store still bears it -/
abbrev MI := Env → M (List D × (Store → Bool))
/-- what stays when the banned lists may change -/
structure ExB (B : Addr → Prop) (al : List Addr) (H : Hp) (al' : List Addr) (H' : Hp) : Prop where
  pre : ∃ be, al' = al ++ be
  fr : ∀ a o, H a = some o → a ∉ al → (¬ B a ∨ ∃ vs, o = .tup vs) → H' a = some o ∧ a ∉ al'
section
variable {K : PySem.W.Frag} {B : Addr → Prop} {al al' al2 : List Addr} {H H' H2 : Hp}
theorem Ex.toB (x : Ex al H al' H') : ExB B al H al' H' := ⟨x.pre, fun a o h n _ => x.fr a o h n⟩
theorem ExB.step (x : ExB B al H al' H') (y : Ex al' H' al2 H2) : ExB B al H al2 H2 := by
  obtain ⟨⟨b1, e1⟩, f1⟩ := x
  obtain ⟨⟨b2, e2⟩, f2⟩ := y
  exact ⟨⟨b1 ++ b2, by rw [e2, e1, List.append_assoc]⟩, fun a o h n k => let ⟨p, q⟩ := f1 a o h n k; f2 a o p q⟩
theorem ExB.poke (x : ExB B al H al' H') {p : Addr} (hp : B p) {us ws : List V} (h0 : H' p = some (.lst us)) : ExB B al H al' (upd H' p (.lst ws)) := by
  refine ⟨x.pre, fun a o h n k => ?_⟩
  obtain ⟨g1, g2⟩ := x.fr a o h n k
  by_cases e : a = p
  · subst e
    rcases k with k | ⟨vs, rfl⟩
    · exact (k hp).elim
    · rw [h0] at g1; cases g1
  · exact ⟨by rw [upd_ne e]; exact g1, g2⟩
theorem ExB.get (x : ExB B al H al' H') {n : Nat} {a : Addr} (h : al[n]? = some a) : al'[n]? = some a := by
  obtain ⟨⟨b, rfl⟩, _⟩ := x
  rw [List.getElem?_append_left (List.getElem?_eq_some_iff.mp h).1]
  exact h
theorem ExB.rd (x : ExB B al H al' H') {a : Addr} {vs : List V} (h : CAt K B al H a vs) : CAt K B al' H' a vs := by
  rcases h with ⟨h, n, b⟩ | h
  · rcases h with h | ⟨o, h⟩
    · exact .inl ⟨.inl (x.fr _ _ h n (.inl b)).1, (x.fr _ _ h n (.inl b)).2, b⟩
    · exact .inl ⟨.inr ⟨o, (x.fr _ _ h n (.inl b)).1⟩, (x.fr _ _ h n (.inl b)).2, b⟩
  · exact .inr h
theorem ExB.xd (x : ExB B al H al' H') {a : Addr} {ns : List Int} (h : XAt B al H a ns) : XAt B al' H' a ns := by
  obtain ⟨o, ⟨h1, h2, h3⟩, h4⟩ := h
  exact ⟨o, ⟨(x.fr _ _ h1 h2 (.inl h3)).1, (x.fr _ _ h1 h2 (.inl h3)).2, h3⟩, h4⟩
theorem ExB.yd (x : ExB B al H al' H') {a : Addr} {es : List (Key × V)} (h : YAt B al H a es) : YAt B al' H' a es := by
  obtain ⟨o, ⟨h1, h2, h3⟩, h4⟩ := h
  exact ⟨o, ⟨(x.fr _ _ h1 h2 (.inl h3)).1, (x.fr _ _ h1 h2 (.inl h3)).2, h3⟩, h4⟩
theorem ExB.zd (x : ExB B al H al' H') {a : Addr} {vs : List V} (h : ZAt B al H a vs) : ZAt B al' H' a vs := by
  obtain ⟨o, ⟨h1, h2, h3⟩, h4⟩ := h
  exact ⟨o, ⟨(x.fr _ _ h1 h2 (.inl h3)).1, (x.fr _ _ h1 h2 (.inl h3)).2, h3⟩, h4⟩
theorem ExB.ld (x : ExB B al H al' H') {a : Addr} {vs : List V} (h : LAt B al H a vs) : LAt B al' H' a vs :=
  ⟨(x.fr _ _ h.1 h.2.1 (.inl h.2.2)).1, (x.fr _ _ h.1 h.2.1 (.inl h.2.2)).2, h.2.2⟩
mutual
theorem RV.monoB (R : NT al H) (x : ExB B al H al' H') : ∀ {d : D} {v : V}, RV K B al H d v → RV K B al' H' d v
  | _, _, .non => .non
  | _, _, .bl b => .bl b
  | _, _, .int i => .int i
  | _, _, .str s => .str s
  | _, _, .tup a ds vs h r => .tup a ds vs (x.fr _ _ h (R a vs h) (.inr ⟨vs, rfl⟩)).1 (RL.monoB R x r)
  | _, _, .lst a ds vs h r => .lst a ds vs (x.ld h) (RL.monoB R x r)
  | _, _, .scr a ns h => .scr a ns (x.rd h)
  | _, _, .tpi a ns h => .tpi a ns (x.xd h)
  | _, _, .dcf a kvs es h k r => .dcf a kvs es (x.yd h) k (rl_tups (fun a vs e => (x.fr _ _ e (R a vs e) (.inr ⟨vs, rfl⟩)).1) r)
  | _, _, .tpx a ds vs h r => .tpx a ds vs (x.zd h) (RL.monoB R x r)
  | _, _, .ref n a h => .ref n a (x.get h)
theorem RL.monoB (R : NT al H) (x : ExB B al H al' H') : ∀ {ds : List D} {vs : List V}, RL K B al H ds vs → RL K B al' H' ds vs
  | _, _, .nil => .nil
  | _, _, .cons d v ds vs h r => .cons d v ds vs (RV.monoB R x h) (RL.monoB R x r)
end
theorem ER.monoB {ρ : Env} {σ : St} (e : ER K B al H ρ σ) (N : NT al H) (x : ExB B al H al' H') : ER K B al' H' ρ σ := ⟨e.1, fun i d q => let ⟨v, a, b⟩ := e.2 i d q; ⟨v, a, b.monoB N x⟩⟩
end
def IsW (K : PySem.W.Frag) (B : Addr → Prop) (it : List D) (ok : Store → Bool) (J : It) (al : List Addr) (H : Hp) : Prop :=
  ∃ (G : Hp → Prop) (Y : Nat → Hp → V → Hp → Prop), Walk J it.length G Y ∧ (∀ (C : Addr → Prop) al2 S2 H2, Rel K C al2 S2 H2 → ExB B al H al2 H2 → ok S2 = true → G H2) ∧
    ∀ (C : Addr → Prop) i al2 S2 H2 x H3 d, (∀ a, B a → C a) → Rel K C al2 S2 H2 → ExB B al H al2 H2 → (∀ d v, RV K B al H d v → RV K C al2 H2 d v) → it[i]? = some d → ok S2 = true → Y i H2 x H3 → Rel K C al2 S2 H3 ∧ Ex al2 H2 al2 H3 ∧ RV K C al2 H3 d x
def tW (K : PySem.W.Frag) (m : MI) : TI := fun σ H R => ∃ (B : Addr → Prop) (al : List Addr) (S : Store) (ρ : Env) (it : List D) (ok : Store → Bool) (S' : Store), Rel K B al S H ∧ ER K B al H ρ σ ∧ m ρ S = some ((it, ok), S') ∧
  ∀ J al' H', Rel K B al' S' H' → Ex al H al' H' → IsW K B it ok J al' H' → R J H'

/-! ### sameness of data -/
mutual
def deq : D → D → Bool
  | .non, .non => true
  | .bl a, .bl b => a == b
  | .int a, .int b => a == b
  | .str a, .str b => decide (a = b)
  | .tup a, .tup b => deqs a b
  | .lst a, .lst b => deqs a b
  | .scr a, .scr b => decide (a = b)
  | .tpi a, .tpi b => decide (a = b)
  | .dcf a, .dcf b => decide (a = b)
  | .tpx a, .tpx b => deqs a b
  | .ref a, .ref b => a == b
  | _, _ => false
def deqs : List D → List D → Bool
  | [], [] => true
  | a :: as, b :: bs => deq a b && deqs as bs
  | _, _ => false
end
mutual
theorem deq_eq : ∀ {a b : D}, deq a b = true → a = b
  | .non, b, h => by cases b <;> first | rfl | simp [deq] at h
  | .bl x, b, h => by cases b <;> simp_all [deq]
  | .int x, b, h => by cases b <;> simp_all [deq]
  | .str x, b, h => by cases b <;> simp_all [deq]
  | .scr x, b, h => by cases b <;> simp_all [deq]
  | .tpi x, b, h => by cases b <;> simp_all [deq]
  | .dcf x, b, h => by cases b <;> simp_all [deq]
  | .ref x, b, h => by cases b <;> simp_all [deq]
  | .tup x, b, h => by
    cases b with
    | tup y => rw [deqs_eq (a := x) (b := y) (by simpa [deq] using h)]
    | _ => simp [deq] at h
  | .tpx x, b, h => by
    cases b with
    | tpx y => rw [deqs_eq (a := x) (b := y) (by simpa [deq] using h)]
    | _ => simp [deq] at h
  | .lst x, b, h => by
    cases b with
    | lst y => rw [deqs_eq (a := x) (b := y) (by simpa [deq] using h)]
    | _ => simp [deq] at h
theorem deqs_eq : ∀ {a b : List D}, deqs a b = true → a = b
  | [], b, h => by cases b <;> first | rfl | simp [deqs] at h
  | x :: xs, b, h => by
    cases b with
    | nil => simp [deqs] at h
    | cons y ys =>
      simp only [deqs, Bool.and_eq_true] at h
      rw [deq_eq h.1, deqs_eq h.2]
end
mutual
theorem deq_refl : ∀ a : D, deq a a = true
  | .non => rfl
  | .bl x => by simp [deq]
  | .int x => by simp [deq]
  | .str x => by simp [deq]
  | .scr x => by simp [deq]
  | .tpi x => by simp [deq]
  | .dcf x => by simp [deq]
  | .tpx x => by simp [deq, deqs_refl x]
  | .ref x => by simp [deq]
  | .tup x => by simp [deq, deqs_refl x]
  | .lst x => by simp [deq, deqs_refl x]
theorem deqs_refl : ∀ a : List D, deqs a a = true
  | [] => rfl
  | x :: xs => by simp [deqs, deq_refl x, deqs_refl xs]
end

/-! ### lists, tuples -/
def okOf : D → List D → Store → Bool
  | .ref n, xs, S => match S[n]? with
    | some (.lst ys) => deqs ys xs
    | _ => false
  | _, _, _ => true
def mItS (m : ME) : MI := fun ρ S => match m ρ S with
  | none => none
  | some (d, S') => match asSq S' d with
    | none => none
    | some xs => some ((xs, okOf d xs), S')
section
variable {K : PySem.W.Frag} {B : Addr → Prop} {al : List Addr} {S : Store} {H : Hp}
/-- the list at a has n items, whatever they are -/
def GLn (K : PySem.W.Frag) (a : Addr) (n : Nat) (H : Hp) : Prop := ∃ us, SqL K H a us ∧ us.length = n
def GTn (K : PySem.W.Frag) (a : Addr) (n : Nat) (H : Hp) : Prop := ∃ us, SqT K H a us ∧ us.length = n
theorem walk_Ln {a : Addr} {n : Nat} : Walk (Itl K a) n (GLn K a n) (fun i H x H' => H' = H ∧ ∀ us, SqL K H a us → us[i]? = some x) :=
  ⟨fun i H hi ⟨us, q, e⟩ => ⟨us, us[i]'(by omega), q, by simp [e, hi]⟩, fun H ⟨us, q, e⟩ => ⟨us, q, Nat.le_of_eq e⟩, fun _ _ _ _ _ _ y => y⟩
theorem walk_Tn {a : Addr} {n : Nat} : Walk (Itt K a) n (GTn K a n) (fun i H x H' => H' = H ∧ ∀ us, SqT K H a us → us[i]? = some x) :=
  ⟨fun i H hi ⟨us, q, e⟩ => ⟨us, us[i]'(by omega), q, by simp [e, hi]⟩, fun H ⟨us, q, e⟩ => ⟨us, q, Nat.le_of_eq e⟩, fun _ _ _ _ _ _ y => y⟩
theorem walk_eLn {a : Addr} {n : Nat} : Walk (Ite K a) n (GLn K a n) (fun i H v H' => ∃ T x, v = .ref T ∧ H T = none ∧ H' = upd H T (.tup [.int (i : Nat), x]) ∧ ∀ us, SqL K H a us → us[i]? = some x) :=
  ⟨fun i H hi ⟨us, q, e⟩ => ⟨us, us[i]'(by omega), q, by simp [e, hi]⟩, fun H ⟨us, q, e⟩ => ⟨us, q, Nat.le_of_eq e⟩, fun _ _ _ _ _ _ y => y⟩
theorem walk_eTn {a : Addr} {n : Nat} : Walk (IteT K a) n (GTn K a n) (fun i H v H' => ∃ T x, v = .ref T ∧ H T = none ∧ H' = upd H T (.tup [.int (i : Nat), x]) ∧ ∀ us, SqT K H a us → us[i]? = some x) :=
  ⟨fun i H hi ⟨us, q, e⟩ => ⟨us, us[i]'(by omega), q, by simp [e, hi]⟩, fun H ⟨us, q, e⟩ => ⟨us, q, e⟩, fun _ _ _ _ _ _ y => y⟩
theorem walk_cast {J : It} {n m : Nat} {G : Hp → Prop} {Y : Nat → Hp → V → Hp → Prop} (e : n = m) (w : Walk J n G Y) : Walk J m G Y := e ▸ w
theorem Ex.cd (x : Ex al H al' H') {a : Addr} {vs : List V} (h : CAt K B al H a vs) : SqL K H' a vs := cat_sq (x.rd h)
/-- what a list or a tuple holds at a later time, while the store bears it -/
theorem later {R : Rel K B al S H} {d : D} {v : V} (r : RV K B al H d v) {xs : List D} (e : asSq S d = some xs) : ∃ a, v = .ref a ∧
    (((∃ us, SqL K H a us) ∧ ∀ (C : Addr → Prop) al2 S2 H2, Rel K C al2 S2 H2 → ExB B al H al2 H2 → okOf d xs S2 = true → ∃ us, SqL K H2 a us ∧ us.length = xs.length ∧
        ((∀ d v, RV K B al H d v → RV K C al2 H2 d v) → ∀ (i : Nat) d u, xs[i]? = some d → us[i]? = some u → RV K C al2 H2 d u)) ∨
     ((∃ us, SqT K H a us) ∧ ∀ (C : Addr → Prop) al2 S2 H2, Rel K C al2 S2 H2 → ExB B al H al2 H2 → okOf d xs S2 = true → ∃ us, SqT K H2 a us ∧ us.length = xs.length ∧
        ((∀ d v, RV K B al H d v → RV K C al2 H2 d v) → ∀ (i : Nat) d u, xs[i]? = some d → us[i]? = some u → RV K C al2 H2 d u))) := by
  have pick : ∀ {us : List V} (C : Addr → Prop) (al2 : List Addr) (H2 : Hp), RL K B al H xs us → (∀ d v, RV K B al H d v → RV K C al2 H2 d v) → ∀ (i : Nat) d u, xs[i]? = some d → us[i]? = some u → RV K C al2 H2 d u := fun C al2 H2 ra f i d u e1 e2 => by
    obtain ⟨w, h1, h2⟩ := ra.get e1
    rw [e2] at h1; cases h1
    exact f _ _ h2
  cases r with
  | tup a ds vs h r =>
    cases e
    exact ⟨a, rfl, .inr ⟨⟨vs, .of h⟩, fun C al2 S2 H2 R2 x _ => ⟨vs, .of (x.fr _ _ h (R.notup h) (.inr ⟨vs, rfl⟩)).1, r.len.symm, pick C al2 H2 r⟩⟩⟩
  | scr a ns h =>
    cases e
    exact ⟨a, rfl, .inl ⟨⟨_, cat_sq h⟩, fun C al2 S2 H2 R2 x _ => ⟨_, cat_sq (x.rd h), by simp, pick C al2 H2 (rl_ints ns)⟩⟩⟩
  | tpx a ds vs h r =>
    cases e
    exact ⟨a, rfl, .inr ⟨⟨vs, zat_sq h⟩, fun C al2 S2 H2 R2 x _ => ⟨vs, zat_sq (x.zd h), r.len.symm, pick C al2 H2 r⟩⟩⟩
  | tpi a ns h =>
    cases e
    exact ⟨a, rfl, .inr ⟨⟨_, xat_sq h⟩, fun C al2 S2 H2 R2 x _ => ⟨_, xat_sq (x.xd h), by simp, pick C al2 H2 (rl_ints ns)⟩⟩⟩
  | lst a ds vs h r =>
    cases e
    exact ⟨a, rfl, .inl ⟨⟨vs, .of h.1⟩, fun C al2 S2 H2 R2 x _ => ⟨vs, .of (x.ld h).1, r.len.symm, pick C al2 H2 r⟩⟩⟩
  | ref n a h =>
    refine ⟨a, rfl, .inl ⟨?_, fun C al2 S2 H2 R2 x hk => ?_⟩⟩
    · obtain ⟨b, us, e1, e2, _⟩ := asL_rep R (.ref n a h) e
      cases e1
      exact ⟨us, .of e2⟩
    · simp only [okOf] at hk
      split at hk
      · rename_i ys ho
        have := deqs_eq hk
        subst this
        obtain ⟨us, hu, ru⟩ := R2.ob n a _ (x.get h) ho
        refine ⟨us, .of hu, ru.len.symm, fun _ i d u e1 e2 => ?_⟩
        obtain ⟨w, h1, h2⟩ := ru.get e1
        rw [e2] at h1; cases h1
        exact h2
      · cases hk
  | _ => cases e
end
section
variable {X : Cx} {tg e : Expr}
theorem pi_imp {t t' : TI} (h : PI X tg e t) (q : ∀ σ H R, t' σ H R → t σ H R) : PI X tg e t' := ⟨fun pins s σ H R I w => h.run pins s σ H R I (q _ _ _ w)⟩
def Si (X : Cx) (tg e : Expr) (m : MI) : Prop := PI X tg e (tW X.K m)
theorem si_seq {m : ME} (h : Sn X e m) : Si X tg e (mItS m) := pi_imp (pi_sq h) fun σ H R ⟨B, al, S, ρ, it, ok, S', R0, er, hm, q⟩ => by
  unfold mItS at hm
  split at hm
  · cases hm
  · rename_i d S1 h1
    split at hm
    · cases hm
    · rename_i xs h2
      cases hm
      refine ⟨B, al, S, ρ, d, _, R0, er, h1, fun v al1 H1 R1 x1 r1 => ?_⟩
      obtain ⟨a, rfl, hh⟩ := later (R := R1) r1 h2
      refine ⟨a, rfl, ?_⟩
      rcases hh with ⟨hu, hh⟩ | ⟨hu, hh⟩
      · refine .inl ⟨hu, q _ al1 H1 R1 x1 ⟨_, _, walk_Ln, fun C al2 S2 H2 R2 x2 hk => ?_, fun C i al2 S2 H2 x H3 d hbc R2 x2 lift hd hk hy => ?_⟩⟩
        · obtain ⟨us, h3, h4, _⟩ := hh C al2 S2 H2 R2 x2 hk
          exact ⟨us, h3, h4⟩
        · obtain ⟨us, h3, h4, h5⟩ := hh C al2 S2 H2 R2 x2 hk
          obtain ⟨rfl, hy⟩ := hy
          exact ⟨R2, .refl, h5 lift i d x hd (hy us h3)⟩
      · refine .inr ⟨hu, q _ al1 H1 R1 x1 ⟨_, _, walk_Tn, fun C al2 S2 H2 R2 x2 hk => ?_, fun C i al2 S2 H2 x H3 d hbc R2 x2 lift hd hk hy => ?_⟩⟩
        · obtain ⟨us, h3, h4, _⟩ := hh C al2 S2 H2 R2 x2 hk
          exact ⟨us, h3, h4⟩
        · obtain ⟨us, h3, h4, h5⟩ := hh C al2 S2 H2 R2 x2 hk
          obtain ⟨rfl, hy⟩ := hy
          exact ⟨R2, .refl, h5 lift i d x hd (hy us h3)⟩
/-- enumerate(x) -/
def enumD (k : Nat) : List D → List D
  | [] => []
  | d :: ds => .tup [.int (k : Nat), d] :: enumD (k + 1) ds
theorem enumD_len : ∀ (k : Nat) (ds : List D), (enumD k ds).length = ds.length
  | _, [] => rfl
  | k, d :: ds => by simp [enumD, enumD_len (k + 1) ds]
theorem enumD_get : ∀ (k : Nat) (ds : List D) (i : Nat) (d : D), (enumD k ds)[i]? = some d → ∃ c, ds[i]? = some c ∧ d = .tup [.int ((k + i : Nat) : Int), c]
  | _, [], i, d, h => by simp [enumD] at h
  | k, c :: ds, 0, d, h => by simp [enumD] at h; exact ⟨c, rfl, h.symm⟩
  | k, c :: ds, i + 1, d, h => by
    simp only [enumD, List.getElem?_cons_succ] at h
    obtain ⟨c', h1, h2⟩ := enumD_get (k + 1) ds i d h
    exact ⟨c', by simpa using h1, by rw [h2]; congr 3; omega⟩
def mItE (m : ME) : MI := fun ρ S => match m ρ S with
  | none => none
  | some (d, S') => match asSq S' d with
    | none => none
    | some xs => some ((enumD 0 xs, okOf d xs), S')
theorem pair_up {K : PySem.W.Frag} {C : Addr → Prop} {al2 : List Addr} {S2 : Store} {H2 : Hp} {T : Addr} {i : Nat} {c : D} {x : V} (R2 : Rel K C al2 S2 H2) (hT : H2 T = none) (r : RV K C al2 H2 c x) :
    Rel K C al2 S2 (upd H2 T (.tup [.int (i : Nat), x])) ∧ Ex al2 H2 al2 (upd H2 T (.tup [.int (i : Nat), x])) ∧ RV K C al2 (upd H2 T (.tup [.int (i : Nat), x])) (.tup [.int ((0 + i : Nat) : Int), c]) (.ref T) := by
  obtain ⟨y, R3⟩ := R2.side (o := .tup [.int (i : Nat), x]) hT
  refine ⟨R3, y, .tup T _ _ upd_same ?_⟩
  rw [Nat.zero_add]
  exact .cons _ _ _ _ (.int _) (.cons _ _ _ _ (r.mono R2 y) .nil)
theorem si_enum {elts : List Expr} {kk : Nat} {tpos p pos : Pos} {m : ME} (hg : Gl X "enumerate") (hm : X.mg "enumerate" = none) (he : Sn X e m) (hs : starEach [e] X.env = [(false, eval e X.env)] := by rfl)
    (hs2 : starEach (e :: []) X.env = (false, eval e X.env) :: starEach [] X.env := by rfl) : Si X (.Tuple elts kk tpos) (.Call (.Name "enumerate" p) [e] [] pos) (mItE m) :=
  pi_imp (pi_enA hg hm he hs hs2) fun σ H R ⟨B, al, S, ρ, it, ok, S', R0, er, hm, q⟩ => by
    unfold mItE at hm
    split at hm
    · cases hm
    · rename_i d S1 h1
      split at hm
      · cases hm
      · rename_i xs h2
        cases hm
        refine ⟨B, al, S, ρ, d, _, R0, er, h1, fun v al1 H1 R1 x1 r1 => ?_⟩
        obtain ⟨a, rfl, hh⟩ := later (R := R1) r1 h2
        refine ⟨a, rfl, ?_⟩
        rcases hh with ⟨hu, hh⟩ | ⟨hu, hh⟩
        · refine .inl ⟨hu, q _ al1 H1 R1 x1 ⟨_, _, walk_cast (enumD_len 0 xs).symm walk_eLn, fun C al2 S2 H2 R2 x2 hk => ?_, fun C i al2 S2 H2 x H3 d hbc R2 x2 lift hd hk hy => ?_⟩⟩
          · obtain ⟨us, h3, h4, _⟩ := hh C al2 S2 H2 R2 x2 hk
            exact ⟨us, h3, h4⟩
          · obtain ⟨us, h3, h4, h5⟩ := hh C al2 S2 H2 R2 x2 hk
            obtain ⟨T, y, rfl, hT, rfl, hy⟩ := hy
            obtain ⟨c, hc, rfl⟩ := enumD_get 0 xs i d hd
            exact pair_up R2 hT (h5 lift i c y hc (hy us h3))
        · refine .inr ⟨hu, q _ al1 H1 R1 x1 ⟨_, _, walk_cast (enumD_len 0 xs).symm walk_eTn, fun C al2 S2 H2 R2 x2 hk => ?_, fun C i al2 S2 H2 x H3 d hbc R2 x2 lift hd hk hy => ?_⟩⟩
          · obtain ⟨us, h3, h4, _⟩ := hh C al2 S2 H2 R2 x2 hk
            exact ⟨us, h3, h4⟩
          · obtain ⟨us, h3, h4, h5⟩ := hh C al2 S2 H2 R2 x2 hk
            obtain ⟨T, y, rfl, hT, rfl, hy⟩ := hy
            obtain ⟨c, hc, rfl⟩ := enumD_get 0 xs i d hd
            exact pair_up R2 hT (h5 lift i c y hc (hy us h3))
/-! ### range -/
def rngD (lo : Int) (n : Nat) : List D := (List.range n).map fun i => .int (lo + (i : Nat))
theorem rng_isW {K : PySem.W.Frag} {B : Addr → Prop} {al : List Addr} {H : Hp} {lo : Int} {n : Nat} : IsW K B (rngD lo n) (fun _ => true) (Itr lo n) al H := by
  have e : (rngD lo n).length = n := by simp [rngD]
  refine ⟨fun _ => True, _, walk_cast e.symm (walk_range (lo := lo) (n := n)), fun _ _ _ _ _ _ _ => trivial, fun C i al2 S2 H2 x H3 d hbc R2 x2 lift hd hk hy => ?_⟩
  obtain ⟨rfl, rfl⟩ := hy
  have hi : i < n := by
    have := (List.getElem?_eq_some_iff.mp hd).1
    rw [e] at this; exact this
  have : d = .int (lo + (i : Nat)) := by
    simp [rngD, hi] at hd
    exact hd.symm
  subst this
  exact ⟨R2, .refl, .int _⟩
def okR (i : Int) : Bool := decide (-1000000 ≤ i ∧ i ≤ 1000000)
def mItR (m : MA) : MI := fun ρ S => match m ρ S with
  | some ([.int j], S') => if okR j then some ((rngD 0 j.toNat, fun _ => true), S') else none
  | some ([.int i, .int j], S') => if okR i && okR j then some ((rngD i (j - i).toNat, fun _ => true), S') else none
  | _ => none
theorem si_rng1 {p pos : Pos} {a : Expr} {m : MA} (hg : Gl X "range") (hm : X.mg "range" = none) (ha : Sa X [a] m) (h : PI X tg (.Call (.Name "range" p) [a] [] pos) (iRng1 (tA X.K m))) : Si X tg (.Call (.Name "range" p) [a] [] pos) (mItR m) :=
  pi_imp h fun σ H R ⟨B, al, S, ρ, it, ok, S', R0, er, hm, q⟩ => by
    unfold mItR at hm
    split at hm
    · rename_i j S1 h1
      split at hm
      · rename_i hk
        have hk := of_decide_eq_true hk
        cases hm
        refine ⟨B, al, S, ρ, _, _, R0, er, h1, fun vs al1 H1 R1 x1 r1 => ?_⟩
        obtain ⟨v, rfl, rv⟩ := rl_one r1
        cases rv
        exact ⟨j, rfl, by omega, by omega, q _ al1 H1 R1 x1 rng_isW⟩
      · cases hm
    · rename_i i j S1 h1
      have := ha.len _ _ _ _ h1
      simp at this
    · cases hm
theorem si_rng2 {p pos : Pos} {a b : Expr} {m : MA} (hg : Gl X "range") (hm : X.mg "range" = none) (ha : Sa X [a, b] m) (h : PI X tg (.Call (.Name "range" p) [a, b] [] pos) (iRng2 (tA X.K m))) : Si X tg (.Call (.Name "range" p) [a, b] [] pos) (mItR m) :=
  pi_imp h fun σ H R ⟨B, al, S, ρ, it, ok, S', R0, er, hm, q⟩ => by
    unfold mItR at hm
    split at hm
    · rename_i j S1 h1
      have := ha.len _ _ _ _ h1
      simp at this
    · rename_i i j S1 h1
      split at hm
      · rename_i hk
        simp only [Bool.and_eq_true] at hk
        have hk1 := of_decide_eq_true hk.1
        have hk2 := of_decide_eq_true hk.2
        cases hm
        refine ⟨B, al, S, ρ, _, _, R0, er, h1, fun vs al1 H1 R1 x1 r1 => ?_⟩
        obtain ⟨v, w, rfl, rv, rw'⟩ := rl_two r1
        cases rv; cases rw'
        exact ⟨i, j, rfl, ⟨by omega, by omega, by omega, by omega⟩, q _ al1 H1 R1 x1 rng_isW⟩
      · cases hm
    · cases hm
end
end Z
set_option Elab.async false
set_option linter.all false
set_option maxRecDepth 100000
/-! for, while, comprehensions. -/
namespace Z
open PySem L2

def mForL (g : Tg) (ok : Store → Bool) (body : MS) : List D → MS
  | [], ρ, S => if ok S then some (.nx ρ, S) else none
  | d :: ds, ρ, S => if ok S then match g.put d ρ with
      | none => none
      | some ρ1 => match body ρ1 S with
        | some (.nx ρ2, S2) => mForL g ok body ds ρ2 S2
        | some (.ct ρ2, S2) => mForL g ok body ds ρ2 S2
        | some (.bk ρ2, S2) => some (.nx ρ2, S2)
        | r => r
    else none
def mFor (g : Tg) (it : MI) (body : MS) : MS := fun ρ S => match it ρ S with
  | some ((xs, ok), S1) => mForL g ok body xs ρ S1
  | none => none
section
variable {X : Cx} {W : Str → Hp → Prop}
theorem ss_for {tg e : Expr} {body : List Stmt} {g : Tg} {it : MI} {b : MS} {pos : Pos} (hp : PassesOwn (model X.prog X.w) X.A X.env X.xe) (hc : X.calm = true) (hi : Si X tg e it) (hg : Sg X tg g) (hb : Sb X W body b) (hs : ∀ x, foldedSetIterable e X.env x = pure x := by intro _; rfl) :
    Ss X W (.For tg e body [] pos) (mFor g it b) := ps_imp (ps_for hp hc hi hg hb hs) fun D σ H ⟨B, al, S, ρ, o, S', R, er, hm, p⟩ => by
  unfold mFor at hm
  split at hm
  · rename_i xs ok S1 h1
    refine ⟨B, al, S, ρ, xs, ok, S1, R, er, h1, fun J al1 H1 R1 x1 ⟨G, Y, w, hG, hY⟩ => ?_⟩
    let Pv : Nat → St → Hp → Prop := fun i σ2 H2 => ∃ al2 S2 ρ2, Rel X.K B al2 S2 H2 ∧ Ex al1 H1 al2 H2 ∧ ER X.K B al2 H2 ρ2 σ2 ∧ mForL g ok b (xs.drop i) ρ2 S2 = some (o, S')
    refine for_it w Pv ⟨al1, S1, ρ, R1, .refl, er.mono R x1, hm⟩ ?_ ?_ ?_
    · rintro i σ2 H2 hi ⟨al2, S2, ρ2, R2, x2, er2, h2⟩
      refine hG B al2 S2 H2 R2 x2.toB ?_
      cases hd : xs.drop i <;> rw [hd] at h2 <;> unfold mForL at h2 <;> (split at h2; assumption; cases h2)
    · rintro i x σ2 H2 H3 hi ⟨al2, S2, ρ2, R2, x2, er2, h2⟩ hy
      rw [List.drop_eq_getElem_cons hi] at h2
      unfold mForL at h2
      split at h2
      · rename_i hk
        split at h2
        · cases h2
        · rename_i ρ3 h3
          obtain ⟨R3, x3, rv⟩ := hY B i al2 S2 H2 x H3 xs[i] (fun _ z => z) R2 x2.toB (fun d v r => r.mono R1 x2) (by simp [hi]) hk hy
          refine ⟨B, al2, S2, ρ2, ρ3, xs[i], R3, er2.mono R2 x3, rv, h3, fun σ3 er3 _ => ?_⟩
          have xx := (x2.trans x3)
          split at h2
          · rename_i ρ4 S4 h4
            exact ⟨B, al2, S2, ρ3, .nx ρ4, S4, R3, er3, h4, fun σ4 al4 H4 R4 x4 er4 => ⟨al4, S4, ρ4, R4, xx.trans x4, er4, h2⟩⟩
          · rename_i ρ4 S4 h4
            exact ⟨B, al2, S2, ρ3, .ct ρ4, S4, R3, er3, h4, fun σ4 al4 H4 R4 x4 er4 => ⟨al4, S4, ρ4, R4, xx.trans x4, er4, h2⟩⟩
          · rename_i ρ4 S4 h4
            cases h2
            exact ⟨B, al2, S2, ρ3, .bk ρ4, _, R3, er3, h4, fun σ4 al4 H4 R4 x4 er4 => p σ4 al4 H4 R4 ((x1.trans xx).trans x4) er4⟩
          · rename_i h4 h5 h6
            refine ⟨B, al2, S2, ρ3, o, S', R3, er3, h2, ?_⟩
            cases o with
            | nx ρ' => exact (h4 _ _ h2).elim
            | rt d => exact p.step (x1.trans xx)
            | bk ρ' => exact (h6 _ _ h2).elim
            | ct ρ' => exact (h5 _ _ h2).elim
            | ex c => exact p.step (x1.trans xx)
      · cases h2
    · rintro σ2 H2 ⟨al2, S2, ρ2, R2, x2, er2, h2⟩
      rw [List.drop_length] at h2
      unfold mForL at h2
      split at h2
      · cases h2
        exact p σ2 al2 H2 R2 (x1.trans x2) er2
      · cases h2
  · cases hm

/-! ### while, at most n turns -/
def mWhl (t : MT) (body : MS) : Nat → MS
  | 0, _, _ => none
  | n + 1, ρ, S => match t ρ S with
    | none => none
    | some (false, S1) => some (.nx ρ, S1)
    | some (true, S1) => match body ρ S1 with
      | some (.nx ρ2, S2) => mWhl t body n ρ2 S2
      | some (.ct ρ2, S2) => mWhl t body n ρ2 S2
      | some (.bk ρ2, S2) => some (.nx ρ2, S2)
      | r => r
theorem ss_while {c : Expr} {body : List Stmt} {t : MT} {b : MS} {pos : Pos} (n : Nat) (hp : PassesOwn (model X.prog X.w) X.A X.env X.xe) (hc : Stt X c t) (hb : Sb X W body b) :
    Ss X W (.While c body [] pos) (mWhl t b n) := ps_imp (ps_while hp hc hb) fun D σ H ⟨B, al, S, ρ, o, S', R, er, hm, p⟩ => by
  let Wm : Nat → St → Hp → Prop := fun m σ2 H2 => ∃ al2 S2 ρ2, Rel X.K B al2 S2 H2 ∧ Ex al H al2 H2 ∧ ER X.K B al2 H2 ρ2 σ2 ∧ mWhl t b m ρ2 S2 = some (o, S')
  refine ⟨Wm, ⟨n, al, S, ρ, R, .refl, er, hm⟩, ?_⟩
  rintro m σ2 H2 ⟨al2, S2, ρ2, R2, x2, er2, h2⟩
  cases m with
  | zero => unfold mWhl at h2; cases h2
  | succ m =>
    unfold mWhl at h2
    split at h2
    · cases h2
    · rename_i S3 h3
      cases h2
      refine ⟨B, al2, S2, ρ2, false, _, R2, er2, h3, fun k al3 H3 R3 x3 e => ?_⟩
      subst e
      exact p σ2 al3 H3 R3 (x2.trans x3) (er2.mono R2 x3)
    · rename_i S3 h3
      refine ⟨B, al2, S2, ρ2, true, S3, R2, er2, h3, fun k al3 H3 R3 x3 e => ?_⟩
      subst e
      rw [if_pos rfl]
      refine ⟨fun σ' H' => Wm m σ' H', fun σ' H' w => ⟨m, Nat.lt_succ_self m, w⟩, ?_⟩
      have er3 := er2.mono R2 x3
      have xx := x2.trans x3
      split at h2
      · rename_i ρ4 S4 h4
        exact ⟨B, al3, S3, ρ2, .nx ρ4, S4, R3, er3, h4, fun σ4 al4 H4 R4 x4 er4 => ⟨al4, S4, ρ4, R4, xx.trans x4, er4, h2⟩⟩
      · rename_i ρ4 S4 h4
        exact ⟨B, al3, S3, ρ2, .ct ρ4, S4, R3, er3, h4, fun σ4 al4 H4 R4 x4 er4 => ⟨al4, S4, ρ4, R4, xx.trans x4, er4, h2⟩⟩
      · rename_i ρ4 S4 h4
        cases h2
        exact ⟨B, al3, S3, ρ2, .bk ρ4, _, R3, er3, h4, fun σ4 al4 H4 R4 x4 er4 => p σ4 al4 H4 R4 (xx.trans x4) er4⟩
      · rename_i h4 h5 h6
        refine ⟨B, al3, S3, ρ2, o, S', R3, er3, h2, ?_⟩
        cases o with
        | nx ρ' => exact (h4 _ _ h2).elim
        | rt d => exact p.step xx
        | bk ρ' => exact (h6 _ _ h2).elim
        | ct ρ' => exact (h5 _ _ h2).elim
        | ex c => exact p.step xx
end

/-! ### comprehensions of one for -/
def mLcL (vs : List Nat) (g : Tg) (ok : Store → Bool) (t : MT) (e : ME) (ρ : Env) : List D → M (List D)
  | [], S => if ok S then some ([], S) else none
  | d :: ds, S => if ok S then match g.put d (wipeD ρ vs) with
      | none => none
      | some ρ1 => match t ρ1 S with
        | none => none
        | some (true, S1) => match e ρ1 S1 with
          | none => none
          | some (y, S2) => match mLcL vs g ok t e ρ ds S2 with
            | none => none
            | some (ys, S3) => some (y :: ys, S3)
        | some (false, S1) => mLcL vs g ok t e ρ ds S1
    else none
def mLc (vs : List Nat) (g : Tg) (it : MI) (t : MT) (e : ME) : MA := fun ρ S => match it ρ S with
  | some ((xs, ok), S1) => match mLcL vs g ok t e ρ xs S1 with
    | some (ys, S2) => if ys.length ≤ lim then some (ys, S2) else none
    | none => none
  | none => none
def mTrue : MT := fun _ => ret true
end Z
set_option Elab.async false
set_option linter.all false
set_option maxRecDepth 100000
/-! Comprehensions. -/
namespace Z
open PySem L2

section
variable {K : PySem.W.Frag} {B : Addr → Prop} {al : List Addr} {H : Hp} {p : Addr} {us vs0 : List V}
mutual
theorem RV.poke (hb : B p) (h0 : H p = some (.lst vs0)) : ∀ {d : D} {v : V}, RV K B al H d v → RV K B al (upd H p (.lst us)) d v
  | _, _, .non => .non
  | _, _, .bl b => .bl b
  | _, _, .int i => .int i
  | _, _, .str s => .str s
  | _, _, .tup a ds vs h r => .tup a ds vs (by
      show upd H p _ a = _
      rw [upd_ne (fun e => by rw [e] at h; have h' : H p = some (.tup vs) := h; rw [h0] at h'; cases h')]; exact h) (RL.poke hb h0 r)
  | _, _, .lst a ds vs h r => .lst a ds vs ⟨by rw [upd_ne (fun e => h.2.2 (by rw [e]; exact hb))]; exact h.1, h.2⟩ (RL.poke hb h0 r)
  | _, _, .scr a ns h => .scr a ns (match h with
    | .inl ⟨x, y, z⟩ => .inl ⟨(by
        have ne : a ≠ p := fun e => z (by rw [e]; exact hb)
        rcases x with x | ⟨o, x⟩
        · exact .inl (by rw [upd_ne ne]; exact x)
        · exact .inr ⟨o, by rw [upd_ne ne]; exact x⟩), y, z⟩
    | .inr x => .inr x)
  | _, _, .tpi a ns h => .tpi a ns (match h with
    | ⟨o, ⟨h1, h2, h3⟩, h4⟩ => ⟨o, ⟨by rw [upd_ne (fun e => h3 (by rw [e]; exact hb))]; exact h1, h2, h3⟩, h4⟩)
  | _, _, .tpx a ds vs h r => .tpx a ds vs (match h with
    | ⟨o, ⟨h1, h2, h3⟩, h4⟩ => ⟨o, ⟨by rw [upd_ne (fun e => h3 (by rw [e]; exact hb))]; exact h1, h2, h3⟩, h4⟩) (RL.poke hb h0 r)
  | _, _, .dcf a kvs es h k r => .dcf a kvs es (match h with
    | ⟨o, ⟨h1, h2, h3⟩, h4⟩ => ⟨o, ⟨by rw [upd_ne (fun e => h3 (by rw [e]; exact hb))]; exact h1, h2, h3⟩, h4⟩) k (rl_tups (fun a vs h => by rw [upd_ne (fun e => by rw [e, h0] at h; cases h)]; exact h) r)
  | _, _, .ref n a h => .ref n a h
theorem RL.poke (hb : B p) (h0 : H p = some (.lst vs0)) : ∀ {ds : List D} {vs : List V}, RL K B al H ds vs → RL K B al (upd H p (.lst us)) ds vs
  | _, _, .nil => .nil
  | _, _, .cons d v ds vs h r => .cons d v ds vs (RV.poke hb h0 h) (RL.poke hb h0 r)
end
/-- a list that nobody leans on is changed -/
theorem Rel.poke {S : Store} (R : Rel K B al S H) (hb : B p) (h0 : H p = some (.lst vs0)) : Rel K B al S (upd H p (.lst us)) := by
  have np := (R.bh p hb).1
  refine ⟨R.len, R.nd, fun a h => ⟨(R.bh a h).1, ?_⟩, fun n a o e1 e2 => ?_⟩
  · by_cases e : a = p
    · subst e; exact ⟨_, upd_same⟩
    · rw [upd_ne e]; exact (R.bh a h).2
  · have ne : a ≠ p := fun e => np (by rw [← e]; exact List.mem_of_getElem? e1)
    have k : ∀ w, H a = some w → upd H p (.lst us) a = some w := fun w e => by rw [upd_ne ne]; exact e
    have q := R.ob n a o e1 e2
    cases o with
    | lst ds => obtain ⟨vs, e, r⟩ := q; exact ⟨vs, k _ e, r.poke hb h0⟩
    | dct kvs => obtain ⟨es, e, e2, r⟩ := q; exact ⟨es, k _ e, e2, r.poke hb h0⟩
    | dtt kvs => obtain ⟨es, e, e2, r⟩ := q; exact ⟨es, k _ e, e2, r.poke hb h0⟩
theorem Ex.poke {al0 : List Addr} {H0 : Hp} {o : HO} (x : Ex al0 H0 al H) (h : H0 p = none) : Ex al0 H0 al (upd H p o) :=
  ⟨x.pre, fun a u e n => ⟨by rw [upd_ne (ne_of_none e h)]; exact (x.fr a u e n).1, (x.fr a u e n).2⟩⟩
theorem ER.ban {ρ : Env} {σ : St} (e : ER K B al H ρ σ) (h : H p = Option.none) : ER K (Bp B p) al H ρ σ := ⟨e.1, fun i d q => let ⟨v, a, b⟩ := e.2 i d q; ⟨v, a, b.ban h⟩⟩
theorem ER.monoN {al' : List Addr} {H' : Hp} {ρ : Env} {σ : St} (e : ER K B al H ρ σ) (N : NT al H) (x : Ex al H al' H') : ER K B al' H' ρ σ := ⟨e.1, fun i d q => let ⟨v, a, b⟩ := e.2 i d q; ⟨v, a, b.monoN N x⟩⟩
end

section
variable {X : Cx} {vs : List Nat} {g : Tg} {it : MI} {t : MT} {e : ME}
theorem lcL_ok {ok : Store → Bool} {ρ : Env} {ds : List D} {S : Store} {r} (h : mLcL vs g ok t e ρ ds S = some r) : ok S = true := by
  cases ds <;> unfold mLcL at h <;> (split at h; assumption; cases h)
theorem lc_of (hv : ∀ i ∈ g.slots, i ∈ vs) : ∀ σ H Q, tF X.K (mLc vs g it t e) σ H Q → tLc (tW X.K it) (tTg X.K g) (tT X.K t) (tE X.K e) vs σ H Q := fun σ H Q ⟨B, al, S, ρ, ys, S', R, er, hm, q⟩ => by
  unfold mLc at hm
  split at hm
  · rename_i xs ok S1 h1
    split at hm
    · rename_i zs S2 h2
      split at hm
      · rename_i hz
        cases hm
        refine ⟨B, al, S, ρ, xs, ok, S1, R, er, h1, fun J al1 H1 R1 x1 ⟨G, Y, w, hG, hY⟩ => fun Dl hD => ?_⟩
        have h0 : H Dl = none := fresh_al x1 (R1.fresh hD) hD
        obtain ⟨xb, Rb⟩ := R1.ban (o := .lst []) hD
        have er1 : ER X.K (Bp B Dl) al1 H1 ρ σ := (er.mono R x1).ban hD
        let Pv : Nat → Hp → Prop := fun i H2 => ∃ al2 S2 acc vacc rest, Rel X.K (Bp B Dl) al2 S2 H2 ∧ Ex al1 H1 al2 H2 ∧ H2 Dl = some (.lst vacc) ∧ RL X.K (Bp B Dl) al2 H2 acc vacc ∧ mLcL vs g ok t e ρ (xs.drop i) S2 = some (rest, S') ∧ acc ++ rest = ys
        refine lc_it w Pv ⟨al1, S1, [], [], ys, Rb, xb, upd_same, .nil, h2, rfl⟩ ?_ ?_ ?_
        · rintro i H2 hi ⟨al2, S2, acc, vacc, rest, R2, x2, hd2, ra, h3, h4⟩
          exact hG _ al2 S2 H2 R2 x2.toB (lcL_ok h3)
        · rintro i x H2 H3 hi ⟨al2, S2, acc, vacc, rest, R2, x2, hd2, ra, h3, h4⟩ hy
          rw [List.drop_eq_getElem_cons hi] at h3
          unfold mLcL at h3
          split at h3
          · rename_i hk
            split at h3
            · cases h3
            · rename_i ρ3 hp
              obtain ⟨R3, x3, rv⟩ := hY (Bp B Dl) i al2 S2 H2 x H3 xs[i] bp_less R2 x2.toB (fun d v r => (r.ban hD).monoN R1.nt x2) (by simp [hi]) hk hy
              have nd2 : Dl ∉ al2 := (R2.bh Dl (.inr rfl)).1
              refine ⟨Bp B Dl, al2, S2, wipeD ρ vs, ρ3, xs[i], R3, ((er1.monoN R1.nt x2).wipe vs).mono R2 x3, rv, hp, fun σ3 er3 hw => ⟨(hw vs hv).trans wipe_wipe, ?_⟩⟩
              have hd3 := (x3.fr Dl _ hd2 nd2).1
              have ra3 := ra.mono R2 x3
              have nd3 : Dl ∉ al2 := nd2
              split at h3
              · cases h3
              · rename_i S4 h5
                split at h3
                · cases h3
                · rename_i y S5 h6
                  split at h3
                  · cases h3
                  · rename_i zs S6 h7
                    cases h3
                    refine ⟨Bp B Dl, al2, S2, ρ3, true, S4, R3, er3, h5, fun k al4 H4 R4 x4 ek => ?_⟩
                    subst ek
                    rw [if_pos rfl]
                    refine ⟨Bp B Dl, al4, S4, ρ3, y, S5, R4, er3.mono R3 x4, h6, fun v al5 H5 R5 x5 r5 => ⟨vacc, ?_, ?_, ?_⟩⟩
                    · exact (x5.fr Dl _ (x4.fr Dl _ hd3 nd3).1 (x4.fr Dl _ hd3 nd3).2).1
                    · have e1 := ra.len
                      have e2 : ys.length = acc.length + (zs.length + 1) := by rw [← h4]; simp
                      exact lim_lt (by omega)
                    · have hd5 := (x5.fr Dl _ (x4.fr Dl _ hd3 nd3).1 (x4.fr Dl _ hd3 nd3).2).1
                      refine ⟨al5, S5, acc ++ [y], vacc ++ [v], zs, R5.poke (.inr rfl) hd5, ((((x2.trans x3).trans x4).trans x5)).poke hD, upd_same, ?_, h7, by rw [List.append_assoc]; exact h4⟩
                      exact (((ra3.mono R3 x4).mono R4 x5).append (.cons _ _ _ _ r5 .nil)).poke (.inr rfl) hd5
              · rename_i S4 h5
                refine ⟨Bp B Dl, al2, S2, ρ3, false, S4, R3, er3, h5, fun k al4 H4 R4 x4 ek => ?_⟩
                subst ek
                exact ⟨al4, S4, acc, vacc, rest, R4, (x2.trans x3).trans x4, (x4.fr Dl _ hd3 nd3).1, ra3.mono R3 x4, h3, h4⟩
          · cases h3
        · rintro H2 ⟨al2, S2, acc, vacc, rest, R2, x2, hd2, ra, h3, h4⟩
          rw [List.drop_length] at h3
          unfold mLcL at h3
          split at h3
          · cases h3
            rw [List.append_nil] at h4
            subst h4
            exact q Dl vacc al2 H2 R2 (x1.trans x2) h0 hd2 ra
          · cases h3
      · cases hm
    · cases hm
  · cases hm
theorem sn_lc {elt tg iter : Expr} {ifs : List Expr} {scope : Scope} {own : List (Str × Nat)} {pos : Pos} (hc : X.calm = true) (hN : X.N.Nodup) (hi : Si X tg iter it) (ok : BlkOk X.N X.env.scope scope own)
    (hg : ∀ (s : Shared) (H : Hp) (C : Addr) (cl : List (Str × Addr)) (fp : List Addr), Sg (X.blk s H scope (compEnvC scope cl C X.env) fp) tg g)
    (ht : ∀ (s : Shared) (H : Hp) (C : Addr) (cl : List (Str × Addr)) (fp : List Addr), PTs (X.blk s H scope (compEnvC scope cl C X.env) fp) ifs (tT X.K t))
    (he : ∀ (s : Shared) (H : Hp) (C : Addr) (cl : List (Str × Addr)) (fp : List Addr), Sn (X.blk s H scope (compEnvC scope cl C X.env) fp) elt e)
    (hv : ∀ i ∈ g.slots, i ∈ own.map (·.2)) (hs : ∀ x, foldedSetIterable iter X.env x = pure x := by intro _; rfl) : SnF X (.ListComp elt [⟨tg, iter, ifs, 0⟩] scope pos) (mLc (own.map (·.2)) g it t e) :=
  pe_imp (pe_lc (g := tTg X.K g) (tt := tT X.K t) (te := tE X.K e) hc hN hi ok hg ht he hs) (lc_of hv)
theorem pts_true : PTs X [] (tT X.K mTrue) := ⟨fun pins s σ H Q I h => pts_nil.run pins s σ H Q I (by
  obtain ⟨B, al, S, ρ, a, S', R, er, hm, q⟩ := h
  obtain ⟨rfl, rfl⟩ := ret_some hm
  exact q true al H R .refl rfl)⟩
theorem pts_test {c : Expr} {m : MT} (h : Stt X c m) : PTs X [c] (tT X.K m) := pts_one h
theorem fz_of {m : MA} {te : TE} (q : ∀ σ H Q, tF X.K m σ H Q → te σ H Q) : ∀ σ H Q, tE X.K (mFz m) σ H Q → te σ H Q := fun σ H Q ⟨B, al, S, ρ, d, S', R, er, hm, k⟩ => by
  obtain ⟨ds, S1, h1, h2⟩ := bnd_some hm
  obtain ⟨rfl, rfl⟩ := ret_some h2
  refine q σ H Q ⟨B, al, S, ρ, ds, S1, R, er, h1, fun p vs al' H' R' x h0 hp r => k _ al' H' (R'.less bp_less) x ?_⟩
  exact .lst p ds vs ⟨hp, (R'.bh p (.inr rfl)).1, R.freshB h0⟩ (r.less bp_less)
theorem ad_of {m : MA} {te : TE} (q : ∀ σ H Q, tF X.K m σ H Q → te σ H Q) : ∀ σ H Q, tE X.K (mAd m) σ H Q → te σ H Q := fun σ H Q ⟨B, al, S, ρ, d, S', R, er, hm, k⟩ => by
  unfold mAd at hm
  split at hm
  · rename_i ds S1 h1
    cases hm
    refine q σ H Q ⟨B, al, S, ρ, ds, _, R, er, h1, fun p vs al' H' R' x h0 hp r => k _ (al' ++ [p]) H' (R'.gain ⟨vs, hp, r⟩ (R.freshB h0)) (x.gain h0) (.ref _ p ?_)⟩
    rw [← R'.len]
    simp
  · cases hm
/-- name = [..] on one line -/
theorem ss_setLc {W : Str → Hp → Prop} {st : Stmt} {i : Nat} {m : ME} {te : TE} (h : PS X st (tAsg te (gName i))) (q : ∀ σ H Q, tE X.K m σ H Q → te σ H Q) : Ss X W st (mSet i m) := ps_imp h (set_of q)
end
end Z
set_option Elab.async false
set_option linter.all false
set_option maxRecDepth 100000
/-! Defs: what they promise, how they are called. -/
namespace Z
open PySem L2

/-! ### references below a place; lists behind later ones written out -/
mutual
def below (k : Nat) : D → Bool
  | .tup xs => belows k xs
  | .tpx xs => belows k xs
  | .lst xs => belows k xs
  | .ref n => decide (n < k)
  | _ => true
def belows (k : Nat) : List D → Bool
  | [] => true
  | d :: ds => below k d && belows k ds
end
def belowO (k : Nat) : MO → Bool
  | .lst xs => belows k xs
  | .dct kvs => belows k (kvs.map (·.2))
  | .dtt kvs => belows k (kvs.map (·.2))
/-! no lists, no references -/
mutual
def noL : D → Bool
  | .tup xs => noLs xs
  | .lst _ => false
  | .scr _ => false
  | .tpi _ => false
  | .dcf _ => false
  | .tpx _ => false
  | .ref _ => false
  | _ => true
def noLs : List D → Bool
  | [] => true
  | d :: ds => noL d && noLs ds
end
def rkG (k : Nat) (S : Store) (h : D → D) (n : Nat) : D := if n < k then .ref n else rsG S h n
def rk (k : Nat) (S : Store) : Nat → D → D
  | 0 => fun d => d
  | f + 1 => rsF (rkG k S (rk k S f))
mutual
theorem rsF_below (k : Nat) (g : Nat → D) (hg : ∀ n, n < k → g n = .ref n) : ∀ d : D, below k d = true → rsF g d = d
  | .non, _ => rfl
  | .bl _, _ => rfl
  | .int _, _ => rfl
  | .str _, _ => rfl
  | .scr _, _ => rfl
  | .tpi _, _ => rfl
  | .dcf _, _ => rfl
  | .tpx xs, h => by unfold rsF; rw [rsFs_below k g hg xs (by simpa [below] using h)]
  | .tup xs, h => by unfold rsF; rw [rsFs_below k g hg xs (by simpa [below] using h)]
  | .lst xs, h => by unfold rsF; rw [rsFs_below k g hg xs (by simpa [below] using h)]
  | .ref n, h => by unfold rsF; exact hg n (by simpa [below] using h)
theorem rsFs_below (k : Nat) (g : Nat → D) (hg : ∀ n, n < k → g n = .ref n) : ∀ ds : List D, belows k ds = true → rsFs g ds = ds
  | [], _ => rfl
  | d :: ds, h => by
    simp only [belows, Bool.and_eq_true] at h
    unfold rsFs
    rw [rsF_below k g hg d h.1, rsFs_below k g hg ds h.2]
end
theorem rk_below {k : Nat} (S : Store) (f : Nat) {d : D} (h : below k d = true) : rk k S f d = d := by
  cases f with
  | zero => rfl
  | succ f => exact rsF_below k _ (fun n hn => by simp [rkG, hn]) d h
mutual
theorem nr_below (k : Nat) : ∀ d : D, nr d = true → below k d = true
  | .non, _ => rfl
  | .bl _, _ => rfl
  | .int _, _ => rfl
  | .str _, _ => rfl
  | .scr _, _ => rfl
  | .tpi _, _ => rfl
  | .dcf _, h => by simp [nr] at h
  | .tpx xs, h => by unfold below; exact nrs_belows k xs (by simpa [nr] using h)
  | .tup xs, h => by unfold below; exact nrs_belows k xs (by simpa [nr] using h)
  | .lst xs, h => by unfold below; exact nrs_belows k xs (by simpa [nr] using h)
  | .ref _, h => by simp [nr] at h
theorem nrs_belows (k : Nat) : ∀ ds : List D, nrs ds = true → belows k ds = true
  | [], _ => rfl
  | d :: ds, h => by
    simp only [nrs, Bool.and_eq_true] at h
    simp [belows, nr_below k d h.1, nrs_belows k ds h.2]
end
theorem belows_mem {k : Nat} {ds : List D} (h : belows k ds = true) : ∀ d ∈ ds, below k d = true := by
  induction ds with
  | nil => intro d hd; cases hd
  | cons c ds ih =>
    simp only [belows, Bool.and_eq_true] at h
    intro d hd
    rcases List.mem_cons.mp hd with rfl | hd
    · exact h.1
    · exact ih h.2 d hd

section
variable {K : PySem.W.Frag} {B C : Addr → Prop} {al be : List Addr} {H : Hp} {S : Store}
mutual
theorem RV.shrink (hbc : ∀ a, C a → B a ∨ a ∈ be) : ∀ {d : D} {v : V}, RV K B (al ++ be) H d v → below al.length d = true → RV K C al H d v
  | _, _, .non, _ => .non
  | _, _, .bl b, _ => .bl b
  | _, _, .int i, _ => .int i
  | _, _, .str s, _ => .str s
  | _, _, .tup a ds vs h r, e => .tup a ds vs h (RL.shrink hbc r (by simpa [below] using e))
  | _, _, .lst a ds vs h r, e => .lst a ds vs ⟨h.1, fun z => h.2.1 (List.mem_append_left _ z), fun z => (hbc a z).elim h.2.2 fun z => h.2.1 (List.mem_append_right _ z)⟩ (RL.shrink hbc r (by simpa [below] using e))
  | _, _, .tpi a ns h, _ => .tpi a ns (match h with | ⟨o, ⟨x, y, z⟩, h4⟩ => ⟨o, ⟨x, fun w => y (List.mem_append_left _ w), fun w => (hbc a w).elim z fun w => y (List.mem_append_right _ w)⟩, h4⟩)
  | _, _, .dcf a kvs es h k r, _ => .dcf a kvs es (match h with | ⟨o, ⟨x, y, z⟩, h4⟩ => ⟨o, ⟨x, fun w => y (List.mem_append_left _ w), fun w => (hbc a w).elim z fun w => y (List.mem_append_right _ w)⟩, h4⟩) k (rl_tups (fun _ _ e => e) r)
  | _, _, .tpx a ds vs h r, e => .tpx a ds vs (match h with | ⟨o, ⟨x, y, z⟩, h4⟩ => ⟨o, ⟨x, fun w => y (List.mem_append_left _ w), fun w => (hbc a w).elim z fun w => y (List.mem_append_right _ w)⟩, h4⟩) (RL.shrink hbc r (by simpa [below] using e))
  | _, _, .scr a ns h, _ => .scr a ns (match h with
    | .inl ⟨x, y, z⟩ => .inl ⟨x, fun w => y (List.mem_append_left _ w), fun w => (hbc a w).elim z fun w => y (List.mem_append_right _ w)⟩
    | .inr x => .inr x)
  | _, _, .ref n a h, e => .ref n a (by
      have hn : n < al.length := by simpa [below] using e
      rw [List.getElem?_append_left hn] at h
      exact h)
theorem RL.shrink (hbc : ∀ a, C a → B a ∨ a ∈ be) : ∀ {ds : List D} {vs : List V}, RL K B (al ++ be) H ds vs → belows al.length ds = true → RL K C al H ds vs
  | _, _, .nil, _ => .nil
  | _, _, .cons d v ds vs h r, e => .cons d v ds vs (RV.shrink hbc h (by simp [belows] at e; exact e.1)) (RL.shrink hbc r (by simp [belows] at e; exact e.2))
end
theorem OAt.shrink (hbc : ∀ a, C a → B a ∨ a ∈ be) {a : Addr} {o : MO} (h : OAt K B (al ++ be) H a o) (e : belowO al.length o = true) : OAt K C al H a o := by
  cases o with
  | lst ds => obtain ⟨vs, e1, r⟩ := h; exact ⟨vs, e1, r.shrink hbc e⟩
  | dct kvs => obtain ⟨es, e1, e2, r⟩ := h; exact ⟨es, e1, e2, r.shrink hbc e⟩
  | dtt kvs => obtain ⟨es, e1, e2, r⟩ := h; exact ⟨es, e1, e2, r.shrink hbc e⟩
mutual
theorem RV.grow (hbc : ∀ a, B a ∨ a ∈ be → C a) : ∀ {d : D} {v : V}, RV K C al H d v → RV K B (al ++ be) H d v
  | _, _, .non => .non
  | _, _, .bl b => .bl b
  | _, _, .int i => .int i
  | _, _, .str s => .str s
  | _, _, .tup a ds vs h r => .tup a ds vs h (RL.grow hbc r)
  | _, _, .lst a ds vs h r => .lst a ds vs ⟨h.1, fun z => (List.mem_append.mp z).elim h.2.1 fun z => h.2.2 (hbc a (.inr z)), fun z => h.2.2 (hbc a (.inl z))⟩ (RL.grow hbc r)
  | _, _, .tpi a ns h => .tpi a ns (match h with | ⟨o, ⟨x, y, z⟩, h4⟩ => ⟨o, ⟨x, fun w => (List.mem_append.mp w).elim y fun w => z (hbc a (.inr w)), fun w => z (hbc a (.inl w))⟩, h4⟩)
  | _, _, .dcf a kvs es h k r => .dcf a kvs es (match h with | ⟨o, ⟨x, y, z⟩, h4⟩ => ⟨o, ⟨x, fun w => (List.mem_append.mp w).elim y fun w => z (hbc a (.inr w)), fun w => z (hbc a (.inl w))⟩, h4⟩) k (rl_tups (fun _ _ e => e) r)
  | _, _, .tpx a ds vs h r => .tpx a ds vs (match h with | ⟨o, ⟨x, y, z⟩, h4⟩ => ⟨o, ⟨x, fun w => (List.mem_append.mp w).elim y fun w => z (hbc a (.inr w)), fun w => z (hbc a (.inl w))⟩, h4⟩) (RL.grow hbc r)
  | _, _, .scr a ns h => .scr a ns (match h with
    | .inl ⟨x, y, z⟩ => .inl ⟨x, fun w => (List.mem_append.mp w).elim y fun w => z (hbc a (.inr w)), fun w => z (hbc a (.inl w))⟩
    | .inr x => .inr x)
  | _, _, .ref n a h => .ref n a (by rw [List.getElem?_append_left (List.getElem?_eq_some_iff.mp h).1]; exact h)
theorem RL.grow (hbc : ∀ a, B a ∨ a ∈ be → C a) : ∀ {ds : List D} {vs : List V}, RL K C al H ds vs → RL K B (al ++ be) H ds vs
  | _, _, .nil => .nil
  | _, _, .cons d v ds vs h r => .cons d v ds vs (RV.grow hbc h) (RL.grow hbc r)
end
theorem OAt.grow (hbc : ∀ a, B a ∨ a ∈ be → C a) {a : Addr} {o : MO} (h : OAt K C al H a o) : OAt K B (al ++ be) H a o := by
  cases o with
  | lst ds => obtain ⟨vs, e1, r⟩ := h; exact ⟨vs, e1, r.grow hbc⟩
  | dct kvs => obtain ⟨es, e1, e2, r⟩ := h; exact ⟨es, e1, e2, r.grow hbc⟩
  | dtt kvs => obtain ⟨es, e1, e2, r⟩ := h; exact ⟨es, e1, e2, r.grow hbc⟩
mutual
theorem RV.plain : ∀ {d : D} {v : V}, RV K C [] H d v → noL d = true → RV K B al H d v
  | _, _, .non, _ => .non
  | _, _, .bl b, _ => .bl b
  | _, _, .int i, _ => .int i
  | _, _, .str s, _ => .str s
  | _, _, .tup a ds vs h r, e => .tup a ds vs h (RL.plain r (by simpa [noL] using e))
  | _, _, .lst a ds vs h r, e => by simp [noL] at e
  | _, _, .scr a ns h, e => by simp [noL] at e
  | _, _, .tpi a ns h, e => by simp [noL] at e
  | _, _, .dcf a kvs es h k r, e => by simp [noL] at e
  | _, _, .tpx a ds vs h r, e => by simp [noL] at e
  | _, _, .ref n a h, e => by simp [noL] at e
theorem RL.plain : ∀ {ds : List D} {vs : List V}, RL K C [] H ds vs → noLs ds = true → RL K B al H ds vs
  | _, _, .nil, _ => .nil
  | _, _, .cons d v ds vs h r, e => .cons d v ds vs (RV.plain h (by simp [noLs] at e; exact e.1)) (RL.plain r (by simp [noLs] at e; exact e.2))
end
mutual
theorem rsF_rep {g : Nat → D} (hg : ∀ (n : Nat) (a : Addr), RV K B (al ++ be) H (.ref n) (.ref a) → below al.length (g n) = true → RV K B al H (g n) (.ref a)) : ∀ {d : D} {v : V}, RV K B (al ++ be) H d v → below al.length (rsF g d) = true → RV K B al H (rsF g d) v
  | _, _, .non, _ => .non
  | _, _, .bl b, _ => .bl b
  | _, _, .int i, _ => .int i
  | _, _, .str s, _ => .str s
  | _, _, .tup a ds vs h r, e => .tup a _ vs h (rsFs_rep hg r (by simpa [rsF, below] using e))
  | _, _, .lst a ds vs h r, e => .lst a _ vs ⟨h.1, fun z => h.2.1 (List.mem_append_left _ z), h.2.2⟩ (rsFs_rep hg r (by simpa [rsF, below] using e))
  | _, _, .scr a ns h, _ => .scr a ns (match h with | .inl ⟨x, y, z⟩ => .inl ⟨x, fun w => y (List.mem_append_left _ w), z⟩ | .inr x => .inr x)
  | _, _, .tpi a ns h, _ => .tpi a ns (match h with | ⟨o, ⟨x, y, z⟩, h4⟩ => ⟨o, ⟨x, fun w => y (List.mem_append_left _ w), z⟩, h4⟩)
  | _, _, .dcf a kvs es h k r, _ => .dcf a kvs es (match h with | ⟨o, ⟨x, y, z⟩, h4⟩ => ⟨o, ⟨x, fun w => y (List.mem_append_left _ w), z⟩, h4⟩) k (rl_tups (fun _ _ e => e) r)
  | _, _, .tpx a ds vs h r, e => .tpx a _ vs (match h with | ⟨o, ⟨x, y, z⟩, h4⟩ => ⟨o, ⟨x, fun w => y (List.mem_append_left _ w), z⟩, h4⟩) (rsFs_rep hg r (by simpa [rsF, below] using e))
  | _, _, .ref n a h, e => hg n a (.ref n a h) (by simpa [rsF] using e)
theorem rsFs_rep {g : Nat → D} (hg : ∀ (n : Nat) (a : Addr), RV K B (al ++ be) H (.ref n) (.ref a) → below al.length (g n) = true → RV K B al H (g n) (.ref a)) : ∀ {ds : List D} {vs : List V}, RL K B (al ++ be) H ds vs → belows al.length (rsFs g ds) = true → RL K B al H (rsFs g ds) vs
  | _, _, .nil, _ => .nil
  | _, _, .cons d v ds vs h r, e => .cons _ v _ vs (rsF_rep hg h (by simp [rsFs, belows] at e; exact e.1)) (rsFs_rep hg r (by simp [rsFs, belows] at e; exact e.2))
end
theorem rk_rep (R : Rel K B (al ++ be) S H) : ∀ (f : Nat) {d : D} {v : V}, RV K B (al ++ be) H d v → below al.length (rk al.length S f d) = true → RV K B al H (rk al.length S f d) v
  | 0, d, v, r, e => r.shrink (fun a z => .inl z) e
  | f + 1, d, v, r, e => rsF_rep (fun n a h z => by
    by_cases hn : n < al.length
    · have z0 : rkG al.length S (rk al.length S f) n = .ref n := by simp [rkG, hn]
      rw [z0] at z ⊢
      exact h.shrink (fun a z => .inl z) z
    · have z0 : rkG al.length S (rk al.length S f) n = rsG S (rk al.length S f) n := by simp [rkG, hn]
      rw [z0] at z ⊢
      cases ho : S[n]? with
      | none =>
        simp only [rsG, ho, below] at z
        exact absurd (of_decide_eq_true z) hn
      | some o =>
        obtain ⟨ha, oa⟩ := R.look h ho
        cases o with
        | lst xs =>
          obtain ⟨vs, hv, rl⟩ := oa
          simp only [rsG, ho] at z ⊢
          have na : a ∉ al := fun hm => by
            obtain ⟨j, hj⟩ := List.getElem?_of_mem hm
            have hjl := (List.getElem?_eq_some_iff.mp hj).1
            have hj2 : (al ++ be)[j]? = some a := by rw [List.getElem?_append_left hjl]; exact hj
            obtain ⟨h1, g1⟩ := List.getElem?_eq_some_iff.mp hj2
            obtain ⟨h2, g2⟩ := List.getElem?_eq_some_iff.mp ha
            have := (List.getElem_inj R.nd).mp (g1.trans g2.symm)
            omega
          have nb : ¬ B a := fun hb => (R.bh a hb).1 (List.mem_of_getElem? ha)
          refine .lst a _ vs ⟨hv, na, nb⟩ (rl_map rl fun d v m r => rk_rep R f r (belows_mem (by simpa [below] using z) _ (List.mem_map_of_mem m)))
        | dct _ => simp only [rsG, ho, below] at z; exact absurd (of_decide_eq_true z) hn
        | dtt _ => simp only [rsG, ho, below] at z; exact absurd (of_decide_eq_true z) hn) r e
end
end Z
set_option Elab.async false
set_option linter.all false
set_option maxRecDepth 100000
/-! Defs: promises, bodies, calls. -/
namespace Z
open PySem L2
open PyProof.Rows (envOfC)

/-- what a def hands back, its own objects written out or let go -/
def clo (k : Nat) (d : D) (S' : Store) : Option (D × Store) :=
  if below k (rk k S' 4 d) && (S'.take k).all (belowO k) then some (rk k S' 4 d, S'.take k) else none
def outD : Out → Option D
  | .rt d => some d
  | .nx _ => some .non
  | _ => none
def startD (N : Nat) (ds : List D) : Env := ds.map some ++ List.replicate (N - ds.length) none
def mBody (N : Nat) (m : MS) (ds : List D) : M D := fun S => match m (startD N ds) S with
  | some (o, S') => (outD o).bind fun d => clo S.length d S'
  | none => none
/-- .. as it lies -/
def mOpen (N : Nat) (m : MS) (ds : List D) : M D := fun S => match m (startD N ds) S with
  | some (o, S') => (outD o).map fun d => (d, S')
  | none => none
def spF (K : PySem.W.Frag) (n : Nat) (f : List D → M D) : Sp := fun vs H Q _ => ∃ (B : Addr → Prop) (al : List Addr) (S : Store) (ds : List D) (d : D) (S' : Store), Rel K B al S H ∧ ds.length = n ∧ RL K B al H ds vs ∧ f ds S = some (d, S') ∧
  ∀ (v : V) (H' : Hp), Rel K B al S' H' → Ex al H al H' → RV K B al H' d v → Q v H'
def spG (K : PySem.W.Frag) (n : Nat) (f : List D → M D) : Sp := fun vs H Q _ => ∃ (B : Addr → Prop) (al : List Addr) (S : Store) (ds : List D) (d : D) (S' : Store), Rel K B al S H ∧ ds.length = n ∧ RL K B al H ds vs ∧ f ds S = some (d, S') ∧
  ∀ (v : V) (al' : List Addr) (H' : Hp), Rel K B al' S' H' → Ex al H al' H' → RV K B al' H' d v → Q v H'
abbrev W0 : Str → Hp → Prop := fun _ _ => False
section
variable {K : PySem.W.Frag} {B : Addr → Prop} {al : List Addr} {H : Hp} {S : Store}
theorem er_start {N : List Str} {ds : List D} {vs : List V} (r : RL K B al H ds vs) : ER K B al H (startD N.length ds) (L2.start N vs) := by
  refine ⟨by simp [startD, L2.start, r.len], fun i d h => ?_⟩
  unfold startD at h
  unfold L2.start
  by_cases hi : i < ds.length
  · rw [List.getElem?_append_left (by simpa using hi)] at h
    simp only [List.getElem?_map] at h
    cases hx : ds[i]? with
    | none => rw [hx] at h; cases h
    | some c =>
      rw [hx] at h
      cases h
      obtain ⟨v, h1, h2⟩ := r.get hx
      refine ⟨v, ?_, h2⟩
      rw [List.getElem?_append_left (by rw [List.length_map, ← r.len]; exact hi)]
      simp [h1]
  · rw [List.getElem?_append_right (by simpa using hi)] at h
    simp only [List.getElem?_replicate] at h
    split at h <;> cases h
theorem clo_some {k : Nat} {d d' : D} {S1 S' : Store} (h : clo k d S1 = some (d', S')) : d' = rk k S1 4 d ∧ S' = S1.take k ∧ below k d' = true ∧ S'.all (belowO k) = true := by
  unfold clo at h
  split at h
  · rename_i hc
    cases h
    simp only [Bool.and_eq_true] at hc
    exact ⟨rfl, rfl, hc.1, hc.2⟩
  · cases h
/-- the first objects of the store alone -/
theorem Rel.first {be : List Addr} (R : Rel K B (al ++ be) S H) (hb : (S.take al.length).all (belowO al.length) = true) {C : Addr → Prop} (hc : ∀ a, C a → B a ∨ a ∈ be) : Rel K C al (S.take al.length) H := by
  have hl := R.len
  simp only [List.length_append] at hl
  have nd := R.nd
  rw [List.nodup_append] at nd
  refine ⟨by rw [List.length_take]; omega, nd.1, fun a h => ?_, fun n a o e1 e2 => ?_⟩
  · rcases hc a h with h | h
    · exact ⟨fun z => (R.bh a h).1 (List.mem_append_left _ z), (R.bh a h).2⟩
    · exact ⟨fun z => nd.2.2 a z a h rfl, (R.there (List.mem_append_right _ h)).1⟩
  · have hn := (List.getElem?_eq_some_iff.mp e1).1
    have e1' : (al ++ be)[n]? = some a := by rw [List.getElem?_append_left hn]; exact e1
    have e2' : S[n]? = some o := by rw [List.getElem?_take_of_lt hn] at e2; exact e2
    exact (R.ob n a o e1' e2').shrink hc (List.all_eq_true.mp hb o (List.mem_of_getElem? e2))
end
section
variable {P : Program} {w : World} {K : PySem.W.Frag} {mg : Str → Option Value} {base : Heap}
theorem fn_F {x qual : Str} {st : Stmt} {f : Addr} {fd : FuncData} {N ps : List Str} {k : Nat} {m : MS} (F : L2.Fun K x qual st f fd) (Sc : FnScope N ps (defScope st))
    (hb : ∀ (cdv : Value) (A : Around) (outer : List PySem.Env) (s : Shared) (H : Hp) (E : XK), Room k (A.deeper (envOfC qual (defScope st) s.heap.objs.size f cdv)) → Sb (cxOf CX0 P w K mg base N qual (defScope st) f cdv A outer s H E).nox W0 (defBody st) m) :
    FnOk P w K mg base CX0 (k + 1) f fd ps (spF K ps.length (mBody N.length m)) := by
  refine F.ok Sc (fun vs H Q E ⟨B, al, S, ds, d, S', R, hl, r, h, q⟩ => by rw [← r.len]; exact hl) (fun cdv A outer s H vs Q E hr ⟨B, al, S, ds, d, S', R, hl, r, h, q⟩ => ⟨_, hb cdv A outer s H E hr, ?_⟩)
  unfold mBody at h
  split at h
  · rename_i o S1 h1
    cases ho : outD o with
    | none => rw [ho] at h; cases h
    | some d1 =>
      rw [ho] at h
      simp only [Option.bind_some] at h
      obtain ⟨e1, e2, e3, e4⟩ := clo_some h
      have fin : ∀ (v : V) (al' : List Addr) (H' : Hp), Rel K B al' S1 H' → Ex al H al' H' → RV K B al' H' d1 v → Q v H' := fun v al' H' R' x' r' => by
        obtain ⟨be, rfl⟩ := x'.pre
        rw [← R.len] at e1 e2 e3 e4
        subst e1
        refine q v H' ?_ ⟨⟨[], by simp⟩, fun a u e n => ⟨(x'.fr a u e n).1, n⟩⟩ (rk_rep R' 4 r' e3)
        rw [e2]
        exact R'.first (by rw [← e2]; exact e4) fun a z => .inl z
      refine ⟨B, al, S, startD N.length ds, o, S1, R, er_start r, h1, ?_⟩
      cases o with
      | nx ρ => cases ho; exact fun σ' al' H' R' x' _ => fin .non al' H' R' x' .non
      | rt d2 => cases ho; exact fun v al' H' R' x' r' => fin v al' H' R' x' r'
      | bk ρ => cases ho
      | ct ρ => cases ho
      | ex c => cases ho
  · cases h
theorem fn_G {x qual : Str} {st : Stmt} {f : Addr} {fd : FuncData} {N ps : List Str} {k : Nat} {m : MS} (F : L2.Fun K x qual st f fd) (Sc : FnScope N ps (defScope st))
    (hb : ∀ (cdv : Value) (A : Around) (outer : List PySem.Env) (s : Shared) (H : Hp) (E : XK), Room k (A.deeper (envOfC qual (defScope st) s.heap.objs.size f cdv)) → Sb (cxOf CX0 P w K mg base N qual (defScope st) f cdv A outer s H E).nox W0 (defBody st) m) :
    FnOk P w K mg base CX0 (k + 1) f fd ps (spG K ps.length (mOpen N.length m)) := by
  refine F.ok Sc (fun vs H Q E ⟨B, al, S, ds, d, S', R, hl, r, h, q⟩ => by rw [← r.len]; exact hl) (fun cdv A outer s H vs Q E hr ⟨B, al, S, ds, d, S', R, hl, r, h, q⟩ => ⟨_, hb cdv A outer s H E hr, ?_⟩)
  unfold mOpen at h
  split at h
  · rename_i o S1 h1
    cases ho : outD o with
    | none => rw [ho] at h; cases h
    | some d1 =>
      rw [ho] at h
      cases h
      refine ⟨B, al, S, startD N.length ds, o, _, R, er_start r, h1, ?_⟩
      cases o with
      | nx ρ => cases ho; exact fun σ' al' H' R' x' _ => q .non al' H' R' x' .non
      | rt d2 => cases ho; exact fun v al' H' R' x' r' => q v al' H' R' x' r'
      | bk ρ => cases ho
      | ct ρ => cases ho
      | ex c => cases ho
  · cases h
end

/-! ### calls -/
/-- a def of the module -/
structure Cal (P : Program) (w : World) (K : PySem.W.Frag) (mg : Str → Option Value) (base : Heap) (k : Nat) (x : Str) (sp : Sp) : Prop where
  ex : ∃ (f : Addr) (fd : FuncData) (ps : List Str), FnOk P w K mg base CX0 k f fd ps sp ∧ mg x = some (.ref f) ∧ PySem.W.keepIn K (.ref f) = true ∧ Binds K fd ps []
theorem pe_cal {X : Cx} {kk j : Nat} {x : Str} {sp : Sp} {p pos : Pos} {e : Expr} {es : List Expr} {t : TA} (c : Cal X.prog X.w X.K X.mg X.base kk x sp) (hr : Room j X.A) (hk : kk ≤ j) (hg : Gl X x) (ha : PA X (e :: es) t)
    (hdb : (x == ("__debug__" : Str)) = false) (he : starEach (e :: es) X.env = (false, eval e X.env) :: starEach es X.env) (hpl : (backTo pos (starEach es X.env)).any (·.1) = false) :
    PE X (.Call (.Name x p) (e :: es) [] pos) (tCall sp [] E0 t) := by
  obtain ⟨f, fd, ps, F, hm, kp, b⟩ := c.ex
  exact pe_call F (hr.mono hk) hg hm kp b .nil pass0 ha hdb he hpl
/-- a call by the first k objects of the store; lists of the later ones may be lent to a def that hands back plain data -/
def callF (k : Nat) (f : List D → M D) (ds : List D) : M D := fun S =>
  if k ≤ S.length && (S.take k).all (belowO k) && (ds.map (rk k S 4)).all (below k) then
    match f (ds.map (rk k S 4)) (S.take k) with
    | some (d, S1) => if S1.length = k ∧ (belows k ds = true ∨ (k = 0 ∧ noL d = true)) then some (d, S1 ++ S.drop k) else none
    | none => none
  else none
def mCall (k : Nat) (f : List D → M D) (m : MA) : ME := fun ρ => bnd (m ρ) (callF k f)
def mCallG (f : List D → M D) (m : MA) : ME := fun ρ => bnd (m ρ) f
section
variable {K : PySem.W.Frag} {B : Addr → Prop} {al : List Addr} {H : Hp} {S : Store}
theorem rl_rk {be : List Addr} (R : Rel K B (al ++ be) S H) : ∀ {ds : List D} {vs : List V}, RL K B (al ++ be) H ds vs → (ds.map (rk al.length S 4)).all (below al.length) = true → RL K B al H (ds.map (rk al.length S 4)) vs
  | _, _, .nil, _ => .nil
  | _, _, .cons d v ds vs h r, e => by
    simp only [List.map_cons, List.all_cons, Bool.and_eq_true] at e
    exact .cons _ _ _ _ (rk_rep R 4 h e.1) (rl_rk R r e.2)
theorem map_rk {k : Nat} {ds : List D} (h : belows k ds = true) : ds.map (rk k S 4) = ds := by
  have : ∀ d ∈ ds, rk k S 4 d = d := fun d hd => rk_below S 4 (belows_mem h d hd)
  exact (List.map_congr_left this).trans (List.map_id' ds)
theorem Rel.join {be : List Addr} {S1 : Store} {H' : Hp} {C : Addr → Prop} (R : Rel K B (al ++ be) S H) (R1 : Rel K C al S1 H') (hl : S1.length = al.length) (x : Ex al H al H') (hc : ∀ a, B a ∨ a ∈ be → C a) :
    Rel K B (al ++ be) (S1 ++ S.drop al.length) H' ∧ Ex (al ++ be) H (al ++ be) H' := by
  have hlen := R.len
  simp only [List.length_append] at hlen
  have nd := R.nd
  rw [List.nodup_append] at nd
  have xx : Ex (al ++ be) H (al ++ be) H' := ⟨⟨[], by simp⟩, fun a o e n => ⟨(x.fr a o e fun z => n (List.mem_append_left _ z)).1, n⟩⟩
  refine ⟨⟨by simp only [List.length_append, List.length_drop]; omega, R.nd, fun a h => ?_, fun n a o e1 e2 => ?_⟩, xx⟩
  · obtain ⟨n, o, e⟩ := R.bh a h
    exact ⟨n, o, (x.fr a o e fun z => n (List.mem_append_left _ z)).1⟩
  · by_cases hn : n < al.length
    · rw [List.getElem?_append_left hn] at e1
      rw [List.getElem?_append_left (by omega)] at e2
      exact (R1.ob n a o e1 e2).grow hc
    · rw [List.getElem?_append_right (by omega), List.getElem?_drop, hl, Nat.add_sub_cancel' (by omega)] at e2
      have q := R.ob n a o e1 e2
      have hin : a ∈ be := by
        rw [List.getElem?_append_right (by omega)] at e1
        exact List.mem_of_getElem? e1
      exact q.keep R xx fun w e => (x.fr a w e fun z => nd.2.2 a z a hin rfl).1
end
section
variable {X : Cx} {k kk : Nat} {f : List D → M D} {m : MA} {x : Str} {E : Expr} {n : Nat}
theorem tcall_of (hn : ∀ ρ S ds S', m ρ S = some (ds, S') → ds.length = n) : ∀ σ H Q, tE X.K (mCall k f m) σ H Q → tCall (spF X.K n f) [] E0 (tA X.K m) σ H Q := fun σ H Q ⟨B, al, S, ρ, z, S', R, er, hm, q⟩ => by
  obtain ⟨ds, S1, h1, h2⟩ := bnd_some hm
  refine ⟨B, al, S, ρ, ds, S1, R, er, h1, fun vs al1 H1 R1 x1 r1 => ?_⟩
  show spF X.K n f (vs ++ []) H1 Q E0
  rw [List.append_nil]
  unfold callF at h2
  split at h2
  · rename_i hc
    simp only [Bool.and_eq_true, decide_eq_true_eq] at hc
    obtain ⟨⟨c1, c2⟩, c3⟩ := hc
    split at h2
    · rename_i d S2 h3
      split at h2
      · rename_i h4
        obtain ⟨g1, g2⟩ := h4
        cases h2
        obtain ⟨a1, be, rfl, ha⟩ : ∃ a1 be, al1 = a1 ++ be ∧ a1.length = k := ⟨al1.take k, al1.drop k, (List.take_append_drop k al1).symm, by rw [List.length_take, R1.len]; omega⟩
        subst ha
        have hlen : ∀ (es : List D), es = ds.map (rk a1.length S1 4) → es.length = n := fun es e => by rw [e, List.length_map]; exact hn _ _ _ _ h1
        rcases g2 with g2 | ⟨g2, g3⟩
        · let C : Addr → Prop := fun a => B a ∨ a ∈ be
          have R2 : Rel X.K C a1 (S1.take a1.length) H1 := R1.first c2 fun a z => z
          refine ⟨C, a1, S1.take a1.length, _, _, S2, R2, hlen _ rfl, ?_, h3, fun v H' R3 x3 r3 => ?_⟩
          · rw [map_rk g2]
            exact r1.shrink (fun a z => z) g2
          · obtain ⟨R4, x4⟩ := R1.join R3 g1 x3 fun a z => z
            exact q v (a1 ++ be) H' R4 (x1.trans x4) (r3.grow fun a z => z)
        · have ha0 : a1 = [] := List.eq_nil_of_length_eq_zero g2
          subst ha0
          have R2 : Rel X.K B [] (S1.take 0) H1 := R1.first c2 fun a z => .inl z
          refine ⟨B, [], _, _, _, S2, R2, hlen _ rfl, rl_rk R1 r1 c3, h3, fun v H' R3 x3 r3 => ?_⟩
          have e2 : S2 = [] := List.eq_nil_of_length_eq_zero g1
          subst e2
          have R5 : Rel X.K (fun a => B a ∨ a ∈ be) [] [] H' := ⟨rfl, List.nodup_nil, fun a z => ⟨by simp, (by
            rcases z with z | z
            · exact (R3.bh a z).2
            · obtain ⟨u, hu⟩ := (R1.there (a := a) (by simpa using z)).1
              exact ⟨u, (x3.fr a u hu (by simp)).1⟩)⟩, fun n a o e _ => by simp at e⟩
          obtain ⟨R4, x4⟩ := R1.join R5 rfl x3 fun a z => z
          exact q v ([] ++ be) H' R4 (x1.trans x4) (r3.plain g3)
      · cases h2
    · cases h2
  · cases h2
theorem tcallG_of (hn : ∀ ρ S ds S', m ρ S = some (ds, S') → ds.length = n) : ∀ σ H Q, tE X.K (mCallG f m) σ H Q → tCall (spG X.K n f) [] E0 (tA X.K m) σ H Q := fun σ H Q ⟨B, al, S, ρ, z, S', R, er, hm, q⟩ => by
  obtain ⟨ds, S1, h1, h2⟩ := bnd_some hm
  refine ⟨B, al, S, ρ, ds, S1, R, er, h1, fun vs al1 H1 R1 x1 r1 => ?_⟩
  show spG X.K n f (vs ++ []) H1 Q E0
  rw [List.append_nil]
  exact ⟨B, al1, S1, ds, z, S', R1, hn _ _ _ _ h1, r1, h2, fun v al' H' R' x' r' => q v al' H' R' (x1.trans x') r'⟩
theorem sn_call {p pos : Pos} {e : Expr} {es : List Expr} {j : Nat} (c : Cal X.prog X.w X.K X.mg X.base kk x (spF X.K (e :: es).length f)) (hr : Room j X.A) (hk : kk ≤ j) (hg : Gl X x) (ha : Sa X (e :: es) m) (k : Nat)
    (hdb : (x == ("__debug__" : Str)) = false := by decide) (he : starEach (e :: es) X.env = (false, eval e X.env) :: starEach es X.env := by rfl) (hpl : (backTo pos (starEach es X.env)).any (·.1) = false := by rfl) :
    Sn X (.Call (.Name x p) (e :: es) [] pos) (mCall k f m) := pe_imp (pe_cal c hr hk hg ha.run hdb he hpl) (tcall_of ha.len)
theorem sn_callG {p pos : Pos} {e : Expr} {es : List Expr} {j : Nat} (c : Cal X.prog X.w X.K X.mg X.base kk x (spG X.K (e :: es).length f)) (hr : Room j X.A) (hk : kk ≤ j) (hg : Gl X x) (ha : Sa X (e :: es) m)
    (hdb : (x == ("__debug__" : Str)) = false := by decide) (he : starEach (e :: es) X.env = (false, eval e X.env) :: starEach es X.env := by rfl) (hpl : (backTo pos (starEach es X.env)).any (·.1) = false := by rfl) :
    Sn X (.Call (.Name x p) (e :: es) [] pos) (mCallG f m) := pe_imp (pe_cal c hr hk hg ha.run hdb he hpl) (tcallG_of ha.len)
end
end Z
set_option Elab.async false
set_option linter.all false
set_option maxRecDepth 100000
/-! Methods of lists; isinstance. -/
namespace Z
open PySem L2

def MRS (K : PySem.W.Frag) (r : V → List V → Hp → VK → Prop) (f : D → List D → M D) : Prop := ∀ (B : Addr → Prop) (al : List Addr) (S : Store) (H : Hp) (o : D) (ds : List D) (z : D) (v : V) (vs : List V) (S' : Store), Rel K B al S H → RV K B al H o v → RL K B al H ds vs → f o ds S = some (z, S') →
  ∀ Q : VK, (∀ u al' H', Rel K B al' S' H' → Ex al H al' H' → RV K B al' H' z u → Q u H') → r v vs H Q
/-- a list's method: the list is looked at before the arguments are -/
def mMth (f : D → List D → M D) (mo : ME) (ma : MA) : ME := fun ρ => bnd (mo ρ) fun o => fun S => if (asLC S o).isSome then bnd (ma ρ) (fun ds => f o ds) S else none
def mMth0 (f : D → List D → M D) (mo : ME) : ME := fun ρ => bnd (mo ρ) fun o => fun S => if (asLC S o).isSome then f o [] S else none
section
variable {X : Cx} {f : D → List D → M D} {r : V → List V → Hp → VK → Prop} {mo : ME} {ma : MA}
theorem tyV_list {K : PySem.W.Frag} {B : Addr → Prop} {al : List Addr} {S : Store} {H : Hp} (R : Rel K B al S H) {o : D} {v : V} (h : RV K B al H o v) (e : (asLC S o).isSome = true) : tyV K "list" v H := by
  cases hx : asLC S o with
  | none => rw [hx] at e; cases e
  | some xs =>
    obtain ⟨a, vs, rfl, ha, _⟩ := asLC_rep R h hx
    exact .inl ⟨rfl, vs, ha⟩
theorem bm_of (hr : MRS X.K r f) : ∀ σ H Q, tE X.K (mMth f mo ma) σ H Q → tBM X.K "list" r (tE X.K mo) (tA X.K ma) σ H Q := fun σ H Q ⟨B, al, S, ρ, z, S', R, er, hm, q⟩ => by
  obtain ⟨o, S1, h1, h2⟩ := bnd_some hm
  split at h2
  · rename_i ht
    obtain ⟨ds, S2, h3, h4⟩ := bnd_some h2
    refine ⟨B, al, S, ρ, o, S1, R, er, h1, fun v al1 H1 R1 x1 r1 => ⟨tyV_list R1 r1 ht, B, al1, S1, ρ, ds, S2, R1, er.mono R x1, h3, fun vs al2 H2 R2 x2 r2 => ?_⟩⟩
    exact hr B al2 S2 H2 o ds z v vs S' R2 (r1.mono R1 x2) r2 h4 Q fun u al3 H3 R3 x3 r3 => q u al3 H3 R3 ((x1.trans x2).trans x3) r3
  · cases h2
theorem bm0_of (hr : MRS X.K r f) : ∀ σ H Q, tE X.K (mMth0 f mo) σ H Q → tBM0 X.K "list" r (tE X.K mo) σ H Q := fun σ H Q ⟨B, al, S, ρ, z, S', R, er, hm, q⟩ => by
  obtain ⟨o, S1, h1, h2⟩ := bnd_some hm
  split at h2
  · rename_i ht
    exact ⟨B, al, S, ρ, o, S1, R, er, h1, fun v al1 H1 R1 x1 r1 => ⟨tyV_list R1 r1 ht, hr B al1 S1 H1 o [] z v [] S' R1 r1 .nil h2 Q fun u al3 H3 R3 x3 r3 => q u al3 H3 R3 (x1.trans x3) r3⟩⟩
  · cases h2
theorem sn_mth {E : Expr} (hr : MRS X.K r f) (h : PE X E (tBM X.K "list" r (tE X.K mo) (tA X.K ma))) : Sn X E (mMth f mo ma) := pe_imp h (bm_of hr)
theorem sn_mth0 {E : Expr} (hr : MRS X.K r f) (h : PE X E (tBM0 X.K "list" r (tE X.K mo))) : Sn X E (mMth0 f mo) := pe_imp h (bm0_of hr)
end
section
variable {K : PySem.W.Frag}
def lApp (o : D) (ds : List D) : M D := fun S => match o, ds with
  | .ref n, [d] => match S[n]? with
    | some (.lst xs) => if xs.length < lim then some (.non, S.set n (.lst (xs ++ [d]))) else none
    | _ => none
  | _, _ => none
theorem l_app : MRS K rAppend lApp := fun B al S H o ds z v vs S' R ro rd h Q q => by
  unfold lApp at h
  split at h
  · rename_i n d
    split at h
    · rename_i xs hs
      split at h
      · rename_i hz
        cases h
        cases ro with
        | ref _ a hn =>
          obtain ⟨_, us, hu, ru⟩ := R.look (.ref n a hn) hs
          obtain ⟨y, rfl, ry⟩ := rl_one rd
          refine ⟨a, us, y, rfl, rfl, hu, by rw [← ru.len]; exact lim_lt hz, ?_⟩
          obtain ⟨x, R1⟩ := R.put (o := .lst (us ++ [y])) (u := .lst (xs ++ [d])) hn (fun _ z => nomatch z) fun x => ⟨_, upd_same, (ru.append rd).mono R x⟩
          exact q .non al _ R1 x .non
      · cases h
    · cases h
  · cases h
def lExt (o : D) (ds : List D) : M D := fun S => match o, ds with
  | .ref n, [d] => match S[n]?, asL S d with
    | some (.lst xs), some ys => if xs.length + ys.length ≤ lim then some (.non, S.set n (.lst (xs ++ ys))) else none
    | _, _ => none
  | _, _ => none
theorem l_ext : MRS K rExtend lExt := fun B al S H o ds z v vs S' R ro rd h Q q => by
  unfold lExt at h
  split at h
  · rename_i n d
    split at h
    · rename_i xs ys hs hd
      split at h
      · rename_i hz
        cases h
        cases ro with
        | ref _ a hn =>
          obtain ⟨_, us, hu, ru⟩ := R.look (.ref n a hn) hs
          obtain ⟨y, rfl, ry⟩ := rl_one rd
          obtain ⟨b, ws, rfl, hb, rb⟩ := asL_rep R ry hd
          refine ⟨a, b, us, ws, rfl, rfl, hu, hb, by rw [← ru.len, ← rb.len]; exact lim_le hz, ?_⟩
          obtain ⟨x, R1⟩ := R.put (o := .lst (us ++ ws)) (u := .lst (xs ++ ys)) hn (fun _ z => nomatch z) fun x => ⟨_, upd_same, (ru.append rb).mono R x⟩
          exact q .non al _ R1 x .non
      · cases h
    · cases h
  · cases h
/-- xs.pop(i) -/
def lPop (o : D) (ds : List D) : M D := fun S => match o, ds with
  | .ref n, [.int i] => match S[n]? with
    | some (.lst xs) => match ixN xs.length i with
      | some j => if xs.length ≤ lim then (xs[j]?).map fun y => (y, S.set n (.lst (xs.eraseIdx j))) else none
      | none => none
    | _ => none
  | _, _ => none
theorem RL.erase {B : Addr → Prop} {al : List Addr} {H : Hp} {ds : List D} {vs : List V} (r : RL K B al H ds vs) (i : Nat) : RL K B al H (ds.eraseIdx i) (vs.eraseIdx i) := by
  induction ds generalizing vs i with
  | nil => cases r; exact .nil
  | cons c ds ih =>
    cases r with
    | cons _ _ _ _ g r =>
      cases i with
      | zero => exact r
      | succ i => exact .cons _ _ _ _ g (ih r i)
theorem l_pop : MRS K rPopAt lPop := fun B al S H o ds z v vs S' R ro rd h Q q => by
  unfold lPop at h
  split at h
  · rename_i n i
    split at h
    · rename_i xs hs
      split at h
      · rename_i j hj
        split at h
        · rename_i hz
          cases hy : xs[j]? with
          | none => rw [hy] at h; cases h
          | some y =>
            rw [hy] at h
            cases h
            cases ro with
            | ref _ a hn =>
              obtain ⟨_, us, hu, ru⟩ := R.look (.ref n a hn) hs
              obtain ⟨w, rfl, rw'⟩ := rl_one rd
              cases rw'
              obtain ⟨g1, g2, g3, g4⟩ := ixN_seq hj
              obtain ⟨u, hu2, r2⟩ := ru.get hy
              unfold lim at hz
              refine ⟨a, us, i, j, u, rfl, rfl, hu, by omega, by omega, by rw [← ru.len]; exact g1, hu2, ?_⟩
              obtain ⟨x, R1⟩ := R.put (o := .lst (us.eraseIdx j)) (u := .lst (xs.eraseIdx j)) hn (fun _ z => nomatch z) fun x => ⟨_, upd_same, (ru.erase j).mono R x⟩
              exact q u al _ R1 x (r2.mono R x)
        · cases h
      · cases h
    · cases h
  · cases h
/-! ### isinstance -/
def tyD (S : Store) : D → Option String
  | .non => some "NoneType"
  | .bl _ => some "bool"
  | .int _ => some "int"
  | .str _ => some "str"
  | .tup _ => some "tuple"
  | .lst _ => some "list"
  | .scr _ => none
  | .tpi _ => none
  | .dcf _ => none
  | .tpx _ => some "tuple"
  | .ref n => match S[n]? with
    | some (.lst _) => some "list"
    | some (.dct _) => some "dict"
    | some (.dtt _) => some "dict"
    | none => none
def isiB (t T : String) : Bool := t == T || (t == "bool" && T == "int")
def tysL : List String := ["NoneType", "bool", "int", "str", "tuple", "list", "dict"]
theorem isi_kit {t T : String} (h1 : t ∈ tysL) (h2 : T ∈ ["bool", "int", "str", "tuple", "list", "dict"]) : kitB t T = some (isiB t T) := by
  have : ∀ t ∈ tysL, ∀ T ∈ ["bool", "int", "str", "tuple", "list", "dict"], kitB t T = some (isiB t T) := by decide +kernel
  exact this t h1 T h2
theorem tyD_rep {B : Addr → Prop} {al : List Addr} {S : Store} {H : Hp} (R : Rel K B al S H) {d : D} {v : V} (r : RV K B al H d v) {t : String} (e : tyD S d = some t) : TyX K H v (.type t) ∧ t ∈ tysL := by
  cases r with
  | non => cases e; exact ⟨.base .non, by decide⟩
  | bl b => cases e; exact ⟨.base (.bl b), by decide⟩
  | int i => cases e; exact ⟨.base (.int i), by decide⟩
  | str x => cases e; exact ⟨.base (.str x), by decide⟩
  | tup a ds vs h r => cases e; exact ⟨.base (.tup h), by decide⟩
  | lst a ds vs h r => cases e; exact ⟨.base (.lst h.1), by decide⟩
  | scr a ns h => cases e
  | tpi a ns h => cases e
  | dcf a kvs es h k r => cases e
  | tpx a ds vs h r => cases e; obtain ⟨o, ⟨g, _⟩, _⟩ := h; exact ⟨.fTuple g, by decide⟩
  | ref n a h =>
    simp only [tyD] at e
    cases ho : S[n]? with
    | none => rw [ho] at e; cases e
    | some o =>
      rw [ho] at e
      have q := R.ob n a o h ho
      cases o with
      | lst xs => cases e; obtain ⟨vs, hv, _⟩ := q; exact ⟨.base (.lst hv), by decide⟩
      | dct xs => cases e; obtain ⟨vs, hv, _⟩ := q; exact ⟨.base (.dK hv), by decide⟩
      | dtt xs => cases e; obtain ⟨vs, hv, _⟩ := q; exact ⟨.base (.dT hv), by decide⟩
def mIsi (T : String) (m : ME) : ME := fun ρ => bnd (m ρ) fun d => fun S => (tyD S d).map fun t => (.bl (isiB t T), S)
theorem sn_isi {X : Cx} {e : Expr} {m : ME} {T : String} {p p2 pos : Pos} {x : Str} (hT : T ∈ ["bool", "int", "str", "tuple", "list", "dict"]) (he : Sn X e m)
    (h : PE X (.Call (.Name "isinstance" p) [e, .Name x p2] [] pos) (tCB (rIsi X.K) (tCons (tE X.K m) (tCons (tC (.ty T)) tNil)))) : Sn X (.Call (.Name "isinstance" p) [e, .Name x p2] [] pos) (mIsi T m) := pe_imp h fun σ H Q ⟨B, al, S, ρ, z, S', R, er, hm, q⟩ => by
  obtain ⟨d, S1, h1, h2⟩ := bnd_some hm
  cases ht : tyD S1 d with
  | none => rw [ht] at h2; cases h2
  | some t =>
    rw [ht] at h2
    cases h2
    refine ⟨B, al, S, ρ, d, _, R, er, h1, fun v al1 H1 R1 x1 r1 => ?_⟩
    obtain ⟨g1, g2⟩ := tyD_rep R1 r1 ht
    exact ⟨v, .ty T, .type t, .type T, isiB t T, rfl, .ty T, g1, kit_ty (isi_kit g2 hT), q _ al1 H1 R1 x1 (.bl _)⟩
end

/-! ### a slice of a list or a tuple -/
def mSl (m : ME) (lo hi : Env → M (Option Int)) : ME := fun ρ => bnd (m ρ) fun d => bnd (lo ρ) fun l => bnd (hi ρ) fun h => fun S => match d with
  | .tup xs => some (.tup (cutD xs l h), S)
  | d => (asL S d).map fun xs => (.lst (cutD xs l h), S)
section
variable {X : Cx}
theorem sn_sl {e : Expr} {lo hi : Option Expr} {m : ME} {ml mh : Env → M (Option Int)} {p2 pos : Pos} (he : Sn X e m) (hl : So X lo ml) (hh : So X hi mh) : Sn X (.Subscript e (.Slice lo hi none p2) pos) (mSl m ml mh) :=
  pe_imp (pe_slice (sl_tupA.or sl_list) he hl.run hh.run) fun σ H Q ⟨B, al, S, ρ, d', S', R, er, hm, q⟩ => by
    obtain ⟨d, S1, h1, h2⟩ := bnd_some hm
    obtain ⟨l, S2, h3, h4⟩ := bnd_some h2
    obtain ⟨u, S3, h5, h6⟩ := bnd_some h4
    refine ⟨B, al, S, ρ, d, S1, R, er, h1, fun v al1 H1 R1 x1 r1 => ⟨B, al1, S1, ρ, l, S2, R1, er.mono R x1, h3, fun l' al2 H2 R2 x2 e2 => ?_⟩⟩
    subst e2
    refine ⟨B, al2, S2, ρ, u, S3, R2, (er.mono R x1).mono R1 x2, h5, fun u' al3 H3 R3 x3 e3 => ?_⟩
    subst e3
    have r3 := (r1.mono R1 x2).mono R2 x3
    have xx := (x1.trans x2).trans x3
    have lists : ∀ xs, asL S3 d = some xs → (some (D.lst (cutD xs l u), S3) = some (d', S')) → rSlL X.K v l u H3 Q := fun xs hx e => by
      cases e
      obtain ⟨a, vs, rfl, ha, ra⟩ := asL_rep R3 r3 hx
      refine ⟨a, vs, rfl, .of ha, fun p hp => ?_⟩
      obtain ⟨R4, x4, r4⟩ := lst_side R3 hp (ra.cut l u)
      exact q _ al3 _ R4 (xx.trans x4) r4
    cases r3 with
    | tup a xs vs ha ra =>
      cases h6
      refine .inl ⟨a, vs, rfl, .of ha, fun hw => ?_, fun _ p hp => ?_⟩
      · have e0 : cutD xs l u = xs := by
          unfold cutD
          rw [ra.len, hw.1, hw.2, List.drop_zero, Nat.sub_zero]
          exact List.take_of_length_le (by rw [ra.len]; exact Nat.le_refl _)
        rw [e0] at q
        exact q _ al3 H3 R3 xx (.tup a _ vs ha ra)
      · obtain ⟨x4, R4⟩ := R3.side (o := .tup (cutV vs l u)) hp
        exact q _ al3 _ R4 (xx.trans x4) (.tup p _ _ upd_same ((ra.cut l u).mono R3 x4))
    | lst a ds vs ha ra => exact .inr (lists ds rfl (by simpa [asL] using h6))
    | ref n a ha =>
      cases hx : asL S3 (.ref n) with
      | none => simp only [hx] at h6; cases h6
      | some xs => exact .inr (lists xs hx (by simpa [hx] using h6))
    | _ => simp [asL] at h6
/-! ### xs[i], ys[j] = v, w -/
def putL (o i v : D) (S : Store) : Option Store := match o, i with
  | .ref n, .int k => match S[n]? with
    | some (.lst xs) => (ixN xs.length k).map fun j => S.set n (.lst (xs.set j v))
    | _ => none
  | _, _ => none
def mSwap (o1 i1 o2 i2 mv : ME) : MS := fun ρ S => match mv ρ S with
  | some (.tup [v1, v2], S1) => match o1 ρ S1 with
    | none => none
    | some (a1, S2) => match i1 ρ S2 with
      | none => none
      | some (k1, S3) => match putL a1 k1 v1 S3 with
        | none => none
        | some S4 => match o2 ρ S4 with
          | none => none
          | some (a2, S5) => match i2 ρ S5 with
            | none => none
            | some (k2, S6) => (putL a2 k2 v2 S6).map fun S7 => (.nx ρ, S7)
  | _ => none
theorem putL_rep {K : PySem.W.Frag} {B : Addr → Prop} {al : List Addr} {S S' : Store} {H : Hp} {o i v : D} {vo vi vv : V} (R : Rel K B al S H) (ro : RV K B al H o vo) (ri : RV K B al H i vi) (rv : RV K B al H v vv) (h : putL o i v S = some S') {Q : Hp → Prop}
    (q : ∀ H', Rel K B al S' H' → Ex al H al H' → Q H') : rSetL vo vi vv H Q := by
  unfold putL at h
  split at h
  · rename_i n k
    split at h
    · rename_i xs hs
      cases hj : ixN xs.length k with
      | none => rw [hj] at h; cases h
      | some j =>
        rw [hj] at h
        cases h
        cases ri
        cases ro with
        | ref _ a hn =>
          obtain ⟨_, us, hu, ru⟩ := R.look (.ref n a hn) hs
          obtain ⟨x, R1⟩ := R.put (o := .lst (us.set j vv)) (u := .lst (xs.set j v)) hn (fun _ z => nomatch z) fun x => ⟨_, upd_same, (ru.set rv j).mono R x⟩
          exact ⟨a, us, k, j, rfl, rfl, hu, by rw [← ru.len]; exact hj, q _ R1 x⟩
    · cases h
  · cases h
theorem swap_of {W : Str → Hp → Prop} {o1 i1 o2 i2 mv : ME} : ∀ D σ H, tS X.K W (mSwap o1 i1 o2 i2 mv) D σ H → tAsg (tE X.K mv) (gTup X.K 2 (gCons (gSub (tE X.K o1) (tE X.K i1) rSetL) (gCons (gSub (tE X.K o2) (tE X.K i2) rSetL) gNil))) D σ H := fun D σ H ⟨B, al, S, ρ, o, S', R, er, hm, p⟩ => by
  unfold mSwap at hm
  split at hm
  · rename_i v1 v2 S1 h1
    split at hm
    · cases hm
    · rename_i a1 S2 h2
      split at hm
      · cases hm
      · rename_i k1 S3 h3
        split at hm
        · cases hm
        · rename_i S4 h4
          split at hm
          · cases hm
          · rename_i a2 S5 h5
            split at hm
            · cases hm
            · rename_i k2 S6 h6
              cases h7 : putL a2 k2 v2 S6 with
              | none => rw [h7] at hm; cases hm
              | some S7 =>
                rw [h7] at hm
                cases hm
                refine ⟨B, al, S, ρ, _, S1, R, er, h1, fun v al1 H1 R1 x1 r1 => ?_⟩
                cases r1 with
                | tup a _ vs ha ra =>
                  obtain ⟨u1, u2, rfl, ru1, ru2⟩ := rl_two ra
                  have er1 := er.mono R x1
                  refine ⟨a, [u1, u2], rfl, .of ha, rfl, u1, [u2], rfl, B, al1, S1, ρ, a1, S2, R1, er1, h2, fun w1 al2 H2 R2 x2 q1 => ⟨B, al2, S2, ρ, k1, S3, R2, er1.mono R1 x2, h3, fun w2 al3 H3 R3 x3 q2 => ?_⟩⟩
                  refine putL_rep R3 (q1.mono R2 x3) q2 ((ru1.mono R1 x2).mono R2 x3) h4 fun H4 R4 x4 => ?_
                  have er4 := ((er1.mono R1 x2).mono R2 x3).mono R3 x4
                  have ru2' := ((ru2.mono R1 x2).mono R2 x3).mono R3 x4
                  refine ⟨u2, [], rfl, B, al3, S4, ρ, a2, S5, R4, er4, h5, fun w3 al5 H5 R5 x5 q3 => ⟨B, al5, S5, ρ, k2, S6, R5, er4.mono R4 x5, h6, fun w4 al6 H6 R6 x6 q4 => ?_⟩⟩
                  refine putL_rep R6 (q3.mono R5 x6) q4 ((ru2'.mono R4 x5).mono R5 x6) h7 fun H7 R7 x7 => ?_
                  exact ⟨rfl, p σ al6 H7 R7 ((((((x1.trans x2).trans x3).trans x4).trans x5).trans x6).trans x7) (((er4.mono R4 x5).mono R5 x6).mono R6 x7)⟩
  · cases hm
end

def mNeg (m : ME) : ME := fun ρ => bnd (m ρ) fun d => match d with
  | .int i => ret (.int (-i))
  | _ => fail
theorem sn_neg {X : Cx} {e : Expr} {m : ME} {pos : Pos} (h : Sn X e m) : Sn X (.UnaryOp .USub e pos) (mNeg m) := pe_imp (pe_un un_neg h) fun σ H Q ⟨B, al, S, ρ, z, S', R, er, hm, q⟩ => by
  obtain ⟨d, S1, h1, h2⟩ := bnd_some hm
  split at h2
  · obtain ⟨rfl, rfl⟩ := ret_some h2
    exact ⟨B, al, S, ρ, _, S1, R, er, h1, fun v al1 H1 R1 x1 r1 => by cases r1; exact ⟨_, rfl, q _ al1 H1 R1 x1 (.int _)⟩⟩
  · cases h2
end Z
set_option Elab.async false
set_option linter.all false
set_option maxRecDepth 100000
/-! Comprehensions of two fors. -/
namespace Z
open PySem L2
theorem walk_gen {J : It} {n : Nat} {G : Hp → Prop} {Y : Nat → Hp → V → Hp → Prop} (w : Walk J n G Y) {Step : V → Hp → (Hp → Prop) → Prop} {H0 : Hp} {Qd : Hp → Prop} (Pv : Nat → Hp → Prop) (h0 : Pv 0 H0) (hG : ∀ i H, i ≤ n → Pv i H → G H)
    (hs : ∀ i x H H', i < n → Pv i H → Y i H x H' → Step x H' (Pv (i + 1))) (hd : ∀ H, Pv n H → Qd H) :
    ∃ W : Nat → Nat → Hp → Prop, (∃ m, W 0 m H0) ∧ ∀ i m H, W i m H → (J.stop i H ∧ Qd H) ∨ (J.go i H ∧ ∃ Nx : Hp → Prop, (∀ H', Nx H' → ∃ m', m' < m ∧ W (i + 1) m' H') ∧ ∀ x H', J.yld i H x H' → Step x H' Nx) := by
  refine ⟨fun i m H => m + i = n ∧ Pv i H, ⟨n, rfl, h0⟩, fun i m H ⟨e, p⟩ => ?_⟩
  have q := hG i H (by omega) p
  cases m with
  | zero =>
    obtain rfl : i = n := by omega
    exact .inl ⟨w.stops H q, hd H p⟩
  | succ m =>
    have hi : i < n := by omega
    exact .inr ⟨w.goes i H hi q, Pv (i + 1), fun H' p' => ⟨m, by omega, by omega, p'⟩, fun x H' y => hs i x H H' hi p (w.yields i H x H' hi q y)⟩
def mLcLL (vs : List Nat) (g : Tg) (ok : Store → Bool) (t : MT) (body : Env → M (List D)) (ρ : Env) : List D → M (List D)
  | [], S => if ok S then some ([], S) else none
  | d :: ds, S => if ok S then match g.put d (wipeD ρ vs) with
      | none => none
      | some ρ1 => match t ρ1 S with
        | none => none
        | some (true, S1) => match body ρ1 S1 with
          | none => none
          | some (ys, S2) => match mLcLL vs g ok t body ρ ds S2 with
            | none => none
            | some (zs, S3) => some (ys ++ zs, S3)
        | some (false, S1) => mLcLL vs g ok t body ρ ds S1
    else none
/-- the inner for -/
def mIn (vs1 : List Nat) (g1 : Tg) (it1 : MI) (t1 : MT) (e : ME) : Env → M (List D) := fun ρ S => match it1 ρ S with
  | some ((xs, ok), S1) => mLcL vs1 g1 ok t1 e ρ xs S1
  | none => none
def mLc2 (vs vs1 : List Nat) (g : Tg) (it : MI) (t : MT) (g1 : Tg) (it1 : MI) (t1 : MT) (e : ME) : MA := fun ρ S => match it ρ S with
  | some ((xs, ok), S1) => match mLcLL vs g ok t (mIn vs1 g1 it1 t1 e) ρ xs S1 with
    | some (ys, S2) => if ys.length ≤ lim then some (ys, S2) else none
    | none => none
  | none => none
section
variable {X : Cx} {vs vs1 : List Nat} {g g1 : Tg} {it it1 : MI} {t t1 : MT} {e : ME}
theorem lcLL_ok {ok : Store → Bool} {body : Env → M (List D)} {ρ : Env} {ds : List D} {S : Store} {r} (h : mLcLL vs g ok t body ρ ds S = some r) : ok S = true := by
  cases ds <;> unfold mLcLL at h <;> (split at h; assumption; cases h)
theorem lc2_of (hv : ∀ i ∈ g.slots, i ∈ vs) (hv1 : ∀ i ∈ g1.slots, i ∈ vs1) (hv2 : ∀ i ∈ vs1, i ∈ vs) : ∀ σ H Q, tF X.K (mLc2 vs vs1 g it t g1 it1 t1 e) σ H Q → tLc2 (tW X.K it) (tTg X.K g) (tT X.K t) (tW X.K it1) (tTg X.K g1) (tT X.K t1) (tE X.K e) vs vs1 σ H Q := fun σ H Q ⟨B, al, S, ρ, ys, S', R, er, hm, q⟩ => by
  unfold mLc2 at hm
  split at hm
  · rename_i xs ok S1 h1
    split at hm
    · rename_i zs S2 h2
      split at hm
      · rename_i hz
        cases hm
        refine ⟨B, al, S, ρ, xs, ok, S1, R, er, h1, fun J al1 H1 R1 x1 ⟨G, Y, w, hG, hY⟩ => fun Dl hD => ?_⟩
        have h0 : H Dl = none := fresh_al x1 (R1.fresh hD) hD
        obtain ⟨xb, Rb⟩ := R1.ban (o := .lst []) hD
        have er1 : ER X.K (Bp B Dl) al1 H1 ρ σ := (er.mono R x1).ban hD
        let Pv : Nat → Hp → Prop := fun i H2 => ∃ al2 S2 acc vacc rest, Rel X.K (Bp B Dl) al2 S2 H2 ∧ Ex al1 H1 al2 H2 ∧ H2 Dl = some (.lst vacc) ∧ RL X.K (Bp B Dl) al2 H2 acc vacc ∧ mLcLL vs g ok t (mIn vs1 g1 it1 t1 e) ρ (xs.drop i) S2 = some (rest, S') ∧ acc ++ rest = ys
        refine walk_gen w Pv ⟨al1, S1, [], [], ys, Rb, xb, upd_same, .nil, h2, rfl⟩ ?_ ?_ ?_
        · rintro i H2 hi ⟨al2, S2, acc, vacc, rest, R2, x2, hd2, ra, h3, h4⟩
          exact hG _ al2 S2 H2 R2 x2.toB (lcLL_ok h3)
        · rintro i x H2 H3 hi ⟨al2, S2, acc, vacc, rest, R2, x2, hd2, ra, h3, h4⟩ hy
          rw [List.drop_eq_getElem_cons hi] at h3
          unfold mLcLL at h3
          split at h3
          · rename_i hk
            split at h3
            · cases h3
            · rename_i ρ3 hp
              obtain ⟨R3, x3, rv⟩ := hY (Bp B Dl) i al2 S2 H2 x H3 xs[i] bp_less R2 x2.toB (fun d v r => (r.ban hD).monoN R1.nt x2) (by simp [hi]) hk hy
              have nd2 : Dl ∉ al2 := (R2.bh Dl (.inr rfl)).1
              refine ⟨Bp B Dl, al2, S2, wipeD ρ vs, ρ3, xs[i], R3, ((er1.monoN R1.nt x2).wipe vs).mono R2 x3, rv, hp, fun σ3 er3 hw => ⟨(hw vs hv).trans wipe_wipe, ?_⟩⟩
              have hd3 := (x3.fr Dl _ hd2 nd2).1
              have ra3 := ra.mono R2 x3
              split at h3
              · cases h3
              · rename_i S4 h5
                split at h3
                · cases h3
                · rename_i y1 S5 h6
                  split at h3
                  · cases h3
                  · rename_i zs S6 h7
                    cases h3
                    refine ⟨Bp B Dl, al2, S2, ρ3, true, S4, R3, er3, h5, fun k al4 H4 R4 x4 ek => ?_⟩
                    subst ek
                    rw [if_pos rfl]
                    unfold mIn at h6
                    split at h6
                    · rename_i xs1 ok1 S40 h60
                      refine ⟨Bp B Dl, al4, S4, ρ3, xs1, ok1, S40, R4, er3.mono R3 x4, h60, fun J1 al5 H5 R5 x5 ⟨G1, Y1, w1, hG1, hY1⟩ => ?_⟩
                      have hd4 := x4.fr Dl _ hd3 nd2
                      have hd5 := x5.fr Dl _ hd4.1 hd4.2
                      have ra5 := (ra3.mono R3 x4).mono R4 x5
                      have er5 := (er3.mono R3 x4).mono R4 x5
                      have x15 := ((x2.trans x3).trans x4).trans x5
                      let Pw : Nat → Hp → Prop := fun j H6 => ∃ al6 S6 acc6 vacc6 rest6, Rel X.K (Bp B Dl) al6 S6 H6 ∧ ExB (Bp B Dl) al5 H5 al6 H6 ∧ Ex al1 H1 al6 H6 ∧ H6 Dl = some (.lst vacc6) ∧ RL X.K (Bp B Dl) al6 H6 acc6 vacc6 ∧ mLcL vs1 g1 ok1 t1 e ρ3 (xs1.drop j) S6 = some (rest6, S5) ∧ acc6 ++ rest6 = acc ++ y1
                      refine walk_gen w1 Pw ⟨al5, S40, acc, vacc, y1, R5, Ex.refl.toB, x15, hd5.1, ra5, h6, rfl⟩ ?_ ?_ ?_
                      · rintro j H6 hj ⟨al6, S6, acc6, vacc6, rest6, R6, x6, x16, hd6, ra6, h8, h9⟩
                        exact hG1 _ al6 S6 H6 R6 x6 (lcL_ok h8)
                      · rintro j y H6 H7 hj ⟨al6, S6, acc6, vacc6, rest6, R6, x6, x16, hd6, ra6, h8, h9⟩ hy1
                        rw [List.drop_eq_getElem_cons hj] at h8
                        unfold mLcL at h8
                        split at h8
                        · rename_i hk1
                          split at h8
                          · cases h8
                          · rename_i ρ7 hp7
                            obtain ⟨R7, x7, rv7⟩ := hY1 (Bp B Dl) j al6 S6 H6 y H7 xs1[j] (fun _ z => z) R6 x6 (fun d v r => r.monoB R5.nt x6) (by simp [hj]) hk1 hy1
                            have nd6 : Dl ∉ al6 := (R6.bh Dl (.inr rfl)).1
                            have hd7 := x7.fr Dl _ hd6 nd6
                            refine ⟨Bp B Dl, al6, S6, wipeD ρ3 vs1, ρ7, xs1[j], R7, ((er5.monoB R5.nt x6).wipe vs1).mono R6 x7, rv7, hp7, fun σ8 er8 hw8 => ⟨(hw8 vs1 hv1).trans wipe_wipe, ?_⟩⟩
                            have ra7 := ra6.mono R6 x7
                            split at h8
                            · cases h8
                            · rename_i S8 g5
                              split at h8
                              · cases h8
                              · rename_i y8 S9 g6
                                split at h8
                                · cases h8
                                · rename_i zs8 S10 g7
                                  cases h8
                                  refine ⟨Bp B Dl, al6, S6, ρ7, true, S8, R7, er8, g5, fun k al8 H8 R8 x8 ek => ?_⟩
                                  subst ek
                                  rw [if_pos rfl]
                                  refine ⟨Bp B Dl, al8, S8, ρ7, y8, S9, R8, er8.mono R7 x8, g6, fun v al9 H9 R9 x9 r9 => ⟨vacc6, ?_, ?_, ?_⟩⟩
                                  · exact (x9.fr Dl _ (x8.fr Dl _ hd7.1 hd7.2).1 (x8.fr Dl _ hd7.1 hd7.2).2).1
                                  · have e1 := ra6.len
                                    have e2 : ys.length = acc.length + (y1.length + zs.length) := by rw [← h4]; simp
                                    have e3 : acc6.length + (zs8.length + 1) = acc.length + y1.length := by
                                      have := congrArg List.length h9
                                      simpa using this
                                    exact lim_lt (by omega)
                                  · have hd9 := (x9.fr Dl _ (x8.fr Dl _ hd7.1 hd7.2).1 (x8.fr Dl _ hd7.1 hd7.2).2).1
                                    refine ⟨al9, S9, acc6 ++ [y8], vacc6 ++ [v], zs8, R9.poke (.inr rfl) hd9, (((x6.step x7).step x8).step x9).poke (.inr rfl) hd9, ((((x16.trans x7).trans x8).trans x9)).poke hD, upd_same, ?_, g7, by rw [List.append_assoc]; exact h9⟩
                                    exact (((ra7.mono R7 x8).mono R8 x9).append (.cons _ _ _ _ r9 .nil)).poke (.inr rfl) hd9
                            · rename_i S8 g5
                              refine ⟨Bp B Dl, al6, S6, ρ7, false, S8, R7, er8, g5, fun k al8 H8 R8 x8 ek => ?_⟩
                              subst ek
                              exact ⟨al8, S8, acc6, vacc6, rest6, R8, (x6.step x7).step x8, (x16.trans x7).trans x8, (x8.fr Dl _ hd7.1 hd7.2).1, ra7.mono R7 x8, h8, h9⟩
                        · cases h8
                      · rintro H6 ⟨al6, S6, acc6, vacc6, rest6, R6, x6, x16, hd6, ra6, h8, h9⟩
                        rw [List.drop_length] at h8
                        unfold mLcL at h8
                        split at h8
                        · cases h8
                          rw [List.append_nil] at h9
                          subst h9
                          exact ⟨al6, _, acc ++ y1, vacc6, zs, R6, x16, hd6, ra6, h7, by rw [List.append_assoc]; exact h4⟩
                        · cases h8
                    · cases h6
              · rename_i S4 h5
                refine ⟨Bp B Dl, al2, S2, ρ3, false, S4, R3, er3, h5, fun k al4 H4 R4 x4 ek => ?_⟩
                subst ek
                exact ⟨al4, S4, acc, vacc, rest, R4, (x2.trans x3).trans x4, (x4.fr Dl _ hd3 nd2).1, ra3.mono R3 x4, h3, h4⟩
          · cases h3
        · rintro H2 ⟨al2, S2, acc, vacc, rest, R2, x2, hd2, ra, h3, h4⟩
          rw [List.drop_length] at h3
          unfold mLcLL at h3
          split at h3
          · cases h3
            rw [List.append_nil] at h4
            subst h4
            exact q Dl vacc al2 H2 R2 (x1.trans x2) h0 hd2 ra
          · cases h3
      · cases hm
    · cases hm
  · cases hm
theorem sn_lc2 {elt tg iter tg1 iter1 : Expr} {ifs ifs1 : List Expr} {scope : Scope} {own : List (Str × Nat)} {pos : Pos} (vs1 : List Nat) (hc : X.calm = true) (hN : X.N.Nodup) (hi : Si X tg iter it) (ok : BlkOk X.N X.env.scope scope own) (hw : ∀ i ∈ vs1, i ∈ own.map (·.2))
    (hg : ∀ (s : Shared) (H : Hp) (C : Addr) (cl : List (Str × Addr)) (fp : List Addr), Sg (X.blk s H scope (compEnvC scope cl C X.env) fp) tg g)
    (ht : ∀ (s : Shared) (H : Hp) (C : Addr) (cl : List (Str × Addr)) (fp : List Addr), PTs (X.blk s H scope (compEnvC scope cl C X.env) fp) ifs (tT X.K t))
    (hi1 : ∀ (s : Shared) (H : Hp) (C : Addr) (cl : List (Str × Addr)) (fp : List Addr), Si (X.blk s H scope (compEnvC scope cl C X.env) fp) tg1 iter1 it1)
    (hg1 : ∀ (s : Shared) (H : Hp) (C : Addr) (cl : List (Str × Addr)) (fp : List Addr), Sg (X.blk s H scope (compEnvC scope cl C X.env) fp) tg1 g1)
    (ht1 : ∀ (s : Shared) (H : Hp) (C : Addr) (cl : List (Str × Addr)) (fp : List Addr), PTs (X.blk s H scope (compEnvC scope cl C X.env) fp) ifs1 (tT X.K t1))
    (he : ∀ (s : Shared) (H : Hp) (C : Addr) (cl : List (Str × Addr)) (fp : List Addr), Sn (X.blk s H scope (compEnvC scope cl C X.env) fp) elt e)
    (hv : ∀ i ∈ g.slots, i ∈ own.map (·.2)) (hv1 : ∀ i ∈ g1.slots, i ∈ vs1) (hs : ∀ x, foldedSetIterable iter X.env x = pure x := by intro _; rfl) (hs1 : ∀ env x, foldedSetIterable iter1 env x = pure x := by intro _ _; rfl) :
    SnF X (.ListComp elt [⟨tg, iter, ifs, 0⟩, ⟨tg1, iter1, ifs1, 0⟩] scope pos) (mLc2 (own.map (·.2)) vs1 g it t g1 it1 t1 e) :=
  pe_imp (pe_lc2 (wi1 := tW X.K it1) (g := tTg X.K g) (tt := tT X.K t) (g1 := tTg X.K g1) (tt1 := tT X.K t1) (te := tE X.K e) (vs1 := vs1) hc hN hi ok hw hg ht hi1 hg1 ht1 he hs hs1) (lc2_of hv hv1 hw)
end
end Z
set_option Elab.async false
set_option linter.all false
set_option maxRecDepth 100000
/-! sorted of a tuple. -/
namespace SrtO
open PySem PyProof.Rows Srt
section
variable {prog : Program} {w : World} {A : Around} {E : Value → Shared → Prop} {s : Shared}
theorem tup_collect {t : Addr} {zs : List Value} {F : List Value → Shared → Prop} (ht : IsTup s.heap t zs.toArray) (hz : zs.length ≤ sizeLine)
    (q : F zs { s with heap := (s.heap.push (seqObj "list" #[] 0)).update s.heap.objs.size (Obj.mapSeq (· ++ zs.toArray)) }) : wpAny (model prog w) A (collect (.ref t)) F E s := by
  obtain ⟨ob, g1, g2, k, g3⟩ := id (show s.heap.IsTuple t zs.toArray from ht)
  have g4 : (s.heap.push (seqObj "list" #[] 0)).get? t = some ob := Heap.get?_push_of_some _ g1
  have new : (s.heap.push (seqObj "list" #[] 0)).get? s.heap.objs.size = some (seqObj "list" #[] 0) := Heap.get?_push_size _ rfl
  have room : (#[] ++ zs.toArray).size ≤ sizeLine + 1 := by
    rw [Array.size_append, List.size_toArray]
    exact Nat.le_trans (by simp) (Nat.le_succ_of_le hz)
  unfold collect
  refine wpAny_bind (wpAny_runValue (codeAny_builtin entry_proto_collect' (?_ : wpAny _ _ (do again (.builtin "list.__iadd__" ⟨[← newList [], .ref t], []⟩)) _ _ s)))
  refine wpAny_bind (wpAny_newList (wpAny_pure ⟨Code.quiet_builtin _ (by decide +kernel), codeAny_builtin entry_list_iadd' (?_ : wpAny _ _ (Builtin.List.listExtendWith (.ref s.heap.objs.size) (.ref t) (.ref s.heap.objs.size)) _ _ { s with heap := s.heap.push (seqObj "list" #[] 0) })⟩))
  unfold Builtin.List.listExtendWith
  refine wpAny_bind (wpAny_typeOf (T := "tuple") ⟨ob, g4, g2⟩ ?_)
  rw [if_pos (by rw [show (Value.type "tuple" == Value.type "tuple") = true by rfl, Bool.or_true])]
  refine wpAny_bind (listItems_at g4 g3 (wpAny_bind (listItems_at (xs := #[]) (n := 0) new rfl ?_)))
  rw [if_neg (by simp)]
  refine wpAny_bind (listUpdate_at (xs := #[]) (n := 0) new rfl (wpAny_pure ?_) (Nat.zero_le _) room)
  refine (wpAny_bind (wpAny_load (get?_update_seq new _) ?_) : wpAny (model prog w) A (do
      match (← load s.heap.objs.size).data with
      | .seq xs _ => pure xs.toList
      | _ => unsupported "internal:collect") F E { s with heap := (s.heap.push (seqObj "list" #[] 0)).update s.heap.objs.size (Obj.mapSeq (· ++ zs.toArray)) })
  refine wpAny_pure (?_ : F ((#[] : Array Value) ++ zs.toArray).toList _)
  have e : ((#[] : Array Value) ++ zs.toArray).toList = zs := by simp
  rw [e]
  exact q
/-- sorted of a tuple of whole numbers -/
theorem tup_sorted {t : Addr} {zs : List Value} {ns : List Int} {F : Value → Shared → Prop} (ht : IsTup s.heap t zs.toArray) (hz : zs.length ≤ sizeLine) (hi : IntsAre zs ns)
    (q : ∀ out : List Value, Srtd ltIv out → Stb ltIv out zs → F (.ref (s.heap.objs.size + 1)) { s with heap := sortedAll s.heap zs out.toArray }) : wpAny (model prog w) A (call (.builtin "sorted") [.ref t]) F E s := by
  refine Calls.call_function_entry kind_sorted plain_sorted entry_sorted (args_sorted1 _) ?_
  unfold Builtin.«sorted»
  let h1 : Heap := (s.heap.push (seqObj "list" #[] 0)).update s.heap.objs.size (Obj.mapSeq (· ++ zs.toArray))
  have n1 : h1.objs.size = s.heap.objs.size + 1 := (Heap.size_update _ _ _).trans (size_push' ..)
  have top : (h1.push (seqObj "list" zs.toArray 0)).get? (s.heap.objs.size + 1) = some (seqObj "list" zs.toArray 0) := n1 ▸ Heap.get?_push_size _ rfl
  refine wpAny_bind (m := checkCount "sorted" 1 1 _) (wpAny_pure (wpAny_bind (tup_collect ht hz (wpAny_bind (wpAny_newList (?_ : wpAny _ _ _ _ _ { s with heap := h1.push (seqObj "list" zs.toArray 0) }) hz)))))
  change wpAny _ _ _ _ _ _
  have e0 : ((s.heap.push (seqObj "list" #[] 0)).update s.heap.objs.size (Obj.mapSeq (· ++ zs.toArray))).objs.size = s.heap.objs.size + 1 := n1
  dsimp only
  rw [e0]
  refine wpAny_bind (wpAny_holding (wpAny_call_entry slot_list_sort ⟨_, top, rfl⟩ entry_list_sort (list_sort_ord swo_int top hz (fun h2 => ints_sortable hi h2) fun out a b => ⟨_, rfl, ?_⟩) (args_list_sort _)))
  exact wpAny_pure ⟨_, rfl, q out a b⟩
end
end SrtO
namespace L2
open PySem PySem.Spec PyProof.Rows
def rSortedTup (K : PySem.W.Frag) : List V → Hp → VK → Prop := fun vs H Q => ∃ (a : Addr) (ns : List Int), vs = [V.ref a] ∧ SqT K H a (ns.map V.int) ∧
  ∀ (ns' : List Int) (p : Addr), ns'.Perm ns → ns'.Pairwise (· ≤ ·) → H p = none → Q (.ref p) (upd H p (.lst (ns'.map V.int)))
theorem cr_sortedTup {X : Cx} : CallR X (.builtin "sorted") (rSortedTup X.K) := fun pins s σ H vs us Q I r ⟨a, ns, e, ht, q⟩ => by
  subst e
  obtain ⟨its, rv, hl, hz⟩ := I.tuple ht
  have hi := rv.ints
  have nz : (ns.map V.int).length = its.length := rv.length
  rw [Vals.ref1 r]
  refine SrtO.tup_sorted hl (by omega) hi fun out h1 h2 => ?_
  obtain ⟨k1, k2, k3⟩ := SrtO.ints_out hi h1 h2
  obtain ⟨ep, g⟩ := PyProof.Rows.sortedAll_at s.heap its out.toArray
  have hlen : ((out.map SrtO.iv).map V.int).length ≤ sizeLine := by
    have := k2.length_eq
    simp only [List.length_map] at hz this ⊢
    omega
  refine ⟨V.ref _, upd H (s.heap.objs.size + 1) (.lst ((out.map SrtO.iv).map V.int)), ?_, rfl, q _ _ k2 k3 (I.hok.fresh (Nat.le_succ _))⟩
  exact I.laid (t' := s.toks) (fun _ _ => PyProof.Rows.sortedAll_old) (Nat.le_succ _) ⟨hlen, out, ep, vals_of_ints k1, g⟩
/-- sorted of ints, in a list or in a tuple -/
def rSortedQ (K : PySem.W.Frag) : List V → Hp → VK → Prop := fun vs H Q => rSortedI K vs H Q ∨ rSortedTup K vs H Q
theorem cr_sortedQ {X : Cx} : CallR X (.builtin "sorted") (rSortedQ X.K) := cr_sortedI.or cr_sortedTup
end L2
namespace Z
open PySem L2
def cSortQ (ds : List D) : M (List D) := fun S => match ds with
  | [d] => ((asSq S d).bind intsOf).map fun ns => ((srtI ns).map .int, S)
  | _ => none
theorem c_sortQ {K : PySem.W.Frag} : CRF K (rSortedQ K) cSortQ := fun B al S H ds z vs S' R r1 h Q q => by
  unfold cSortQ at h
  split at h
  · rename_i d
    cases hx : asSq S d with
    | none => rw [hx] at h; cases h
    | some xs =>
      rw [hx, Option.bind_some] at h
      cases hy : intsOf xs with
      | none => rw [hy] at h; cases h
      | some ns =>
        rw [hy] at h
        cases h
        obtain ⟨v, rfl, rv⟩ := rl_one r1
        obtain ⟨a, us, rfl, ha, ra⟩ := asSq_rep R rv hx
        obtain ⟨e, _⟩ := ints_rep ra hy
        subst e
        have fin : ∀ (ns' : List Int) (p : Addr), ns'.Perm ns → ns'.Pairwise (· ≤ ·) → H p = none → Q (.ref p) (upd H p (.lst (ns'.map V.int))) := fun ns' p hp hs h0 => by
          obtain rfl : ns' = srtI ns := srt_uniq (hp.trans (srtI_perm ns).symm) hs (srtI_sorted ns)
          obtain ⟨g1, g2, g3, g4, g5⟩ := new_F R .refl h0 (rl_ints (K := K) (B := B) (al := al) (H := H) (srtI ns))
          exact q p _ al _ g1 g2 g3 g4 g5
        rcases ha with ha | ha
        · exact .inl ⟨a, ns, rfl, ha, fin⟩
        · exact .inr ⟨a, ns, rfl, ha, fin⟩
  · cases h
end Z
set_option Elab.async false
set_option linter.all false
set_option maxRecDepth 100000
/-! What a computation comes to. -/
namespace Z
open PySem L2

def wp {α : Type} (m : M α) (S : Store) (Q : α → Store → Prop) : Prop := ∃ a S', m S = some (a, S') ∧ Q a S'
def wps (m : MS) (ρ : Env) (S : Store) (Q : Out → Store → Prop) : Prop := ∃ o S', m ρ S = some (o, S') ∧ Q o S'
theorem wp_mono {α : Type} {m : M α} {S : Store} {Q Q' : α → Store → Prop} (h : wp m S Q) (q : ∀ a S', Q a S' → Q' a S') : wp m S Q' := let ⟨a, S', e, h⟩ := h; ⟨a, S', e, q a S' h⟩
theorem wps_mono {m : MS} {ρ : Env} {S : Store} {Q Q' : Out → Store → Prop} (h : wps m ρ S Q) (q : ∀ a S', Q a S' → Q' a S') : wps m ρ S Q' := let ⟨a, S', e, h⟩ := h; ⟨a, S', e, q a S' h⟩
theorem wp_get {α : Type} {m : M α} {S S' : Store} {a : α} (h : wp m S fun b T => b = a ∧ T = S') : m S = some (a, S') := by
  obtain ⟨b, T, e, rfl, rfl⟩ := h; exact e
theorem wp_of {α : Type} {m : M α} {S S' : Store} {a : α} {Q : α → Store → Prop} (h : m S = some (a, S')) (q : Q a S') : wp m S Q := ⟨a, S', h, q⟩
section
variable {α β : Type} {S : Store} {Q : α → Store → Prop} {ρ : Env}
@[simp] theorem wp_ret {a : α} : wp (ret a) S Q ↔ Q a S := ⟨fun ⟨b, S', e, q⟩ => by obtain ⟨rfl, rfl⟩ := ret_some e; exact q, fun q => ⟨a, S, rfl, q⟩⟩
@[simp] theorem wp_fail : wp (fail : M α) S Q ↔ False := ⟨fun ⟨b, S', e, q⟩ => (by cases e), fun q => q.elim⟩
@[simp] theorem wp_bnd {x : M β} {f : β → M α} : wp (bnd x f) S Q ↔ wp x S fun b S1 => wp (f b) S1 Q :=
  ⟨fun ⟨a, S', e, q⟩ => by obtain ⟨b, S1, h1, h2⟩ := bnd_some e; exact ⟨b, S1, h1, a, S', h2, q⟩, fun ⟨b, S1, h1, a, S', h2, q⟩ => ⟨a, S', by unfold bnd; rw [h1]; exact h2, q⟩⟩
theorem wp_ite {c : Prop} [Decidable c] {x y : M α} : wp (if c then x else y) S Q ↔ if c then wp x S Q else wp y S Q := by split <;> rfl
@[simp] theorem wp_some {a : α} {S' : Store} : wp (fun _ => some (a, S')) S Q ↔ Q a S' := ⟨fun ⟨b, T, e, q⟩ => by cases e; exact q, fun q => ⟨a, S', rfl, q⟩⟩
end
section
variable {S : Store} {ρ : Env}
@[simp] theorem wp_mVar {i : Nat} {Q} : wp (mVar i ρ) S Q ↔ ∃ d, ρ[i]? = some (some d) ∧ Q d S := by
  constructor
  · rintro ⟨d, S', e, q⟩
    unfold mVar at e
    split at e
    · rename_i d' h; cases e; exact ⟨d, h, q⟩
    · cases e
  · rintro ⟨d, h, q⟩
    exact ⟨d, S, by simp [mVar, h], q⟩
@[simp] theorem wp_mC {d : D} {Q} : wp (mC d ρ) S Q ↔ Q d S := by unfold mC; simp
@[simp] theorem wp_mNil {Q} : wp (mNil ρ) S Q ↔ Q [] S := by unfold mNil; simp
@[simp] theorem wp_mCons {m : ME} {r : MA} {Q} : wp (mCons m r ρ) S Q ↔ wp (m ρ) S fun d S1 => wp (r ρ) S1 fun ds S2 => Q (d :: ds) S2 := by unfold mCons; simp
@[simp] theorem wp_mTup {m : MA} {Q} : wp (mTup m ρ) S Q ↔ wp (m ρ) S fun ds S1 => Q (.tup ds) S1 := by unfold mTup; simp
@[simp] theorem wp_mFz {m : MA} {Q} : wp (mFz m ρ) S Q ↔ wp (m ρ) S fun ds S1 => Q (.lst ds) S1 := by unfold mFz; simp
@[simp] theorem wp_mAd {m : MA} {Q} : wp (mAd m ρ) S Q ↔ wp (m ρ) S fun ds S1 => Q (.ref S1.length) (S1 ++ [.lst ds]) := by
  constructor
  · rintro ⟨d, S', e, q⟩
    unfold mAd at e
    split at e
    · rename_i ds S1 h; cases e; exact ⟨ds, S1, h, q⟩
    · cases e
  · rintro ⟨ds, S1, h, q⟩
    exact ⟨_, _, by unfold mAd; rw [h], q⟩
@[simp] theorem wp_mOp {f : D → D → M D} {a b : ME} {Q} : wp (mOp f a b ρ) S Q ↔ wp (a ρ) S fun x S1 => wp (b ρ) S1 fun y S2 => wp (f x y) S2 Q := by unfold mOp; simp
@[simp] theorem wp_mB {m : ME} {Q} : wp (mB m ρ) S Q ↔ wp (m ρ) S fun d S1 => ∃ b, d = .bl b ∧ Q b S1 := by
  unfold mB
  rw [wp_bnd]
  constructor
  · rintro ⟨d, S1, h, q⟩
    refine ⟨d, S1, h, ?_⟩
    cases d <;> simp at q
    exact ⟨_, rfl, q⟩
  · rintro ⟨d, S1, h, b, rfl, q⟩
    exact ⟨_, S1, h, by simpa using q⟩
@[simp] theorem wp_mAnd {a b : MT} {Q} : wp (mAnd a b ρ) S Q ↔ wp (a ρ) S fun x S1 => if x = true then wp (b ρ) S1 Q else Q false S1 := by unfold mAnd; simp [wp_ite]
@[simp] theorem wp_mOr {a b : MT} {Q} : wp (mOr a b ρ) S Q ↔ wp (a ρ) S fun x S1 => if x = true then Q true S1 else wp (b ρ) S1 Q := by unfold mOr; simp [wp_ite]
@[simp] theorem wp_mNot {a : MT} {Q} : wp (mNot a ρ) S Q ↔ wp (a ρ) S fun x S1 => Q (!x) S1 := by unfold mNot; simp
@[simp] theorem wp_mIf {t : MT} {a b : ME} {Q} : wp (mIf t a b ρ) S Q ↔ wp (t ρ) S fun x S1 => if x = true then wp (a ρ) S1 Q else wp (b ρ) S1 Q := by unfold mIf; simp [wp_ite]
@[simp] theorem wp_mAndV {a b : ME} {Q} : wp (mAndV a b ρ) S Q ↔ wp (a ρ) S fun x S1 => ∃ k, x = .bl k ∧ if k = true then wp (b ρ) S1 Q else Q (.bl false) S1 := by unfold mAndV; simp [wp_ite]
@[simp] theorem wp_mOrV {a b : ME} {Q} : wp (mOrV a b ρ) S Q ↔ wp (a ρ) S fun x S1 => ∃ k, x = .bl k ∧ if k = true then Q (.bl true) S1 else wp (b ρ) S1 Q := by unfold mOrV; simp [wp_ite]
@[simp] theorem wp_mNotV {a : ME} {Q} : wp (mNotV a ρ) S Q ↔ wp (a ρ) S fun x S1 => ∃ k, x = .bl k ∧ Q (.bl (!k)) S1 := by unfold mNotV; simp
@[simp] theorem wp_mNeg {a : ME} {Q} : wp (mNeg a ρ) S Q ↔ wp (a ρ) S fun x S1 => ∃ i, x = .int i ∧ Q (.int (-i)) S1 := by
  unfold mNeg
  rw [wp_bnd]
  constructor
  · rintro ⟨d, S1, h, q⟩
    refine ⟨d, S1, h, ?_⟩
    cases d <;> simp at q
    exact ⟨_, rfl, q⟩
  · rintro ⟨d, S1, h, b, rfl, q⟩
    exact ⟨_, S1, h, by simpa using q⟩
@[simp] theorem wp_mChain {f g : D → D → M D} {a b c : ME} {Q} : wp (mChain f g a b c ρ) S Q ↔ wp (a ρ) S fun x S1 => wp (b ρ) S1 fun y S2 => wp (f x y) S2 fun z S3 => ∃ k, z = .bl k ∧ if k = true then wp (c ρ) S3 fun w S4 => wp (g y w) S4 Q else Q (.bl false) S3 := by
  unfold mChain
  simp only [wp_bnd]
  constructor
  · rintro ⟨x, S1, h1, y, S2, h2, z, S3, h3, q⟩
    refine ⟨x, S1, h1, y, S2, h2, z, S3, h3, ?_⟩
    split at q
    · exact ⟨true, rfl, by simpa using q⟩
    · exact ⟨false, rfl, by simpa using q⟩
    · simp at q
  · rintro ⟨x, S1, h1, y, S2, h2, z, S3, h3, k, rfl, q⟩
    refine ⟨x, S1, h1, y, S2, h2, _, S3, h3, ?_⟩
    cases k <;> simpa using q
theorem wp_opt {α : Type} {o : Option α} {f : α → Store → Option (D × Store)} {Q} : wp (fun S => o.bind fun a => f a S) S Q ↔ ∃ a, o = some a ∧ wp (f a) S Q := by
  constructor
  · rintro ⟨d, S', e, q⟩
    cases o with
    | none => cases e
    | some a => exact ⟨a, rfl, d, S', e, q⟩
  · rintro ⟨a, rfl, d, S', e, q⟩
    exact ⟨d, S', e, q⟩
@[simp] theorem wp_mTru {m : ME} {Q} : wp (mTru m ρ) S Q ↔ wp (m ρ) S fun d S1 => ∃ b, truD S1 d = some b ∧ Q b S1 := by
  unfold mTru
  rw [wp_bnd]
  constructor
  · rintro ⟨d, S1, h, b, S2, e, q⟩
    refine ⟨d, S1, h, ?_⟩
    cases ht : truD S1 d with
    | none => simp [ht] at e
    | some k =>
      simp only [ht, Option.map_some, Option.some.injEq, Prod.mk.injEq] at e
      obtain ⟨rfl, rfl⟩ := e
      exact ⟨k, ht, q⟩
  · rintro ⟨d, S1, h, b, e, q⟩
    exact ⟨d, S1, h, b, S1, by simp [e], q⟩
@[simp] theorem wp_mIsi {T : String} {m : ME} {Q} : wp (mIsi T m ρ) S Q ↔ wp (m ρ) S fun d S1 => ∃ t, tyD S1 d = some t ∧ Q (.bl (isiB t T)) S1 := by
  unfold mIsi
  rw [wp_bnd]
  constructor
  · rintro ⟨d, S1, h, b, S2, e, q⟩
    refine ⟨d, S1, h, ?_⟩
    cases ht : tyD S1 d with
    | none => simp [ht] at e
    | some k =>
      simp only [ht, Option.map_some, Option.some.injEq, Prod.mk.injEq] at e
      obtain ⟨rfl, rfl⟩ := e
      exact ⟨k, ht, q⟩
  · rintro ⟨d, S1, h, b, e, q⟩
    exact ⟨d, S1, h, _, S1, by simp only [e, Option.map_some], q⟩
@[simp] theorem wp_mCB {f : List D → M D} {m : MA} {Q} : wp (mCB f m ρ) S Q ↔ wp (m ρ) S fun ds S1 => wp (f ds) S1 Q := by unfold mCB; simp
@[simp] theorem wp_mCF {f : List D → M (List D)} {m : MA} {Q} : wp (mCF f m ρ) S Q ↔ wp (m ρ) S fun ds S1 => wp (f ds) S1 Q := by unfold mCF; simp
@[simp] theorem wp_mCall {k : Nat} {f : List D → M D} {m : MA} {Q} : wp (mCall k f m ρ) S Q ↔ wp (m ρ) S fun ds S1 => wp (callF k f ds) S1 Q := by unfold mCall; simp
@[simp] theorem wp_mCallG {f : List D → M D} {m : MA} {Q} : wp (mCallG f m ρ) S Q ↔ wp (m ρ) S fun ds S1 => wp (f ds) S1 Q := by unfold mCallG; simp
@[simp] theorem wp_mMth {f : D → List D → M D} {mo : ME} {ma : MA} {Q} : wp (mMth f mo ma ρ) S Q ↔ wp (mo ρ) S fun o S1 => (asLC S1 o).isSome = true ∧ wp (ma ρ) S1 fun ds S2 => wp (f o ds) S2 Q := by
  unfold mMth
  rw [wp_bnd]
  constructor
  · rintro ⟨d, S1, h, b, S2, e, q⟩
    dsimp only at e
    split at e
    · rename_i hc
      exact ⟨d, S1, h, hc, wp_bnd.mp ⟨b, S2, e, q⟩⟩
    · cases e
  · rintro ⟨d, S1, h, hc, q⟩
    obtain ⟨b, S2, e, q⟩ := wp_bnd.mpr q
    exact ⟨d, S1, h, b, S2, by dsimp only; rw [if_pos hc]; exact e, q⟩
@[simp] theorem wp_mSl {m : ME} {lo hi : Env → M (Option Int)} {Q} : wp (mSl m lo hi ρ) S Q ↔ wp (m ρ) S fun d S1 => wp (lo ρ) S1 fun l S2 => wp (hi ρ) S2 fun h S3 => (∃ xs, d = .tup xs ∧ Q (.tup (cutD xs l h)) S3) ∨ ∃ xs, asL S3 d = some xs ∧ Q (.lst (cutD xs l h)) S3 := by
  unfold mSl
  simp only [wp_bnd]
  constructor
  · rintro ⟨d, S1, h1, l, S2, h2, h, S3, h3, b, S4, e, q⟩
    refine ⟨d, S1, h1, l, S2, h2, h, S3, h3, ?_⟩
    split at e
    · cases e; exact .inl ⟨_, rfl, q⟩
    · rename_i d' hd
      cases ht : asL S3 d with
      | none => simp [ht] at e
      | some k =>
        simp only [ht, Option.map_some, Option.some.injEq, Prod.mk.injEq] at e
        obtain ⟨rfl, rfl⟩ := e
        exact .inr ⟨k, rfl, q⟩
  · rintro ⟨d, S1, h1, l, S2, h2, h, S3, h3, ⟨xs, rfl, q⟩ | ⟨xs, e, q⟩⟩
    · exact ⟨_, S1, h1, l, S2, h2, h, S3, h3, _, S3, rfl, q⟩
    · refine ⟨d, S1, h1, l, S2, h2, h, S3, h3, .lst (cutD xs l h), S3, ?_, q⟩
      cases d <;> simp_all [asL]
@[simp] theorem wp_mNoPart {Q} : wp (mNoPart ρ) S Q ↔ Q none S := by unfold mNoPart; simp
@[simp] theorem wp_mPart {m : ME} {Q} : wp (mPart m ρ) S Q ↔ wp (m ρ) S fun d S1 => ∃ i, d = .int i ∧ Q (some i) S1 := by
  unfold mPart
  rw [wp_bnd]
  constructor
  · rintro ⟨d, S1, h, q⟩
    refine ⟨d, S1, h, ?_⟩
    cases d <;> simp at q
    exact ⟨_, rfl, q⟩
  · rintro ⟨d, S1, h, b, rfl, q⟩
    exact ⟨_, S1, h, by simpa using q⟩
@[simp] theorem wp_mTrue {Q} : wp (mTrue ρ) S Q ↔ Q true S := by unfold mTrue; simp

/-! ### statements -/
@[simp] theorem wps_next {Q} : wps mNext ρ S Q ↔ Q (.nx ρ) S := ⟨fun ⟨o, S', e, q⟩ => by cases e; exact q, fun q => ⟨_, _, rfl, q⟩⟩
@[simp] theorem wps_brk {Q} : wps mBrk ρ S Q ↔ Q (.bk ρ) S := ⟨fun ⟨o, S', e, q⟩ => by cases e; exact q, fun q => ⟨_, _, rfl, q⟩⟩
@[simp] theorem wps_cnt {Q} : wps mCnt ρ S Q ↔ Q (.ct ρ) S := ⟨fun ⟨o, S', e, q⟩ => by cases e; exact q, fun q => ⟨_, _, rfl, q⟩⟩
@[simp] theorem wps_retN {Q} : wps mRetN ρ S Q ↔ Q (.rt .non) S := ⟨fun ⟨o, S', e, q⟩ => by cases e; exact q, fun q => ⟨_, _, rfl, q⟩⟩
/-- what follows a statement -/
def aft (b : MS) (Q : Out → Store → Prop) : Out → Store → Prop
  | .nx ρ, S => wps b ρ S Q
  | .rt d, S => Q (.rt d) S
  | .bk ρ, S => Q (.bk ρ) S
  | .ct ρ, S => Q (.ct ρ) S
  | .ex c, S => Q (.ex c) S
@[simp] theorem aft_nx {b : MS} {Q} : aft b Q (.nx ρ) S ↔ wps b ρ S Q := Iff.rfl
@[simp] theorem aft_rt {b : MS} {Q} {d : D} : aft b Q (.rt d) S ↔ Q (.rt d) S := Iff.rfl
@[simp] theorem aft_bk {b : MS} {Q} : aft b Q (.bk ρ) S ↔ Q (.bk ρ) S := Iff.rfl
@[simp] theorem aft_ct {b : MS} {Q} : aft b Q (.ct ρ) S ↔ Q (.ct ρ) S := Iff.rfl
@[simp] theorem aft_ex {b : MS} {Q} {c : Str} : aft b Q (.ex c) S ↔ Q (.ex c) S := Iff.rfl
@[simp] theorem wps_seq {a b : MS} {Q} : wps (mSeq a b) ρ S Q ↔ wps a ρ S (aft b Q) := by
  constructor
  · rintro ⟨o, S', e, q⟩
    unfold mSeq at e
    split at e
    · rename_i ρ1 S1 h; exact ⟨_, _, h, o, S', e, q⟩
    · rename_i hn
      refine ⟨o, S', e, ?_⟩
      cases o with
      | nx ρ1 => exact (hn _ _ e).elim
      | _ => exact q
  · rintro ⟨o, S', e, q⟩
    cases o with
    | nx ρ1 => obtain ⟨o2, S2, e2, q2⟩ := q; exact ⟨o2, S2, by simp [mSeq, e, e2], q2⟩
    | rt d => exact ⟨_, S', by simp [mSeq, e], q⟩
    | bk d => exact ⟨_, S', by simp [mSeq, e], q⟩
    | ct d => exact ⟨_, S', by simp [mSeq, e], q⟩
    | ex d => exact ⟨_, S', by simp [mSeq, e], q⟩
@[simp] theorem wps_drop {m : ME} {Q} : wps (mDrop m) ρ S Q ↔ wp (m ρ) S fun _ S1 => Q (.nx ρ) S1 := by
  constructor
  · rintro ⟨o, S', e, q⟩
    unfold mDrop at e
    split at e
    · rename_i d S1 h; cases e; exact ⟨d, _, h, q⟩
    · cases e
  · rintro ⟨d, S1, h, q⟩; exact ⟨_, _, by simp [mDrop, h], q⟩
@[simp] theorem wps_ret {m : ME} {Q} : wps (mRet m) ρ S Q ↔ wp (m ρ) S fun d S1 => Q (.rt d) S1 := by
  constructor
  · rintro ⟨o, S', e, q⟩
    unfold mRet at e
    split at e
    · rename_i d S1 h; cases e; exact ⟨d, _, h, q⟩
    · cases e
  · rintro ⟨d, S1, h, q⟩; exact ⟨_, _, by simp [mRet, h], q⟩
@[simp] theorem wps_set {i : Nat} {m : ME} {Q} : wps (mSet i m) ρ S Q ↔ wp (m ρ) S fun d S1 => Q (.nx (ρ.set i (some d))) S1 := by
  constructor
  · rintro ⟨o, S', e, q⟩
    unfold mSet at e
    split at e
    · rename_i d S1 h; cases e; exact ⟨d, _, h, q⟩
    · cases e
  · rintro ⟨d, S1, h, q⟩; exact ⟨_, _, by simp [mSet, h], q⟩
@[simp] theorem wps_if {t : MT} {a b : MS} {Q} : wps (mIfS t a b) ρ S Q ↔ wp (t ρ) S fun x S1 => if x = true then wps a ρ S1 Q else wps b ρ S1 Q := by
  constructor
  · rintro ⟨o, S', e, q⟩
    unfold mIfS at e
    split at e
    · rename_i S1 h; exact ⟨true, _, h, by simpa using ⟨o, S', e, q⟩⟩
    · rename_i S1 h; exact ⟨false, _, h, by simpa using ⟨o, S', e, q⟩⟩
    · cases e
  · rintro ⟨x, S1, h, q⟩
    cases x with
    | true => obtain ⟨o, S', e, q⟩ := (by simpa using q : wps a ρ S1 Q); exact ⟨o, S', by simp [mIfS, h, e], q⟩
    | false => obtain ⟨o, S', e, q⟩ := (by simpa using q : wps b ρ S1 Q); exact ⟨o, S', by simp [mIfS, h, e], q⟩
@[simp] theorem wps_asg {g : Tg} {m : ME} {Q} : wps (mAsg g m) ρ S Q ↔ wp (m ρ) S fun d S1 => ∃ ρ', g.put d ρ = some ρ' ∧ Q (.nx ρ') S1 := by
  constructor
  · rintro ⟨o, S', e, q⟩
    unfold mAsg at e
    split at e
    · rename_i d S1 h
      cases hp : g.put d ρ with
      | none => simp [hp] at e
      | some ρ' =>
        simp only [hp, Option.map_some, Option.some.injEq, Prod.mk.injEq] at e
        obtain ⟨rfl, rfl⟩ := e
        exact ⟨d, _, h, ρ', hp, q⟩
    · cases e
  · rintro ⟨d, S1, h, ρ', hp, q⟩; exact ⟨_, _, by simp [mAsg, h, hp], q⟩
@[simp] theorem wps_aug {i : Nat} {f : Int → Int → Int} {m : ME} {Q} : wps (mAug i f m) ρ S Q ↔ ∃ a, ρ[i]? = some (some (.int a)) ∧ wp (m ρ) S fun d S1 => ∃ b, d = .int b ∧ Q (.nx (ρ.set i (some (.int (f a b))))) S1 := by
  constructor
  · rintro ⟨o, S', e, q⟩
    unfold mAug at e
    split at e
    · rename_i a h
      split at e
      · rename_i b S1 h1; cases e; exact ⟨a, h, _, _, h1, b, rfl, q⟩
      · cases e
    · cases e
  · rintro ⟨a, h, d, S1, h1, b, rfl, q⟩; exact ⟨_, _, by simp only [mAug, h, h1], q⟩
@[simp] theorem wps_setL {mo mi mv : ME} {Q} : wps (mSetL mo mi mv) ρ S Q ↔ wp (mv ρ) S fun v S1 => wp (mo ρ) S1 fun o S2 => wp (mi ρ) S2 fun i S3 => ∃ n k xs j, o = .ref n ∧ i = .int k ∧ S3[n]? = some (.lst xs) ∧ ixN xs.length k = some j ∧ Q (.nx ρ) (S3.set n (.lst (xs.set j v))) := by
  constructor
  · rintro ⟨o, S', e, q⟩
    unfold mSetL at e
    split at e
    · cases e
    · rename_i v S1 h1
      split at e
      · rename_i n S2 h2
        split at e
        · rename_i i S3 h3
          split at e
          · rename_i xs h4
            cases hx : ixN xs.length i with
            | none => simp [hx] at e
            | some j =>
              simp only [hx, Option.map_some, Option.some.injEq, Prod.mk.injEq] at e
              obtain ⟨rfl, rfl⟩ := e
              exact ⟨v, S1, h1, _, S2, h2, _, S3, h3, n, i, xs, j, rfl, rfl, h4, hx, q⟩
          · cases e
        · cases e
      · cases e
  · rintro ⟨v, S1, h1, _, S2, h2, _, S3, h3, n, i, xs, j, rfl, rfl, h4, hx, q⟩
    exact ⟨_, _, by simp [mSetL, h1, h2, h3, h4, hx], q⟩
@[simp] theorem wps_for {g : Tg} {it : MI} {b : MS} {Q} : wps (mFor g it b) ρ S Q ↔ wp (it ρ) S fun p S1 => wps (mForL g p.2 b p.1) ρ S1 Q := by
  constructor
  · rintro ⟨o, S', e, q⟩
    unfold mFor at e
    split at e
    · rename_i xs ok S1 h; exact ⟨_, _, h, o, S', e, q⟩
    · cases e
  · rintro ⟨⟨xs, ok⟩, S1, h, o, S', e, q⟩; exact ⟨o, S', by simp only [mFor, h]; exact e, q⟩
@[simp] theorem wp_mItR1 {m : MA} {Q} : wp (mItR m ρ) S Q ↔ wp (m ρ) S fun ds S1 => (∃ j, ds = [.int j] ∧ okR j = true ∧ Q (rngD 0 j.toNat, fun _ => true) S1) ∨ ∃ i j, ds = [.int i, .int j] ∧ (okR i = true ∧ okR j = true) ∧ Q (rngD i (j - i).toNat, fun _ => true) S1 := by
  constructor
  · rintro ⟨o, S', e, q⟩
    unfold mItR at e
    split at e
    · rename_i j S1 h
      split at e
      · rename_i hk; cases e; exact ⟨_, _, h, .inl ⟨j, rfl, hk, q⟩⟩
      · cases e
    · rename_i i j S1 h
      split at e
      · rename_i hk; cases e; exact ⟨_, _, h, .inr ⟨i, j, rfl, by simpa using hk, q⟩⟩
      · cases e
    · cases e
  · rintro ⟨ds, S1, h, ⟨j, rfl, hk, q⟩ | ⟨i, j, rfl, hk, q⟩⟩
    · exact ⟨_, _, by simp [mItR, h, hk], q⟩
    · exact ⟨_, _, by simp [mItR, h, hk], q⟩
@[simp] theorem wp_mItS {m : ME} {Q} : wp (mItS m ρ) S Q ↔ wp (m ρ) S fun d S1 => ∃ xs, asSq S1 d = some xs ∧ Q (xs, okOf d xs) S1 := by
  constructor
  · rintro ⟨o, S', e, q⟩
    unfold mItS at e
    split at e
    · cases e
    · rename_i d S1 h
      split at e
      · cases e
      · rename_i xs h2; cases e; exact ⟨d, _, h, xs, h2, q⟩
  · rintro ⟨d, S1, h, xs, h2, q⟩; exact ⟨_, _, by simp [mItS, h, h2], q⟩
@[simp] theorem wp_mItE {m : ME} {Q} : wp (mItE m ρ) S Q ↔ wp (m ρ) S fun d S1 => ∃ xs, asSq S1 d = some xs ∧ Q (enumD 0 xs, okOf d xs) S1 := by
  constructor
  · rintro ⟨o, S', e, q⟩
    unfold mItE at e
    split at e
    · cases e
    · rename_i d S1 h
      split at e
      · cases e
      · rename_i xs h2; cases e; exact ⟨d, _, h, xs, h2, q⟩
  · rintro ⟨d, S1, h, xs, h2, q⟩; exact ⟨_, _, by simp [mItE, h, h2], q⟩
@[simp] theorem wp_mBody {N : Nat} {m : MS} {ds : List D} {Q} : wp (mBody N m ds) S Q ↔ wps m (startD N ds) S fun o S1 => ∃ d, outD o = some d ∧ ∃ d' S2, clo S.length d S1 = some (d', S2) ∧ Q d' S2 := by
  constructor
  · rintro ⟨o, S', e, q⟩
    unfold mBody at e
    split at e
    · rename_i o S1 h
      cases hd : outD o with
      | none => simp [hd] at e
      | some d => simp only [hd, Option.bind_some] at e; exact ⟨_, _, h, d, hd, _, _, e, q⟩
    · cases e
  · rintro ⟨o, S1, h, d, hd, d', S2, e, q⟩; exact ⟨_, _, by simp only [mBody, h, hd, Option.bind_some]; exact e, q⟩
@[simp] theorem wp_mOpen {N : Nat} {m : MS} {ds : List D} {Q} : wp (mOpen N m ds) S Q ↔ wps m (startD N ds) S fun o S1 => ∃ d, outD o = some d ∧ Q d S1 := by
  constructor
  · rintro ⟨o, S', e, q⟩
    unfold mOpen at e
    split at e
    · rename_i o S1 h
      cases hd : outD o with
      | none => simp [hd] at e
      | some d =>
        simp only [hd, Option.map_some, Option.some.injEq, Prod.mk.injEq] at e
        obtain ⟨rfl, rfl⟩ := e
        exact ⟨_, _, h, d, hd, q⟩
    · cases e
  · rintro ⟨o, S1, h, d, hd, q⟩; exact ⟨_, _, by simp only [mOpen, h, hd, Option.map_some], q⟩
@[simp] theorem wp_mLc {vs : List Nat} {g : Tg} {it : MI} {t : MT} {e : ME} {Q} : wp (mLc vs g it t e ρ) S Q ↔ wp (it ρ) S fun p S1 => wp (mLcL vs g p.2 t e ρ p.1) S1 fun ys S2 => ys.length ≤ lim ∧ Q ys S2 := by
  constructor
  · rintro ⟨o, S', h, q⟩
    unfold mLc at h
    split at h
    · rename_i xs ok S1 h1
      split at h
      · rename_i ys S2 h2
        split at h
        · rename_i hz; cases h; exact ⟨_, _, h1, _, _, h2, hz, q⟩
        · cases h
      · cases h
    · cases h
  · rintro ⟨⟨xs, ok⟩, S1, h1, ys, S2, h2, hz, q⟩
    exact ⟨ys, S2, by simp only [mLc, h1]; simp only at h2; rw [h2]; simp [hz], q⟩
end
end Z
set_option Elab.async false
set_option linter.all false
set_option maxRecDepth 100000
/-! Operators, built-ins, loops, calls: what they come to on plain data. -/
namespace Z
open PySem L2

section
variable {S : Store} {ρ : Env}
theorem wp_optS {α β : Type} {o : Option β} {f : β → α × Store} {Q : α → Store → Prop} {m : M α} (h : m S = o.map f) : wp m S Q ↔ ∃ b, o = some b ∧ Q (f b).1 (f b).2 := by
  constructor
  · rintro ⟨a, S', e, q⟩
    rw [h] at e
    cases o with
    | none => cases e
    | some b => have e : f b = (a, S') := by simpa using e
                exact ⟨b, rfl, by rw [e]; exact q⟩
  · rintro ⟨b, rfl, q⟩; exact ⟨_, _, by rw [h]; rfl, q⟩
theorem wp_guard {α : Type} {c : Prop} [Decidable c] {m : M α} {a : α} {Q : α → Store → Prop} (h : m S = if c then some (a, S) else none) : wp m S Q ↔ c ∧ Q a S := by
  constructor
  · rintro ⟨b, S', e, q⟩
    rw [h] at e
    split at e
    · rename_i hc; cases e; exact ⟨hc, q⟩
    · cases e
  · rintro ⟨hc, q⟩; exact ⟨_, _, by rw [h, if_pos hc], q⟩
@[simp] theorem wp_dI {C : Int → Int → Bool} {g : Int → Int → D} {i j : Int} {Q} : wp (dI C g (.int i) (.int j)) S Q ↔ C i j = true ∧ Q (g i j) S := by
  unfold dI
  rw [wp_ite]
  split <;> rename_i h <;> simp [h]
@[simp] theorem wp_dAddI {i j : Int} {Q} : wp (dAdd (.int i) (.int j)) S Q ↔ Q (.int (i + j)) S := ⟨fun ⟨a, S', e, q⟩ => by cases e; exact q, fun q => ⟨_, _, rfl, q⟩⟩
@[simp] theorem wp_dAddT {xs ys : List D} {Q} : wp (dAdd (.tup xs) (.tup ys)) S Q ↔ xs.length + ys.length ≤ lim ∧ Q (.tup (xs ++ ys)) S := by
  have h : dAdd (.tup xs) (.tup ys) S = if xs.length + ys.length ≤ lim then some (.tup (xs ++ ys), S) else none := by
    unfold dAdd dCatT
    by_cases hc : xs.length + ys.length ≤ lim <;> simp [dI, fail, hc, ret, dCatL, asL]
  exact wp_guard h
theorem wp_dAddL {d e : D} {xs ys : List D} (hd : asL S d = some xs) (he : asL S e = some ys) {Q} (hl : xs.length + ys.length ≤ lim) (q : Q (.lst (xs ++ ys)) S) : wp (dAdd d e) S Q := by
  refine ⟨_, _, ?_, q⟩
  unfold dAdd dCatT dCatL
  cases d <;> simp [asL] at hd <;> cases e <;> simp [asL] at he <;> simp_all [dI, fail, ret, asL]
@[simp] theorem wp_dMulI {i j : Int} {Q} : wp (dMul (.int i) (.int j)) S Q ↔ ((-(2 ^ 64) < i ∧ i < 2 ^ 64) ∨ (-(2 ^ 64) < j ∧ j < 2 ^ 64)) ∧ Q (.int (i * j)) S := by
  refine wp_guard ?_
  unfold dMul dMulI dRepT dRepL dI
  simp only [Bool.or_eq_true, decide_eq_true_eq]
  split <;> simp_all [fail, ret, asL]
theorem wp_dMulL {d : D} {k : Int} {xs : List D} (hd : asL S d = some xs) {Q} (hk : -1000 ≤ k ∧ k ≤ 1000) (hl : xs.length * k.toNat ≤ lim) (q : Q (.lst (List.replicate k.toNat xs).flatten) S) : wp (dMul d (.int k)) S Q := by
  refine ⟨_, _, ?_, q⟩
  unfold dMul dRepT dRepL
  cases d <;> simp [asL] at hd <;> simp_all [dI, fail, ret, asL]
@[simp] theorem wp_dIx {d : D} {i : Int} {Q} : wp (dIx d (.int i)) S Q ↔ ∃ xs, asSq S d = some xs ∧ ∃ x, atI xs i = some x ∧ Q x S := by
  constructor
  · rintro ⟨a, S', e, q⟩
    unfold dIx at e
    split at e
    · rename_i xs j h1 h2
      cases h2
      cases hx : atI xs i with
      | none => rw [hx] at e; cases e
      | some x => rw [hx] at e; cases e; exact ⟨xs, h1, _, hx, q⟩
    · cases e
  · rintro ⟨xs, h1, x, h2, q⟩; exact ⟨x, S, by simp [dIx, h1, h2], q⟩
@[simp] theorem asL_lst {xs ys : List D} : asL S (.lst xs) = some ys ↔ xs = ys := by simp [asL]
@[simp] theorem asL_ref {n : Nat} {ys : List D} : asL S (.ref n) = some ys ↔ S[n]? = some (.lst ys) := by
  unfold asL
  constructor
  · intro h
    dsimp only at h
    split at h
    · rename_i xs hs; cases h; exact hs
    · cases h
  · intro h; simp [h]
@[simp] theorem asSq_tup {xs ys : List D} : asSq S (.tup xs) = some ys ↔ xs = ys := by simp [asSq]
@[simp] theorem asSq_lst {xs ys : List D} : asSq S (.lst xs) = some ys ↔ xs = ys := by simp [asSq]
@[simp] theorem asSq_scr {xs : List Int} {ys : List D} : asSq S (.scr xs) = some ys ↔ xs.map .int = ys := by simp [asSq]
@[simp] theorem asSq_tpi {xs : List Int} {ys : List D} : asSq S (.tpi xs) = some ys ↔ xs.map .int = ys := by simp [asSq]
@[simp] theorem asSq_ref {n : Nat} {ys : List D} : asSq S (.ref n) = some ys ↔ S[n]? = some (.lst ys) := by
  show asL S (.ref n) = some ys ↔ _
  exact asL_ref
@[simp] theorem asLC_lst {xs ys : List D} : asLC S (.lst xs) = some ys ↔ xs = ys := by simp [asLC]
@[simp] theorem asLC_scr {xs : List Int} {ys : List D} : asLC S (.scr xs) = some ys ↔ xs.map .int = ys := by simp [asLC]
@[simp] theorem asLC_ref {n : Nat} {ys : List D} : asLC S (.ref n) = some ys ↔ S[n]? = some (.lst ys) := by
  show asL S (.ref n) = some ys ↔ _
  exact asL_ref
@[simp] theorem asLC_refS {n : Nat} : (asLC S (.ref n)).isSome = true ↔ ∃ ys, S[n]? = some (.lst ys) := by
  constructor
  · intro h
    obtain ⟨ys, hy⟩ := Option.isSome_iff_exists.mp h
    exact ⟨ys, asLC_ref.mp hy⟩
  · rintro ⟨ys, h⟩; rw [asLC_ref.mpr h]; rfl
@[simp] theorem okOf_ref {n : Nat} {xs : List D} : okOf (.ref n) xs S = true ↔ S[n]? = some (.lst xs) := by
  simp only [okOf]
  constructor
  · intro h
    split at h
    · rename_i ys hs
      rw [hs, deqs_eq h]
    · cases h
  · intro h
    rw [h]
    exact deqs_refl _
@[simp] theorem okOf_tup {xs ys : List D} : okOf (.tup ys) xs S = true := rfl
@[simp] theorem okOf_lst {xs ys : List D} : okOf (.lst ys) xs S = true := rfl
@[simp] theorem okOf_tpi {xs : List D} {ys : List Int} : okOf (.tpi ys) xs S = true := rfl
@[simp] theorem okOf_scr {xs : List D} {ys : List Int} : okOf (.scr ys) xs S = true := rfl
theorem atI_nat {α : Type} {xs : List α} {n : Nat} : atI xs (n : Int) = xs[n]? := by
  unfold atI ixN
  by_cases h : n < xs.length
  · simp [h]
  · simp [h]
theorem atI_nn {α : Type} {xs : List α} {i : Int} (h : 0 ≤ i) : atI xs i = xs[i.toNat]? := by
  obtain ⟨n, rfl⟩ := Int.eq_ofNat_of_zero_le h
  exact atI_nat
@[simp] theorem atI_0 {α : Type} {xs : List α} : atI xs 0 = xs[0]? := atI_nat (n := 0)
@[simp] theorem atI_1 {α : Type} {xs : List α} : atI xs 1 = xs[1]? := atI_nat (n := 1)
@[simp] theorem atI_2 {α : Type} {xs : List α} : atI xs 2 = xs[2]? := atI_nat (n := 2)
@[simp] theorem atI_3 {α : Type} {xs : List α} : atI xs 3 = xs[3]? := atI_nat (n := 3)
@[simp] theorem atI_4 {α : Type} {xs : List α} : atI xs 4 = xs[4]? := atI_nat (n := 4)
@[simp] theorem atI_5 {α : Type} {xs : List α} : atI xs 5 = xs[5]? := atI_nat (n := 5)
@[simp] theorem ixN_0 {n : Nat} : ixN (n + 1) 0 = some 0 := by unfold ixN; rw [if_pos (by omega), if_pos (by omega)]; rfl
@[simp] theorem ixN_1 {n : Nat} : ixN (n + 2) 1 = some 1 := by unfold ixN; rw [if_pos (by omega), if_pos (by omega)]; rfl
@[simp] theorem ixN_2 {n : Nat} : ixN (n + 3) 2 = some 2 := by unfold ixN; rw [if_pos (by omega), if_pos (by omega)]; rfl
@[simp] theorem ixN_3 {n : Nat} : ixN (n + 4) 3 = some 3 := by unfold ixN; rw [if_pos (by omega), if_pos (by omega)]; rfl
theorem ixN_nn {n : Nat} {i : Int} (h : 0 ≤ i) (h2 : i < n) : ixN n i = some i.toNat := by unfold ixN; rw [if_pos h, if_pos h2]
@[simp] theorem wp_cLen {d : D} {Q} : wp (cLen [d]) S Q ↔ ∃ xs, asSq S d = some xs ∧ Q (.int xs.length) S := wp_optS (f := fun xs : List D => (D.int xs.length, S)) rfl
@[simp] theorem wp_c1I {f : Int → Int} {i : Int} {Q} : wp (c1I f [.int i]) S Q ↔ Q (.int (f i)) S := by unfold c1I; simp
@[simp] theorem wp_c2I {f : Int → Int → Int} {i j : Int} {Q} : wp (c2I f [.int i, .int j]) S Q ↔ Q (.int (f i j)) S := by unfold c2I; simp
@[simp] theorem wp_cInt {i : Int} {Q} : wp (cInt [.int i]) S Q ↔ Q (.int i) S := by unfold cInt; simp
@[simp] theorem wp_cIntB {b : Bool} {Q} : wp (cInt [.bl b]) S Q ↔ Q (.int (if b then 1 else 0)) S := by unfold cInt; simp
@[simp] theorem wp_cList {d : D} {Q} : wp (cList [d]) S Q ↔ ∃ xs, asSq S d = some xs ∧ Q xs S := wp_optS (f := fun xs : List D => (xs, S)) rfl
@[simp] theorem wp_cTuple {xs : List D} {Q} : wp (cTuple [.lst xs]) S Q ↔ Q (.tup xs) S := ⟨fun ⟨a, S', e, q⟩ => by cases e; exact q, fun q => ⟨_, _, rfl, q⟩⟩
@[simp] theorem wp_cTupleR {n : Nat} {Q} : wp (cTuple [.ref n]) S Q ↔ ∃ xs, S[n]? = some (.lst xs) ∧ Q (.tup xs) S := by
  have : cTuple [.ref n] S = (asLC S (.ref n)).map fun xs => (.tup xs, S) := rfl
  rw [wp_optS this]
  simp
@[simp] theorem wp_cSum {d : D} {f : List Int → Option Int} {Q} : wp (cInts f [d]) S Q ↔ ∃ xs, asLC S d = some xs ∧ ∃ ns, intsOf xs = some ns ∧ ∃ i, f ns = some i ∧ Q (.int i) S := by
  have : cInts f [d] S = (((asLC S d).bind intsOf).bind f).map fun i => (.int i, S) := by
    unfold cInts
    dsimp only
    cases asLC S d with
    | none => rfl
    | some xs => cases h : intsOf xs <;> simp [h]
  rw [wp_optS this]
  simp [Option.bind_eq_some_iff]
  constructor
  · rintro ⟨i, ⟨a, ⟨xs, h1, h2⟩, h3⟩, q⟩; exact ⟨xs, h1, a, h2, i, h3, q⟩
  · rintro ⟨xs, h1, a, h2, i, h3, q⟩; exact ⟨i, ⟨a, ⟨xs, h1, h2⟩, h3⟩, q⟩
@[simp] theorem wp_cBls {d : D} {f : List Bool → Bool} {Q} : wp (cBls f [d]) S Q ↔ ∃ xs, asLC S d = some xs ∧ ∃ ns, blsOf xs = some ns ∧ Q (.bl (f ns)) S := by
  have : cBls f [d] S = ((asLC S d).bind blsOf).map fun i => (.bl (f i), S) := by
    unfold cBls
    dsimp only
    cases asLC S d with
    | none => rfl
    | some xs => cases h : blsOf xs <;> simp [h]
  rw [wp_optS this]
  simp [Option.bind_eq_some_iff]
  constructor
  · rintro ⟨i, ⟨xs, h1, h2⟩, q⟩; exact ⟨xs, h1, i, h2, q⟩
  · rintro ⟨xs, h1, i, h2, q⟩; exact ⟨i, ⟨xs, h1, h2⟩, q⟩
@[simp] theorem wp_cSortI {d : D} {Q} : wp (cSortI [d]) S Q ↔ ∃ xs, asLC S d = some xs ∧ ∃ ns, intsOf xs = some ns ∧ Q ((srtI ns).map .int) S := by
  have : cSortI [d] S = ((asLC S d).bind intsOf).map fun i => ((srtI i).map .int, S) := by
    unfold cSortI
    dsimp only
    cases asLC S d with
    | none => rfl
    | some xs => cases h : intsOf xs <;> simp [h]
  rw [wp_optS this]
  simp [Option.bind_eq_some_iff]
  constructor
  · rintro ⟨i, ⟨xs, h1, h2⟩, q⟩; exact ⟨xs, h1, i, h2, q⟩
  · rintro ⟨xs, h1, i, h2, q⟩; exact ⟨i, ⟨xs, h1, h2⟩, q⟩
@[simp] theorem wp_cSortQ {d : D} {Q} : wp (cSortQ [d]) S Q ↔ ∃ xs, asSq S d = some xs ∧ ∃ ns, intsOf xs = some ns ∧ Q ((srtI ns).map .int) S := by
  rw [wp_optS (o := (asSq S d).bind intsOf) (f := fun ns => ((srtI ns).map .int, S)) rfl]
  simp [Option.bind_eq_some_iff]
  constructor
  · rintro ⟨i, ⟨xs, h1, h2⟩, q⟩; exact ⟨xs, h1, i, h2, q⟩
  · rintro ⟨xs, h1, i, h2, q⟩; exact ⟨i, ⟨xs, h1, h2⟩, q⟩
@[simp] theorem intsOf_m {ns ms : List Int} : intsOf (ns.map .int) = some ms ↔ ns = ms := by rw [intsOf_map]; simp
@[simp] theorem intsOf_f {α : Type} {f : α → Int} {as : List α} {ms : List Int} : intsOf (as.map fun a => .int (f a)) = some ms ↔ as.map f = ms := by
  rw [show (as.map fun a => D.int (f a)) = (as.map f).map .int by simp, intsOf_m]
@[simp] theorem blsOf_f {α : Type} {f : α → Bool} {as : List α} {ms : List Bool} : blsOf (as.map fun a => .bl (f a)) = some ms ↔ as.map f = ms := by
  rw [show (as.map fun a => D.bl (f a)) = (as.map f).map .bl by simp, blsOf_map]; simp
@[simp] theorem blsOf_m {ns ms : List Bool} : blsOf (ns.map .bl) = some ms ↔ ns = ms := by rw [blsOf_map]; simp
@[simp] theorem wp_lApp {n : Nat} {d : D} {Q} : wp (lApp (.ref n) [d]) S Q ↔ ∃ xs, S[n]? = some (.lst xs) ∧ xs.length < lim ∧ Q .non (S.set n (.lst (xs ++ [d]))) := by
  constructor
  · rintro ⟨a, S', e, q⟩
    unfold lApp at e
    dsimp only at e
    split at e
    · rename_i xs hs
      split at e
      · rename_i hl; cases e; exact ⟨xs, hs, hl, q⟩
      · cases e
    · cases e
  · rintro ⟨xs, hs, hl, q⟩; exact ⟨_, _, by simp only [lApp, hs, if_pos hl], q⟩
end

/-! ### data that is compared -/
/-- plain data of depth at most k -/
def fit : Nat → D → Bool
  | 0, .tup _ | 0, .lst _ => false
  | _, .ref _ => false
  | _, .scr _ => false
  | _, .tpi _ => false
  | _, .dcf _ => false
  | _, .tpx _ => false
  | _, .str x => PyData.strOk x
  | k + 1, .tup xs => xs.all (fit k)
  | k + 1, .lst xs => xs.all (fit k)
  | _, _ => true
@[simp] theorem fit_int {k : Nat} {i : Int} : fit k (.int i) = true := by cases k <;> rfl
@[simp] theorem fit_bl {k : Nat} {i : Bool} : fit k (.bl i) = true := by cases k <;> rfl
@[simp] theorem fit_non {k : Nat} : fit k .non = true := by cases k <;> rfl
@[simp] theorem fit_str {k : Nat} {x : Str} : fit k (.str x) = PyData.strOk x := by cases k <;> rfl
@[simp] theorem fit_tup {k : Nat} {xs : List D} : fit (k + 1) (.tup xs) = xs.all (fit k) := by simp [fit]
@[simp] theorem fit_lst {k : Nat} {xs : List D} : fit (k + 1) (.lst xs) = xs.all (fit k) := by simp [fit]
@[simp] theorem fit_ref {k n : Nat} : fit k (.ref n) = false := by cases k <;> rfl
theorem toPs_map : ∀ xs : List D, toPs xs = xs.map toP
  | [] => rfl
  | x :: xs => by simp [toPs, toPs_map xs]
theorem fit_ok : ∀ (k : Nat) (d : D), fit k d = true → nr d = true ∧ (toP d).canLay0 = true ∧ (toP d).depth ≤ k
  | k, .non, _ => ⟨rfl, rfl, by simp [toP, PyData.depth]⟩
  | k, .bl _, _ => ⟨rfl, rfl, by simp [toP, PyData.depth]⟩
  | k, .int _, _ => ⟨rfl, rfl, by simp [toP, PyData.depth]⟩
  | k, .str _, h => ⟨rfl, by rw [fit_str] at h; simpa [toP, PyData.canLay0] using h, by simp [toP, PyData.depth]⟩
  | 0, .tup _, h => by simp [fit] at h
  | 0, .lst _, h => by simp [fit] at h
  | k, .ref _, h => by simp at h
  | k, .scr _, h => by cases k <;> simp [fit] at h
  | k, .tpi _, h => by cases k <;> simp [fit] at h
  | k, .dcf _, h => by cases k <;> simp [fit] at h
  | k, .tpx _, h => by cases k <;> simp [fit] at h
  | k + 1, .tup xs, h => by
    have := fits_ok k xs (by simpa using h)
    exact ⟨by simpa [nr] using this.1, by simpa [toP, PyData.canLay0] using this.2.1, by simp only [toP, PyData.depth]; omega⟩
  | k + 1, .lst xs, h => by
    have := fits_ok k xs (by simpa using h)
    exact ⟨by simpa [nr] using this.1, by simpa [toP, PyData.canLay0] using this.2.1, by simp only [toP, PyData.depth]; omega⟩
where
  fits_ok (k : Nat) : ∀ xs : List D, (∀ x ∈ xs, fit k x = true) → nrs xs = true ∧ PyData.canLayAll0 (toPs xs) = true ∧ PyData.depthAll (toPs xs) ≤ k
    | [], _ => ⟨rfl, rfl, by simp [toPs, PyData.depthAll]⟩
    | x :: xs, h => by
      have h1 := fit_ok k x (h x List.mem_cons_self)
      have h2 := fits_ok k xs fun y hy => h y (List.mem_cons_of_mem _ hy)
      refine ⟨by simp [nrs, h1.1, h2.1], by simp [toPs, PyData.canLayAll0, h1.2.1, h2.2.1], ?_⟩
      simp only [toPs, PyData.depthAll]
      omega
theorem eqv_refl : ∀ (k : Nat) (d : D), fit k d = true → PyData.eqv (toP d) (toP d) = true
  | k, .non, _ => rfl
  | k, .bl _, _ => by simp [toP, PyData.eqv]
  | k, .int _, _ => by simp [toP, PyData.eqv]
  | k, .str _, h => by simp [toP, PyData.eqv]
  | 0, .tup _, h => by simp [fit] at h
  | 0, .lst _, h => by simp [fit] at h
  | k, .ref _, h => by simp at h
  | k, .scr _, h => by cases k <;> simp [fit] at h
  | k, .tpi _, h => by cases k <;> simp [fit] at h
  | k, .dcf _, h => by cases k <;> simp [fit] at h
  | k, .tpx _, h => by cases k <;> simp [fit] at h
  | k + 1, .tup xs, h => by
    simp only [toP, PyData.eqv]
    exact eqvs_refl k xs (by simpa using h)
  | k + 1, .lst xs, h => by
    simp only [toP, PyData.eqv]
    exact eqvs_refl k xs (by simpa using h)
where
  eqvs_refl (k : Nat) : ∀ xs : List D, (∀ x ∈ xs, fit k x = true) → PyData.eqvAll (toPs xs) (toPs xs) = true
    | [], _ => rfl
    | x :: xs, h => by simp [toPs, PyData.eqvAll, eqv_refl k x (h x List.mem_cons_self), eqvs_refl k xs fun y hy => h y (List.mem_cons_of_mem _ hy)]
theorem nr_fit {k : Nat} {d : D} (h : fit k d = true) : nr d = true := (fit_ok k d h).1
theorem shaped_fit {d : D} (h : fit 60 d = true) : SeqAt.shaped (toP d) = true := by
  obtain ⟨_, h1, h2⟩ := fit_ok _ d h
  unfold SeqAt.shaped
  rw [h1]
  simp only [Bool.true_and, decide_eq_true_eq]
  omega
theorem fit_up : ∀ (k m : Nat) (d : D), k ≤ m → fit k d = true → fit m d = true
  | k, m, .non, _, _ => by simp
  | k, m, .bl _, _, _ => by simp
  | k, m, .int _, _, _ => by simp
  | k, m, .str _, _, h => by simpa using h
  | 0, m, .tup _, _, h => by simp [fit] at h
  | 0, m, .lst _, _, h => by simp [fit] at h
  | k, m, .ref _, _, h => by simp at h
  | k, m, .scr _, _, h => by cases k <;> simp [fit] at h
  | k, m, .tpi _, _, h => by cases k <;> simp [fit] at h
  | k, m, .dcf _, _, h => by cases k <;> simp [fit] at h
  | k, m, .tpx _, _, h => by cases k <;> simp [fit] at h
  | k + 1, 0, .tup xs, h0, h => by omega
  | k + 1, 0, .lst xs, h0, h => by omega
  | k + 1, m + 1, .tup xs, h0, h => by
    simp only [fit_tup, List.all_eq_true] at h ⊢
    exact fun x hx => fit_up k m x (by omega) (h x hx)
  | k + 1, m + 1, .lst xs, h0, h => by
    simp only [fit_lst, List.all_eq_true] at h ⊢
    exact fun x hx => fit_up k m x (by omega) (h x hx)
/-- what is to be seen of a thing, references looked through -/
def See (S : Store) (d v : D) : Prop := rs S 4 d = v
theorem eqD_see {S : Store} {d e v w : D} (h1 : rs S 4 d = v) (h2 : rs S 4 e = w) (f1 : fit 60 v = true) (f2 : fit 60 w = true) : eqD S d e = some (PyData.eqv (toP v) (toP w)) := by
  unfold eqD
  simp only [h1, h2, nr_fit f1, nr_fit f2, shaped_fit f1, shaped_fit f2, Bool.and_self, if_true]
theorem eqD_same {S : Store} {d e v : D} (h1 : rs S 4 d = v) (h2 : rs S 4 e = v) (f1 : fit 60 v = true) : eqD S d e = some true := by rw [eqD_see h1 h2 f1 f1, eqv_refl 60 v f1]
theorem rs_fit {S : Store} {k m : Nat} {d : D} (h : fit m d = true) : rs S k d = d := rs_nr S k (nr_fit h)
theorem rs_ref {S : Store} {k n : Nat} {xs : List D} (h : S[n]? = some (.lst xs)) : rs S (k + 1) (.ref n) = .lst (xs.map (rs S k)) := by
  show rsF (rsG S (rs S k)) (.ref n) = _
  simp [rsF, rsG, h]
theorem rs_tup {S : Store} {k : Nat} {xs : List D} : rs S k (.tup xs) = .tup (xs.map (rs S k)) := by
  cases k with
  | zero => simp [rs]
  | succ k =>
    show rsF (rsG S (rs S k)) (.tup xs) = _
    unfold rsF
    congr 1
    induction xs with
    | nil => rfl
    | cons x xs ih => simp [rsFs, ih]; rfl
theorem rs_lst {S : Store} {k : Nat} {xs : List D} : rs S k (.lst xs) = .lst (xs.map (rs S k)) := by
  cases k with
  | zero => simp [rs]
  | succ k =>
    show rsF (rsG S (rs S k)) (.lst xs) = _
    unfold rsF
    congr 1
    induction xs with
    | nil => rfl
    | cons x xs ih => simp [rsFs, ih]; rfl
section
variable {S : Store}
theorem wp_dEq {d e : D} {b : Bool} (h : eqD S d e = some b) {Q} (q : Q (.bl b) S) : wp (dEq d e) S Q := ⟨_, _, by unfold dEq; rw [h]; rfl, q⟩
theorem wp_dNe {d e : D} {b : Bool} (h : eqD S d e = some b) {Q} (q : Q (.bl (!b)) S) : wp (dNe d e) S Q := ⟨_, _, by unfold dNe; rw [h]; rfl, q⟩
theorem eqD_int {i j : Int} : eqD S (.int i) (.int j) = some (i == j) := by
  rw [eqD_see (rs_fit (m := 0) rfl) (rs_fit (m := 0) rfl) rfl rfl]
  simp [toP, PyData.eqv]
@[simp] theorem wp_dEqI {i j : Int} {Q} : wp (dEq (.int i) (.int j)) S Q ↔ Q (.bl (i == j)) S := by
  rw [wp_optS (o := eqD S (.int i) (.int j)) (f := fun b => (.bl b, S)) rfl]
  simp [eqD_int]
@[simp] theorem wp_dNeI {i j : Int} {Q} : wp (dNe (.int i) (.int j)) S Q ↔ Q (.bl (!(i == j))) S := by
  rw [wp_optS (o := eqD S (.int i) (.int j)) (f := fun b => (.bl (!b), S)) rfl]
  simp [eqD_int]
theorem eqD_str {i j : Str} (hi : PyData.strOk i = true) (hj : PyData.strOk j = true) : eqD S (.str i) (.str j) = some (i == j) := by
  rw [eqD_see (rs_fit (m := 0) (by simpa using hi)) (rs_fit (m := 0) (by simpa using hj)) (by simpa using hi) (by simpa using hj)]
  simp [toP, PyData.eqv]
theorem wp_dEqS {i j : Str} (hi : PyData.strOk i = true) (hj : PyData.strOk j = true) {Q} : wp (dEq (.str i) (.str j)) S Q ↔ Q (.bl (i == j)) S := by
  rw [wp_optS (o := eqD S (.str i) (.str j)) (f := fun b => (.bl b, S)) rfl]
  simp [eqD_str hi hj]
end

@[simp] theorem wipeD_nil {ρ : Env} : wipeD ρ [] = ρ := by simp [wipeD]
@[simp] theorem wipeD_cons {ρ : Env} {v : Nat} {vs : List Nat} : wipeD ρ (v :: vs) = (wipeD ρ vs).set v none := by simp [wipeD]
@[simp] theorem put_nm {i : Nat} {d : D} {ρ ρ' : Env} : (Tg.nm i).put d ρ = some ρ' ↔ ρ.set i (some d) = ρ' := by simp [Tg.put]
@[simp] theorem put_tp {is : List Nat} {ds : List D} {ρ : Env} : (Tg.tp is).put (.tup ds) ρ = setAll is ds ρ := by simp [Tg.put]
@[simp] theorem setAll_nil {ρ : Env} : setAll [] [] ρ = some ρ := by simp [setAll]
@[simp] theorem setAll_cons {ρ : Env} {i : Nat} {is : List Nat} {d : D} {ds : List D} : setAll (i :: is) (d :: ds) ρ = setAll is ds (ρ.set i (some d)) := by simp [setAll]
theorem startD_eq {N : Nat} {ds : List D} : startD N ds = ds.map some ++ List.replicate (N - ds.length) none := rfl
/-! ### loops -/
theorem forL_idx {g : Tg} {ok : Store → Bool} {b : MS} {Q : Out → Store → Prop} (I : Nat → Env → Store → Prop) {xs : List D} {ρ : Env} {S : Store} (h0 : I 0 ρ S)
    (hs : ∀ i d ρ S, xs[i]? = some d → I i ρ S → ok S = true ∧ ∃ ρ', g.put d ρ = some ρ' ∧ wps b ρ' S fun o S' => match o with
      | .nx ρ2 => I (i + 1) ρ2 S'
      | .ct ρ2 => I (i + 1) ρ2 S'
      | .bk ρ2 => Q (.nx ρ2) S'
      | .rt d => Q (.rt d) S'
      | .ex c => Q (.ex c) S')
    (hn : ∀ ρ S, I xs.length ρ S → ok S = true ∧ Q (.nx ρ) S) : wps (mForL g ok b xs) ρ S Q := by
  suffices h : ∀ (ys : List D) (i : Nat) (ρ : Env) (S : Store), ys = xs.drop i → i ≤ xs.length → I i ρ S → wps (mForL g ok b ys) ρ S Q from h xs 0 ρ S rfl (Nat.zero_le _) h0
  intro ys
  induction ys with
  | nil =>
    intro i ρ S he hl hI
    have : i = xs.length := by
      have := congrArg List.length he
      simp at this
      omega
    subst this
    obtain ⟨ho, q⟩ := hn ρ S hI
    exact ⟨_, _, by simp [mForL, ho], q⟩
  | cons y ys ih =>
    intro i ρ S he hl hI
    have hi : i < xs.length := by
      have := congrArg List.length he
      simp at this
      omega
    rw [List.drop_eq_getElem_cons hi] at he
    obtain ⟨rfl, he2⟩ := List.cons.inj he
    obtain ⟨ho, ρ', hp, o, S', hb, q⟩ := hs i xs[i] ρ S (by simp [hi]) hI
    cases o with
    | nx ρ2 => obtain ⟨o, S3, e, q⟩ := ih (i + 1) ρ2 S' he2 hi q; exact ⟨o, S3, by unfold mForL; simp only [ho, if_true, hp, hb]; exact e, q⟩
    | ct ρ2 => obtain ⟨o, S3, e, q⟩ := ih (i + 1) ρ2 S' he2 hi q; exact ⟨o, S3, by unfold mForL; simp only [ho, if_true, hp, hb]; exact e, q⟩
    | bk ρ2 => exact ⟨_, S', by unfold mForL; simp only [ho, if_true, hp, hb], q⟩
    | rt d => exact ⟨_, S', by unfold mForL; simp only [ho, if_true, hp, hb], q⟩
    | ex c => exact ⟨_, S', by unfold mForL; simp only [ho, if_true, hp, hb], q⟩
theorem lcL_idx {vs : List Nat} {g : Tg} {ok : Store → Bool} {t : MT} {e : ME} {ρ : Env} {Q : List D → Store → Prop} (I : Nat → List D → Store → Prop) {xs : List D} {S : Store} (h0 : I 0 [] S)
    (hs : ∀ i d ys S, xs[i]? = some d → I i ys S → ok S = true ∧ ∃ ρ', g.put d (wipeD ρ vs) = some ρ' ∧ wp (t ρ') S fun b S1 => if b = true then wp (e ρ') S1 fun y S2 => I (i + 1) (ys ++ [y]) S2 else I (i + 1) ys S1)
    (hn : ∀ ys S, I xs.length ys S → ok S = true ∧ Q ys S) : wp (mLcL vs g ok t e ρ xs) S Q := by
  suffices h : ∀ (zs : List D) (i : Nat) (pre : List D) (S : Store), zs = xs.drop i → i ≤ xs.length → I i pre S → wp (mLcL vs g ok t e ρ zs) S fun ys S' => Q (pre ++ ys) S' by
    have := h xs 0 [] S rfl (Nat.zero_le _) h0
    simpa using this
  intro zs
  induction zs with
  | nil =>
    intro i pre S he hl hI
    have : i = xs.length := by
      have := congrArg List.length he
      simp at this
      omega
    subst this
    obtain ⟨ho, q⟩ := hn pre S hI
    exact ⟨[], S, by simp [mLcL, ho], by simpa using q⟩
  | cons y zs ih =>
    intro i pre S he hl hI
    have hi : i < xs.length := by
      have := congrArg List.length he
      simp at this
      omega
    rw [List.drop_eq_getElem_cons hi] at he
    obtain ⟨rfl, he2⟩ := List.cons.inj he
    obtain ⟨ho, ρ', hp, b, S1, hb, q⟩ := hs i xs[i] pre S (by simp [hi]) hI
    cases b with
    | false =>
      obtain ⟨ys, S2, e2, q2⟩ := ih (i + 1) pre S1 he2 hi (by simpa using q)
      exact ⟨ys, S2, by unfold mLcL; simp [ho, hp, hb, e2], q2⟩
    | true =>
      obtain ⟨z, S2, e2, q2⟩ := (by simpa using q : wp (e ρ') S1 fun y S2 => I (i + 1) (pre ++ [y]) S2)
      obtain ⟨ys, S3, e3, q3⟩ := ih (i + 1) _ S2 he2 hi q2
      exact ⟨z :: ys, S3, by unfold mLcL; simp [ho, hp, hb, e2, e3], by simpa using q3⟩
theorem rngD0 (n : Nat) : rngD 0 n = (List.range n).map fun i => .int (i : Nat) := by simp [rngD]
theorem forL_map {α : Type} {g : Tg} {ok : Store → Bool} {b : MS} {Q : Out → Store → Prop} (I : Nat → Env → Store → Prop) (c : α → D) (as : List α) {ρ : Env} {S : Store} (h0 : I 0 ρ S)
    (hs : ∀ i a ρ S, as[i]? = some a → I i ρ S → ok S = true ∧ (∃ ρ', g.put (c a) ρ = some ρ' ∧ wps b ρ' S fun o S' => match o with
      | .nx ρ2 => I (i + 1) ρ2 S'
      | .ct ρ2 => I (i + 1) ρ2 S'
      | .bk ρ2 => Q (.nx ρ2) S'
      | .rt d => Q (.rt d) S'
      | .ex c => Q (.ex c) S'))
    (hn : ∀ ρ S, I as.length ρ S → ok S = true ∧ Q (.nx ρ) S) : wps (mForL g ok b (as.map c)) ρ S Q :=
  forL_idx I h0 (fun i d ρ S hd hI => by
    rw [List.getElem?_map] at hd
    obtain ⟨a, ha, rfl⟩ := Option.map_eq_some_iff.mp hd
    exact hs i a ρ S ha hI) (by simpa using hn)
theorem forL_rng {n : Nat} {g : Tg} {b : MS} {Q : Out → Store → Prop} (I : Nat → Env → Store → Prop) {ρ : Env} {S : Store} (h0 : I 0 ρ S)
    (hs : ∀ (i : Nat) ρ S, i < n → I i ρ S → (∃ ρ', g.put (.int (i : Nat)) ρ = some ρ' ∧ wps b ρ' S fun o S' => match o with
      | .nx ρ2 => I (i + 1) ρ2 S'
      | .ct ρ2 => I (i + 1) ρ2 S'
      | .bk ρ2 => Q (.nx ρ2) S'
      | .rt d => Q (.rt d) S'
      | .ex c => Q (.ex c) S'))
    (hn : ∀ ρ S, I n ρ S → Q (.nx ρ) S) : wps (mForL g (fun _ => true) b (rngD 0 n)) ρ S Q := by
  rw [rngD0]
  exact forL_map I _ _ h0 (fun i a ρ S ha hI => by
    obtain ⟨h1, h2⟩ := List.getElem?_eq_some_iff.mp ha
    simp at h1 h2
    subst h2
    exact ⟨rfl, hs i ρ S h1 hI⟩) (fun ρ S hI => ⟨rfl, hn ρ S (by simpa using hI)⟩)
theorem lcL_map {α : Type} {vs : List Nat} {g : Tg} {ok : Store → Bool} {t : MT} {e : ME} {ρ : Env} {Q : List D → Store → Prop} (I : Nat → List D → Store → Prop) (c : α → D) (as : List α) {S : Store} (h0 : I 0 [] S)
    (hs : ∀ i a ys S, as[i]? = some a → I i ys S → ok S = true ∧ ∃ ρ', g.put (c a) (wipeD ρ vs) = some ρ' ∧ wp (t ρ') S fun b S1 => if b = true then wp (e ρ') S1 fun y S2 => I (i + 1) (ys ++ [y]) S2 else I (i + 1) ys S1)
    (hn : ∀ ys S, I as.length ys S → ok S = true ∧ Q ys S) : wp (mLcL vs g ok t e ρ (as.map c)) S Q :=
  lcL_idx I h0 (fun i d ys S hd hI => by
    rw [List.getElem?_map] at hd
    obtain ⟨a, ha, rfl⟩ := Option.map_eq_some_iff.mp hd
    exact hs i a ys S ha hI) (by simpa using hn)
theorem lcL_rng {n : Nat} {vs : List Nat} {g : Tg} {t : MT} {e : ME} {ρ : Env} {Q : List D → Store → Prop} (I : Nat → List D → Store → Prop) {S : Store} (h0 : I 0 [] S)
    (hs : ∀ (i : Nat) ys S, i < n → I i ys S → ∃ ρ', g.put (.int (i : Nat)) (wipeD ρ vs) = some ρ' ∧ wp (t ρ') S fun b S1 => if b = true then wp (e ρ') S1 fun y S2 => I (i + 1) (ys ++ [y]) S2 else I (i + 1) ys S1)
    (hn : ∀ ys S, I n ys S → Q ys S) : wp (mLcL vs g (fun _ => true) t e ρ (rngD 0 n)) S Q := by
  rw [rngD0]
  exact lcL_map I _ _ h0 (fun i a ys S ha hI => by
    obtain ⟨h1, h2⟩ := List.getElem?_eq_some_iff.mp ha
    simp at h1 h2
    subst h2
    exact ⟨rfl, hs i ys S h1 hI⟩) (fun ys S hI => ⟨rfl, hn ys S (by simpa using hI)⟩)
/-- a comprehension that changes nothing -/
theorem lcL_pure {α : Type} {vs : List Nat} {g : Tg} {ok : Store → Bool} {t : MT} {e : ME} {ρ : Env} {Q : List D → Store → Prop} {S : Store} (c : α → D) (p : α → Bool) (f : α → D) (as : List α) (ho : ok S = true)
    (h : ∀ a ∈ as, ∃ ρ', g.put (c a) (wipeD ρ vs) = some ρ' ∧ (wp (t ρ') S fun b S' => b = p a ∧ S' = S) ∧ (p a = true → wp (e ρ') S fun d S' => d = f a ∧ S' = S)) (q : Q ((as.filter p).map f) S) : wp (mLcL vs g ok t e ρ (as.map c)) S Q := by
  refine ⟨_, _, ?_, q⟩
  clear q
  induction as with
  | nil => simp [mLcL, ho]
  | cons a as ih =>
    obtain ⟨ρ', hp, ht, he⟩ := h a List.mem_cons_self
    have ih := ih fun b hb => h b (List.mem_cons_of_mem _ hb)
    have ht := wp_get ht
    rw [List.map_cons]
    unfold mLcL
    simp only [ho, if_true, hp, ht]
    cases hpa : p a with
    | false => rw [List.filter_cons_of_neg (by simp [hpa])]; exact ih
    | true => rw [List.filter_cons_of_pos hpa]; simp [wp_get (he hpa), ih]
theorem lcL_all {α : Type} {vs : List Nat} {g : Tg} {ok : Store → Bool} {e : ME} {ρ : Env} {Q : List D → Store → Prop} {S : Store} (c : α → D) (f : α → D) (as : List α) (ho : ok S = true)
    (h : ∀ a ∈ as, ∃ ρ', g.put (c a) (wipeD ρ vs) = some ρ' ∧ (wp (e ρ') S fun d S' => d = f a ∧ S' = S)) (q : Q (as.map f) S) : wp (mLcL vs g ok mTrue e ρ (as.map c)) S Q :=
  lcL_pure c (fun _ => true) f as ho (fun a ha => let ⟨ρ', h1, h2⟩ := h a ha; ⟨ρ', h1, by simp, fun _ => h2⟩) (by rw [List.filter_eq_self.mpr fun _ _ => rfl]; exact q)

@[simp] theorem putL_ref {n : Nat} {k : Int} {v : D} {S S' : Store} : putL (.ref n) (.int k) v S = some S' ↔ ∃ xs j, S[n]? = some (.lst xs) ∧ ixN xs.length k = some j ∧ S' = S.set n (.lst (xs.set j v)) := by
  constructor
  · intro h
    unfold putL at h
    dsimp only at h
    split at h
    · rename_i xs hs
      cases hx : ixN xs.length k with
      | none => rw [hx] at h; cases h
      | some j => rw [hx] at h; cases h; exact ⟨xs, j, hs, hx, rfl⟩
    · cases h
  · rintro ⟨xs, j, h1, h2, rfl⟩; simp [putL, h1, h2]
@[simp] theorem wps_swap {o1 i1 o2 i2 mv : ME} {ρ : Env} {S : Store} {Q} : wps (mSwap o1 i1 o2 i2 mv) ρ S Q ↔ wp (mv ρ) S fun d S1 => ∃ v1 v2, d = .tup [v1, v2] ∧ wp (o1 ρ) S1 fun a1 S2 => wp (i1 ρ) S2 fun k1 S3 => ∃ S4, putL a1 k1 v1 S3 = some S4 ∧ wp (o2 ρ) S4 fun a2 S5 => wp (i2 ρ) S5 fun k2 S6 => ∃ S7, putL a2 k2 v2 S6 = some S7 ∧ Q (.nx ρ) S7 := by
  constructor
  · rintro ⟨o, S', e, q⟩
    unfold mSwap at e
    split at e
    · rename_i v1 v2 S1 h1
      split at e
      · cases e
      · rename_i a1 S2 h2
        split at e
        · cases e
        · rename_i k1 S3 h3
          split at e
          · cases e
          · rename_i S4 h4
            split at e
            · cases e
            · rename_i a2 S5 h5
              split at e
              · cases e
              · rename_i k2 S6 h6
                cases hx : putL a2 k2 v2 S6 with
                | none => rw [hx] at e; cases e
                | some S7 => rw [hx] at e; cases e; exact ⟨_, S1, h1, v1, v2, rfl, a1, S2, h2, k1, S3, h3, S4, h4, a2, S5, h5, k2, S6, h6, _, hx, q⟩
    · cases e
  · rintro ⟨_, S1, h1, v1, v2, rfl, a1, S2, h2, k1, S3, h3, S4, h4, a2, S5, h5, k2, S6, h6, S7, hx, q⟩
    exact ⟨_, S7, by simp only [mSwap, h1, h2, h3, h4, h5, h6, hx, Option.map_some], q⟩

/-! ### calls -/
theorem rk_fit {k m : Nat} {S : Store} {f : Nat} {d : D} (h : nr d = true) : rk k S f d = d := rk_below S f (nr_below k d h)
@[simp] theorem nr_int {i : Int} : nr (.int i) = true := by simp [nr]
@[simp] theorem nr_bl {i : Bool} : nr (.bl i) = true := by simp [nr]
@[simp] theorem nr_str {i : Str} : nr (.str i) = true := by simp [nr]
@[simp] theorem nr_non : nr .non = true := by simp [nr]
@[simp] theorem nr_ref {n : Nat} : nr (.ref n) = false := by simp [nr]
@[simp] theorem nr_tpi {n : List Int} : nr (.tpi n) = true := by simp [nr]
@[simp] theorem nr_scr {n : List Int} : nr (.scr n) = true := by simp [nr]
theorem nrs_eq : ∀ ds : List D, nrs ds = ds.all nr
  | [] => by simp [nrs]
  | d :: ds => by simp [nrs, nrs_eq ds]
theorem belows_eq (k : Nat) : ∀ ds : List D, belows k ds = ds.all (below k)
  | [] => by simp [belows]
  | d :: ds => by simp [belows, belows_eq k ds]
@[simp] theorem nr_tup {n : List D} : nr (.tup n) = n.all nr := by simp [nr, nrs_eq]
@[simp] theorem nr_lst {n : List D} : nr (.lst n) = n.all nr := by simp [nr, nrs_eq]
@[simp] theorem below_int {k : Nat} {i : Int} : below k (.int i) = true := by simp [below]
@[simp] theorem below_bl {k : Nat} {i : Bool} : below k (.bl i) = true := by simp [below]
@[simp] theorem below_str {k : Nat} {i : Str} : below k (.str i) = true := by simp [below]
@[simp] theorem below_non {k : Nat} : below k .non = true := by simp [below]
@[simp] theorem below_ref {k n : Nat} : below k (.ref n) = decide (n < k) := by simp [below]
@[simp] theorem below_tpi {k : Nat} {n : List Int} : below k (.tpi n) = true := by simp [below]
@[simp] theorem below_scr {k : Nat} {n : List Int} : below k (.scr n) = true := by simp [below]
@[simp] theorem below_tup {k : Nat} {n : List D} : below k (.tup n) = n.all (below k) := by simp [below, belows_eq]
@[simp] theorem below_lst {k : Nat} {n : List D} : below k (.lst n) = n.all (below k) := by simp [below, belows_eq]
@[simp] theorem belowO_lst {k : Nat} {n : List D} : belowO k (.lst n) = n.all (below k) := by simp [belowO, belows_eq]
@[simp] theorem outD_rt {d : D} : outD (.rt d) = some d := by simp [outD]
@[simp] theorem outD_nx {ρ : Env} : outD (.nx ρ) = some .non := by simp [outD]
theorem clo_nr {k : Nat} {d : D} {S : Store} {r : D × Store} (h : nr d = true) : clo k d S = some r ↔ (S.take k).all (belowO k) = true ∧ r = (d, S.take k) := by
  unfold clo
  rw [rk_fit (m := 0) h, nr_below k d h]
  simp only [Bool.true_and]
  split
  · rename_i h; simp [h, eq_comm]
  · rename_i h; simp [h]
@[simp] theorem clo_ex {k : Nat} {d : D} {S : Store} {Q : D → Store → Prop} (h : nr d = true) : (∃ d' S2, clo k d S = some (d', S2) ∧ Q d' S2) ↔ (S.take k).all (belowO k) = true ∧ Q d (S.take k) := by
  constructor
  · rintro ⟨d', S2, e, q⟩; obtain ⟨h1, h2⟩ := (clo_nr h).mp e; cases h2; exact ⟨h1, q⟩
  · rintro ⟨h1, q⟩; exact ⟨_, _, (clo_nr h).mpr ⟨h1, rfl⟩, q⟩
theorem wp_call {k : Nat} {f : List D → M D} {ds : List D} {S : Store} {Q : D → Store → Prop} (hk : k ≤ S.length) (hS : (S.take k).all (belowO k) = true) (hd : belows k ds = true) (h : wp (f ds) (S.take k) fun d S1 => S1.length = k ∧ Q d (S1 ++ S.drop k)) : wp (callF k f ds) S Q := by
  obtain ⟨d, S1, e, h1, q⟩ := h
  refine ⟨_, _, ?_, q⟩
  have e1 : ds.map (rk k S 4) = ds := by
    have : ∀ d ∈ ds, rk k S 4 d = d := fun d hd' => rk_below S 4 (belows_mem hd d hd')
    conv => rhs; rw [← List.map_id ds]
    exact List.map_congr_left this
  have e2 : ds.all (below k) = true := List.all_eq_true.mpr (belows_mem hd)
  unfold callF
  rw [e1, if_pos (by simp [hk, e2]; simpa using hS)]
  simp [e, h1, hd]
/-- a call by the two objects of a stream -/
theorem wp_call2 {f : List D → M D} {ds : List D} {x y : MO} {rest : Store} {Q : D → Store → Prop} {R : MO → MO → Prop} {P : D → Prop} (hx : belowO 2 x = true) (hy : belowO 2 y = true) (hd : nrs ds = true)
    (h : wp (f (.ref 1 :: ds)) [x, y] fun d S' => ∃ x' y', S' = [x', y'] ∧ R x' y' ∧ P d) (q : ∀ x' y' d, R x' y' → P d → Q d (x' :: y' :: rest)) : wp (callF 2 f (.ref 1 :: ds)) (x :: y :: rest) Q :=
  wp_call (by simp) (by simp [hx, hy]) (by simp [belows, below, nrs_belows 2 ds hd]) (wp_mono (show wp (f (.ref 1 :: ds)) [x, y] _ from h) fun d S1 hh => by obtain ⟨x', y', e, h1, h2⟩ := hh; subst e; exact ⟨rfl, by simpa using q x' y' d h1 h2⟩)
theorem wp_call0 {f : List D → M D} {ds : List D} {S : Store} {Q : D → Store → Prop} (hd : nrs ds = true) (h : wp (f ds) [] fun d S1 => S1 = [] ∧ Q d S) : wp (callF 0 f ds) S Q :=
  wp_call (Nat.zero_le _) rfl (nrs_belows 0 ds hd) (wp_mono h fun d S1 ⟨e, q⟩ => ⟨by rw [e]; rfl, by rw [e]; exact q⟩)

/-! ### kinds, slices, truth -/
@[simp] theorem truD_bl {S : Store} {b : Bool} : truD S (.bl b) = some b := by simp [truD]
@[simp] theorem truD_int {S : Store} {b : Int} : truD S (.int b) = some (b != 0) := by simp [truD]
@[simp] theorem truD_tup {S : Store} {b : List D} : truD S (.tup b) = some (!b.isEmpty) := by simp [truD]
theorem truD_lst {S : Store} {b : List D} : truD S (.lst b) = some (!b.isEmpty) := by simp [truD, asL]
theorem truD_ref {S : Store} {n : Nat} {b : List D} (h : S[n]? = some (.lst b)) : truD S (.ref n) = some (!b.isEmpty) := by simp [truD, asL, h]
theorem tyD_ref {S : Store} {n : Nat} {b : List D} (h : S[n]? = some (.lst b)) : tyD S (.ref n) = some "list" := by simp [tyD, h]
@[simp] theorem tyD_lst {S : Store} {b : List D} : tyD S (.lst b) = some "list" := by simp [tyD]
@[simp] theorem tyD_tup {S : Store} {b : List D} : tyD S (.tup b) = some "tuple" := by simp [tyD]
@[simp] theorem isiB_list : isiB "list" "list" = true := by decide
@[simp] theorem isiB_tuple : isiB "tuple" "tuple" = true := by decide
@[simp] theorem isiB_tl : isiB "tuple" "list" = false := by decide
@[simp] theorem isiB_lt : isiB "list" "tuple" = false := by decide
theorem cutD_last {xs : List D} {a : D} : cutD (xs ++ [a]) (some (-1)) none = [a] := by
  unfold cutD HT.sIx
  have h : (-1 + ((xs ++ [a]).length : Int)).toNat = xs.length := by simp; omega
  simp only [h]
  simp
end Z
set_option Elab.async false
set_option linter.all false
set_option maxRecDepth 100000
/-! What is known of the guards at the top: repr of plain data; sorted of tuples of whole numbers. -/
namespace L2
open PySem PySem.Spec PyProof.Rows
/-- a promise where no guard stands around -/
def GRun (P : Program) (w : World) (K : PySem.W.Frag) (mg : Str → Option Value) (base : Heap) (CX : CXT) (k : Nat) (f : Addr) (fd : FuncData) (ps : List Str) (sp : Sp) : Prop :=
  ∀ (A : Around) (outer : List Env) (s : Shared) (H : Hp) (args : Args) (us : List Value) (vs : List V) (Q : VK) (E : XK), A.guards = some [] → Room k A → Env0 P w K mg base A outer s H → BindsTo s fd args (ps.zip us) → Vals vs us → sp vs H Q E →
    codeAny (model P w) A (.call (.ref f) args) (CR CX outer P w H s Q E) s
section
variable {P : Program} {w : World} {K : PySem.W.Frag} {mg : Str → Option Value} {base : Heap}
theorem Fun.okG {x qual : Str} {st : Stmt} {f : Addr} {fd : FuncData} {N ps : List Str} {k : Nat} {sp : Sp} (F : Fun K x qual st f fd) (S : FnScope N ps (defScope st)) (len : ∀ vs H Q E, sp vs H Q E → vs.length = ps.length)
    (hb : ∀ (cdv : Value) (A : Around) (outer : List Env) (s : Shared) (H : Hp) (vs : List V) (Q : VK) (E : XK), A.guards = some [] → Room k (A.deeper (envOfC qual (defScope st) s.heap.objs.size f cdv)) → sp vs H Q E →
      ∃ t, PSs (cxOf CX0 P w K mg base N qual (defScope st) f cdv A outer s H E).nox (defBody st) t ∧ t { nx := fun _ H' => Q .non H', rt := Q } (start N vs) H) : GRun P w K mg base CX0 (k + 1) f fd ps sp := by
  obtain ⟨oc, od, kV, doc, pm, an, cdv, ct, osl, rfl, lk, hcd⟩ := F.ex
  intro A outer s H args us vs Q E hg hr e0 bind r hs
  obtain ⟨t, ht, hq⟩ := hb cdv A outer s H vs Q E hg (hr.deeper _) hs
  have ht := ht.nox
  have hl := len _ _ _ _ hs
  have kin : K.In s.heap := e0.mod.kin.keeps fun b o e => (e0.bs b o e).1
  have nol : s.heap.NoLimit := e0.mod.nolimit.keeps fun b o e => (e0.bs b o e).1
  have par : ∀ y ∈ ps.zip us, (defScope st).names.lookup y.1 = some .local ∨ ((defScope st).names.lookup y.1 = some .cell ∧ ((cellsFrom (s.heap.objs.size + 1) (defScope st).names []).lookup y.1).isSome = true) := by
    rintro ⟨n, v⟩ hy
    rcases S.par n (List.of_mem_zip hy).1 with q | q
    · exact .inl q
    · exact .inr ⟨q, PySem.W.cellsFrom_some _ _ _ (.inl q)⟩
  refine codeAny_call_function hr.depth (kin _ _ lk) rfl S.co S.gen rfl (PySem.W.codeRec_of kin hcd) (bind _ _ _ _ (wpAny_newFunctionEnv_cells S.kind par ?_))
  rintro env rfl s1 x
  have J := inv_start (CX := CX0) (E := E) (cd := cdv) S hr.hd e0 hl r x
  refine ⟨nol.keeps x.toInCall.keep, codeAny_func (wpAny_mono (ht.run [] s1 (start N vs) H _ J hq) ?_ fun _ _ z => z)⟩
  intro fl s' z
  cases fl with
  | next => obtain ⟨_, H', J, q⟩ := z; exact ⟨.non, H', J.os, J.bare, J.base, J.hok, rfl, q⟩
  | ret u => obtain ⟨v, _, H', J, rv, q⟩ := z; exact ⟨v, H', J.os, J.bare, J.base, J.hok, rv, q⟩
  | brk => obtain ⟨_, _, _, q⟩ := z; exact q.elim
  | cont => obtain ⟨_, _, _, q⟩ := z; exact q.elim
end
/-- the whole law, from the promise at the top -/
theorem top_call {P : Program} {w : World} {K : PySem.W.Frag} {mg mb : Str → Option Value} {k : Nat} {fa a : Addr} {fd : FuncData} {x : Str} {sp : Sp} {s : Shared} {vs : List Value} {ns : List Int}
    (KX : K.In s.heap) (hn : s.heap.Ns mainGlobals mg) (hb : s.heap.Ns builtinsNs mb) (hbb : ∀ x : Str, x ≠ "__name__" → mb x = bootBuiltins x) (hm : s.heap.NoLimit) (hg : s.gens = #[])
    (ha : s.heap.get? a = some { cls := .type "list", data := .seq vs.toArray }) (hi : IntsAre vs ns) (hl : ns.length ≤ sizeLine) (hr : Room k callerA)
    (F : ∀ base : Heap, K.In base → base.Ns mainGlobals mg → GRun P w K mg base CX0 k fa fd [x] sp) (hbind : ∀ (s : Shared) (u : Value), BindsTo s fd ⟨[u], []⟩ [(x, u)])
    (hsp : ∀ H : Hp, Only H → SqL K H a (ns.map V.int) → sp [.ref a] H (fun v _ => v = .bl true) fun _ _ _ => False) :
    codeAny (model P w) callerA (.call (.ref fa) ⟨[.ref a], []⟩) (fun r s' => r = .ok (.ret (.bool true)) ∧ OldK s.heap s'.heap ∧ s'.os = s.os ∧ AllBare s'.gens) s := by
  have rv := vals_ints hi
  have nv := hi.length
  -- what is tracked at the start: H, and nothing but the script in it
  suffices go : ∀ H : Hp, Only H → SqL K H a (ns.map V.int) → HOk P w H s.heap → (∀ b, H b ≠ none → b = a ∧ K.lookup a = none) →
      codeAny (model P w) callerA (.call (.ref fa) ⟨[.ref a], []⟩) (fun r s' => r = .ok (.ret (.bool true)) ∧ OldK s.heap s'.heap ∧ s'.os = s.os ∧ AllBare s'.gens) s by
    cases hk : K.lookup a with
    | some o =>
      have e := KX a o hk
      rw [ha] at e
      cases e
      refine go (fun _ => none) (fun _ => .inl rfl) (.inr ⟨_, vs.toArray, 0, hk, rfl, rfl, rfl, ?_, by simpa using rv⟩) (fun _ _ z => nomatch z) fun _ z => (z rfl).elim
      rw [List.size_toArray, nv]
      exact hl
    | none =>
      let o0 : Obj := { cls := .type "list", data := .seq vs.toArray }
      let H0 : Hp := fun b => if b = a then some (.frz o0 (.lst (ns.map V.int))) else none
      have at0 : H0 a = some (.frz o0 (.lst (ns.map V.int))) := if_pos rfl
      have off : ∀ {b}, b ≠ a → H0 b = none := fun h => if_neg h
      refine go H0 (fun b => ?_) (.inl (.inr ⟨o0, at0⟩)) (fun b u z => ?_) fun b z => ⟨Classical.byContradiction fun h => z (off h), hk⟩
      · rcases Classical.em (b = a) with rfl | h
        · exact .inr ⟨_, _, at0⟩
        · exact .inl (off h)
      · rcases Classical.em (b = a) with rfl | h
        · rw [at0] at z
          cases z
          exact ⟨ha, by rw [List.length_map]; exact hl, vs, 0, rv, ha⟩
        · rw [off h] at z
          cases z
  intro H only sq ok tr
  have none_of : ∀ {b : Addr}, (H b ≠ none → False) → H b = none := fun {b} h => Classical.byContradiction h
  have dicts : ∀ {b : Addr} {m : Str → Option Value}, s.heap.Ns b m → (hidT s.heap H).Ns b m := by
    rintro b m ⟨o, es, ep, e, d, r⟩
    refine ⟨o, es, ep, hidT_get e (none_of fun z => ?_), d, r⟩
    obtain ⟨rfl, _⟩ := tr b z
    rw [ha] at e
    cases e
    exact nomatch (show Data.seq vs.toArray _ = Data.dict es ep from d)
  have kin : K.In (hidT s.heap H) := fun b o e => hidT_get (KX b o e) (none_of fun z => by
    obtain ⟨rfl, h⟩ := tr b z
    rw [h] at e
    cases e)
  obtain ⟨mc, l1, l2⟩ := hm
  have e0 : Env0 P w K mg (hidT s.heap H) callerA [] s H := ⟨rfl, ⟨kin, dicts hn, ⟨mb, dicts hb, hbb⟩, ⟨mc, dicts l1, l2⟩⟩, fun _ _ e => of_hidT e, Nat.le_of_eq (hidT_size _ _), trivial, (fun _ z => nomatch z), ok, .of_eq hg⟩
  refine codeAny_mono (F _ kin (dicts hn) callerA [] s H ⟨[.ref a], []⟩ [.ref a] [.ref a] _ _ rfl hr e0 (hbind s (.ref a)) (.cons rfl .nil) (hsp H only sq)) ?_
  intro r s' z
  match r, z with
  | .error _, z => exact z.elim
  | .ok (.ret u), ⟨v, H', os, bare, un, ok', r', q⟩ =>
    have q : v = .bl true := q
    subst q
    cases (show u = Value.bool true from r')
    refine ⟨rfl, OldK.of_keep fun b o e => ?_, os, bare⟩
    cases hb : H b with
    | none => exact un.keep b o e hb (fun z => nomatch z) (by simp)
    | some u =>
      rcases only b with z | ⟨ob, xs, z⟩
      · rw [hb] at z
        cases z
      · have g1 := (ok b _ z).1
        have g2 := (ok' b _ (un.frzs b ob _ z)).1
        rw [e] at g1
        cases g1
        exact g2
  | .ok .next, z => exact z.elim
  | .ok .brk, z => exact z.elim
  | .ok .cont, z => exact z.elim
theorem walkG {l : PySem.W.OpenLaw} {n k : Nat} {q : Program} {loose : List Str} {XP : (Str → Option Value) → Heap → Prop} {YP : World → Heap → Prop} {d : DefRec} {K : Params → PySem.W.Frag} {sp : World → Sp} {x : Str}
    (hn : l.most = some n) (hz : n ≤ sizeLine) (hdf : d.params.defaults = []) (hr : Room k callerA) (hY : ∀ (w : World) (h : Heap), YP w h → (K w.params).In h)
    (F : ∀ (w : World) (mg : Str → Option Value) (fa : Addr) (h : Heap), (K w.params).In h → h.Ns mainGlobals mg → mg d.name = some (.ref fa) →
      ∃ fd : FuncData, (∀ (s : Shared) (u : Value), BindsTo s fd ⟨[u], []⟩ [(x, u)]) ∧ ∀ base : Heap, (K w.params).In base → base.Ns mainGlobals mg → GRun l.prog w (K w.params) mg base CX0 k fa fd [x] (sp w))
    (hs : ∀ (w : World) (H : Hp) (a : Addr) (ns : List Int), ns.length ≤ n → Only H → SqL (K w.params) H a (ns.map V.int) → sp w [.ref a] H (fun v _ => v = .bl true) fun _ _ _ => False) :
    PySem.W.WalkO q loose XP YP l.row.toRowW d [] (fun f vs => PySem.call f vs) :=
  Att.attach_call hn hdf fun w _ s1 mg _ fa _ _ _ _ a _ ns G Y _ _ _ hmg hobj hints hlen hg =>
    let ⟨_, hb, hF⟩ := F w mg fa _ (hY w _ Y) G.T.g hmg
    top_call (hY w _ Y) G.T.g G.T.b G.T.builtins G.T.nolimit hg hobj hints (Nat.le_trans hlen hz) hr hF hb fun H o h => hs w H a ns hlen o h
/-- repr of plain data that is behind a reference -/
def rRepr (K : PySem.W.Frag) : List V → Hp → VK → Prop := fun vs H Q => ∃ (a : Addr) (d : PyData), vs = [.ref a] ∧ Dp K H (.ref a) d ∧ d.showable = true ∧ d.hasDict = false ∧ d.depth ≤ 60 ∧ d.shown.length ≤ sizeLine ∧ Q (.str d.shown) H
theorem cr_repr {X : Cx} (hg : X.A.guards = some []) (hu : X.A.units + 64 < cLine) : CallR X (.builtin "repr") (rRepr X.K) := fun pins s σ H vs us Q I r ⟨a, d, e, hd, h1, h2, h3, h4, q⟩ => by
  subst e
  rw [Vals.ref1 r]
  obtain ⟨as, rd⟩ := Dp.reads I d (.ref a) (.ref a) hd rfl
  exact repr_of_reads' rd h1 (PyData.noDict_hsm h2) hg (by omega) (fun _ _ e => e) (fun h' u tk hk => ⟨.str d.shown, H, I.kept hk, ⟨u, rfl⟩, q⟩) h4
end L2
set_option Elab.async false
set_option linter.all false
set_option maxRecDepth 100000
/-! repr, equality of texts, sorted of tuples; the def at the top. -/
namespace Z
open PySem L2
open PyProof.Rows (envOfC)

/-! ### texts -/
def dEqS (d e : D) : M D := match d, e with
  | .str a, .str b => ret (.bl (decide (a = b)))
  | _, _ => fail
def dNeS (d e : D) : M D := match d, e with
  | .str a, .str b => ret (.bl (!decide (a = b)))
  | _, _ => fail
theorem r_eqS {K : PySem.W.Frag} : R2S K rEq dEqS := fun B al S H d e z v w S' R r1 r2 h Q q => by
  unfold dEqS at h
  split at h
  · obtain ⟨rfl, rfl⟩ := ret_some h
    cases r1; cases r2
    refine ⟨rfl, ?_⟩
    have := q _ al H R .refl (.bl _)
    rename_i a b
    rwa [show decide (V.str a = V.str b) = decide (a = b) by simp]
  · cases h
theorem r_neS {K : PySem.W.Frag} : R2S K rNe dNeS := fun B al S H d e z v w S' R r1 r2 h Q q => by
  unfold dNeS at h
  split at h
  · obtain ⟨rfl, rfl⟩ := ret_some h
    cases r1; cases r2
    refine ⟨rfl, ?_⟩
    have := q _ al H R .refl (.bl _)
    rename_i a b
    rwa [show decide (V.str a = V.str b) = decide (a = b) by simp]
  · cases h
@[simp] theorem wp_dEqS' {a b : Str} {S : Store} {Q} : wp (dEqS (.str a) (.str b)) S Q ↔ Q (.bl (decide (a = b))) S := by unfold dEqS; simp
@[simp] theorem wp_dNeS {a b : Str} {S : Store} {Q} : wp (dNeS (.str a) (.str b)) S Q ↔ Q (.bl (!decide (a = b))) S := by unfold dNeS; simp

/-! ### repr -/
def boxD : D → Bool
  | .tup _ => true
  | .tpx _ => true
  | .lst _ => true
  | _ => false
def showD (d : D) : Bool := boxD d && nr d && (toP d).showable && !(toP d).hasDict && decide ((toP d).depth ≤ 60) && decide ((toP d).shown.length ≤ sizeLine)
def cRepr (ds : List D) : M D := fun S => match ds with
  | [d] => if showD (rs S 4 d) then some (.str (toP (rs S 4 d)).shown, S) else none
  | _ => none
theorem c_repr {K : PySem.W.Frag} : CRS K (rRepr K) cRepr := fun B al S H ds z vs S' R r1 h Q q => by
  unfold cRepr at h
  split at h
  · rename_i d
    split at h
    · rename_i hc
      cases h
      obtain ⟨v, rfl, rv⟩ := rl_one r1
      simp only [showD, Bool.and_eq_true, Bool.not_eq_true', decide_eq_true_eq] at hc
      obtain ⟨⟨⟨⟨⟨h0, h1⟩, h2⟩, h3⟩, h4⟩, h5⟩ := hc
      have g := rs_frz R 4 rv h1
      have ha : ∃ a, v = .ref a := by
        generalize rs S 4 d = e at g h0
        cases g <;> first | exact ⟨_, rfl⟩ | cases h0
      obtain ⟨a, rfl⟩ := ha
      exact ⟨a, _, rfl, dp_of g h1, h2, h3, h4, h5, q _ al H R .refl (.str _)⟩
    · cases h
  · cases h
theorem wp_cRepr {d v : D} {S : Store} {Q} (h : rs S 4 d = v) (hs : showD v = true) (q : Q (.str (toP v).shown) S) : wp (cRepr [d]) S Q := ⟨_, _, by simp only [cRepr, h, hs, if_true], q⟩

/-! ### sorted, tuples of whole numbers -/
def tupI (ns : List Int) : D := .tup (ns.map .int)
def tupsOf : List D → Option (List (List Int))
  | [] => some []
  | .tup xs :: ds => (intsOf xs).bind fun ns => (tupsOf ds).map (ns :: ·)
  | _ => none
def okT (d : Nat) (B : Int) (ns : List Int) : Bool := decide (ns.length = d) && ns.all fun m => decide (0 ≤ m ∧ m < B)
def srtT (B : Int) (nss : List (List Int)) : List (List Int) := nss.mergeSort fun a b => decide (TS.code B a ≤ TS.code B b)
def cSortT (d : Nat) (B : Int) (ds : List D) : M (List D) := fun S => match ds with
  | [x] => ((asLC S x).bind tupsOf).bind fun nss => if nss.length < 64 ∧ nss.all (okT d B) = true then some ((srtT B nss).map tupI, S) else none
  | _ => none
theorem srtT_perm (B : Int) (nss : List (List Int)) : (srtT B nss).Perm nss := List.mergeSort_perm nss _
theorem srtT_sorted (B : Int) (nss : List (List Int)) : (srtT B nss).Pairwise fun a b => TS.code B a ≤ TS.code B b := by
  have h := List.pairwise_mergeSort (le := fun a b : List Int => decide (TS.code B a ≤ TS.code B b)) (fun a b c h1 h2 => by simp at *; omega) (fun a b => by simp; omega) nss
  exact h.imp fun h => by simpa using h
theorem okT_bd {d : Nat} {B : Int} {ns : List Int} (h : okT d B ns = true) : ns.length = d ∧ TS.Bd B ns := by
  simp only [okT, Bool.and_eq_true, decide_eq_true_eq, List.all_eq_true] at h
  exact ⟨h.1, fun m hm => h.2 m hm⟩
theorem code_inj {B : Int} : ∀ {a b : List Int}, a.length = b.length → TS.Bd B a → TS.Bd B b → TS.code B a ≤ TS.code B b → TS.code B b ≤ TS.code B a → a = b
  | [], [], _, _, _, _, _ => rfl
  | x :: a, y :: b, hl, ha, hb, h1, h2 => by
    have hl' : a.length = b.length := by simpa using hl
    rcases Int.lt_trichotomy x y with h | h | h
    · exact absurd (TS.code_lt hl' ha.tail hb.tail h) (by omega)
    · subst h
      have e1 := Int.not_lt.mp (fun z => absurd ((TS.code_same (B := B) (d := x) hl').mpr z) (by omega) : ¬ TS.code B a < TS.code B b)
      have e2 := Int.not_lt.mp (fun z => absurd ((TS.code_same (B := B) (d := x) hl'.symm).mpr z) (by omega) : ¬ TS.code B b < TS.code B a)
      rw [code_inj hl' ha.tail hb.tail e2 e1]
    · exact absurd (TS.code_lt hl'.symm hb.tail ha.tail h) (by omega)
section
variable {K : PySem.W.Frag} {B : Addr → Prop} {al : List Addr} {H : Hp}
theorem rl_perm {α : Type} {f : α → D} : ∀ {vs ys : List V}, vs.Perm ys → ∀ {as : List α}, RL K B al H (as.map f) vs → ∃ bs : List α, bs.Perm as ∧ RL K B al H (bs.map f) ys := by
  intro vs ys p
  induction p with
  | nil => intro as r; exact ⟨as, .refl _, r⟩
  | cons x p ih =>
    intro as r
    cases as with
    | nil => cases r
    | cons a as =>
      cases r with
      | cons _ _ _ _ h r => obtain ⟨bs, q, s⟩ := ih r; exact ⟨a :: bs, q.cons a, .cons _ _ _ _ h s⟩
  | swap x y l =>
    intro as r
    cases as with
    | nil => cases r
    | cons a as =>
      cases r with
      | cons _ _ _ _ h r =>
        cases as with
        | nil => cases r
        | cons b as => cases r with | cons _ _ _ _ h2 r => exact ⟨b :: a :: as, .swap _ _ _, .cons _ _ _ _ h2 (.cons _ _ _ _ h r)⟩
  | trans p q ih1 ih2 =>
    intro as r
    obtain ⟨bs, e1, r1⟩ := ih1 r
    obtain ⟨cs, e2, r2⟩ := ih2 r1
    exact ⟨cs, e2.trans e1, r2⟩
theorem rl_intsV : ∀ {ns : List Int} {vs : List V}, RL K B al H (ns.map .int) vs → vs = ns.map V.int
  | [], _, r => by cases r; rfl
  | n :: ns, _, r => by cases r with | cons _ _ _ _ h r => cases h; rw [rl_intsV r]; rfl
theorem rv_tupI {ns : List Int} {v : V} (r : RV K B al H (tupI ns) v) : TupI K H v ns := by
  cases r with
  | tup a ds vs h r => rw [rl_intsV r] at h; exact ⟨a, rfl, .of h⟩
theorem rl_pairT {C : Int} : ∀ {nss : List (List Int)} {ys : List V}, RL K B al H (nss.map tupI) ys → ys.Pairwise (fun x y => ∀ n m, TupI K H x n → TupI K H y m → TS.code C n ≤ TS.code C m) → nss.Pairwise fun a b => TS.code C a ≤ TS.code C b
  | [], _, _, _ => .nil
  | a :: nss, _, r, p => by
    cases r with
    | cons _ _ _ vs h r =>
      obtain ⟨p1, p2⟩ := List.pairwise_cons.mp p
      refine List.pairwise_cons.mpr ⟨fun b hb => ?_, rl_pairT r p2⟩
      obtain ⟨i, hi, rfl⟩ := List.getElem_of_mem hb
      obtain ⟨v, hv, rv⟩ := r.get (i := i) (d := tupI nss[i]) (by simp [hi])
      exact p1 v (List.mem_of_getElem? hv) _ _ (rv_tupI h) (rv_tupI rv)
theorem tupsOf_some : ∀ {ds : List D} {nss : List (List Int)}, tupsOf ds = some nss → ds = nss.map tupI
  | [], _, h => by cases h; rfl
  | .tup xs :: ds, nss, h => by
    simp only [tupsOf, Option.bind_eq_some_iff, Option.map_eq_some_iff] at h
    obtain ⟨ns, h1, m, h2, rfl⟩ := h
    rw [tupsOf_some h2]
    have : ∀ {xs : List D} {ns : List Int}, intsOf xs = some ns → xs = ns.map .int := by
      intro xs
      induction xs with
      | nil => intro ns h; cases h; rfl
      | cons x xs ih =>
        intro ns h
        cases x <;> simp [intsOf] at h
        obtain ⟨m, h1, rfl⟩ := h
        rw [ih h1]; rfl
    rw [this h1]
    rfl
  | .non :: _, _, h => by simp [tupsOf] at h
  | .bl _ :: _, _, h => by simp [tupsOf] at h
  | .int _ :: _, _, h => by simp [tupsOf] at h
  | .str _ :: _, _, h => by simp [tupsOf] at h
  | .lst _ :: _, _, h => by simp [tupsOf] at h
  | .scr _ :: _, _, h => by simp [tupsOf] at h
  | .tpi _ :: _, _, h => by simp [tupsOf] at h
  | .dcf _ :: _, _, h => by simp [tupsOf] at h
  | .tpx _ :: _, _, h => by simp [tupsOf] at h
  | .ref _ :: _, _, h => by simp [tupsOf] at h
theorem tupsOf_map : ∀ nss : List (List Int), tupsOf (nss.map tupI) = some nss
  | [] => rfl
  | ns :: nss => by simp [tupsOf, tupI, intsOf_map]; exact tupsOf_map nss
theorem c_sortT {d : Nat} {C : Int} : CRF K (rSortU K d C) (cSortT d C) := fun B al S H ds z vs S' R r1 h Q q => by
  unfold cSortT at h
  split at h
  · rename_i x
    cases hx : asLC S x with
    | none => rw [hx] at h; cases h
    | some xs =>
      rw [hx, Option.bind_some] at h
      cases hy : tupsOf xs with
      | none => rw [hy] at h; cases h
      | some nss =>
        rw [hy, Option.bind_some] at h
        split at h
        · rename_i hc
          cases h
          obtain ⟨h64, hall⟩ := hc
          obtain ⟨v, rfl, rv⟩ := rl_one r1
          obtain ⟨a, us, rfl, ha, ra⟩ := asLC_rep R rv hx
          rw [tupsOf_some hy] at ra
          have hin : ∀ ns ∈ nss, ns.length = d ∧ TS.Bd C ns := fun ns hn => okT_bd (List.all_eq_true.mp hall ns hn)
          refine ⟨a, us, rfl, ha, by rw [← ra.len, List.length_map]; exact h64, fun u hu => ?_, fun ys p hp hs h0 => ?_⟩
          · obtain ⟨i, hi, rfl⟩ := List.getElem_of_mem hu
            have hi2 : i < nss.length := by rw [← ra.len, List.length_map] at hi; exact hi
            obtain ⟨v, hv, rv⟩ := ra.get (i := i) (d := tupI nss[i]) (by simp [hi2])
            rw [List.getElem?_eq_getElem hi] at hv
            cases hv
            obtain ⟨e1, e2⟩ := hin nss[i] (List.getElem_mem hi2)
            exact ⟨_, rv_tupI rv, e1, e2⟩
          · obtain ⟨mss, hm, rm⟩ := rl_perm hp.symm ra
            have pm := rl_pairT rm hs
            have hm2 := hm.trans (srtT_perm C nss).symm
            obtain rfl : mss = srtT C nss := hm2.eq_of_pairwise (fun a b ha hb h1 h2 => by
              obtain ⟨a1, a2⟩ := hin a (hm.mem_iff.mp ha)
              obtain ⟨b1, b2⟩ := hin b ((srtT_perm C nss).mem_iff.mp hb)
              exact code_inj (a1.trans b1.symm) a2 b2 h1 h2) pm (srtT_sorted C nss)
            obtain ⟨g1, g2, g3, g4, g5⟩ := new_F R .refl h0 rm
            exact q p _ al _ g1 g2 g3 g4 g5
        · cases h
  · cases h
end
theorem wp_cSortT {d : Nat} {C : Int} {x : D} {S : Store} {nss : List (List Int)} {Q} (h : asLC S x = some (nss.map tupI)) (h64 : nss.length < 64) (hk : ∀ ns ∈ nss, okT d C ns = true) (q : Q ((srtT C nss).map tupI) S) : wp (cSortT d C [x]) S Q :=
  ⟨_, _, by simp only [cSortT, h, Option.bind_some, tupsOf_map]; rw [if_pos ⟨h64, List.all_eq_true.mpr hk⟩], q⟩

/-! ### the def at the top -/
section
variable {P : Program} {w : World} {K : PySem.W.Frag} {mg : Str → Option Value} {base : Heap}
theorem fn_T {x qual : Str} {st : Stmt} {f : Addr} {fd : FuncData} {N ps : List Str} {k : Nat} {m : MS} (F : L2.Fun K x qual st f fd) (Sc : FnScope N ps (defScope st))
    (hb : ∀ (cdv : Value) (A : Around) (outer : List PySem.Env) (s : Shared) (H : Hp) (E : XK), A.guards = some [] → Room k (A.deeper (envOfC qual (defScope st) s.heap.objs.size f cdv)) → Sb (cxOf CX0 P w K mg base N qual (defScope st) f cdv A outer s H E).nox W0 (defBody st) m) :
    GRun P w K mg base CX0 (k + 1) f fd ps (spG K ps.length (mOpen N.length m)) := by
  refine F.okG Sc (fun vs H Q E ⟨B, al, S, ds, d, S', R, hl, r, h, q⟩ => by rw [← r.len]; exact hl) (fun cdv A outer s H vs Q E hg hr ⟨B, al, S, ds, d, S', R, hl, r, h, q⟩ => ⟨_, hb cdv A outer s H E hg hr, ?_⟩)
  unfold mOpen at h
  split at h
  · rename_i o S1 h1
    cases ho : outD o with
    | none => rw [ho] at h; cases h
    | some d1 =>
      rw [ho] at h
      cases h
      refine ⟨B, al, S, startD N.length ds, o, _, R, er_start r, h1, ?_⟩
      cases o with
      | nx ρ => cases ho; exact fun σ' al' H' R' x' _ => q .non al' H' R' x' .non
      | rt d2 => cases ho; exact fun v al' H' R' x' r' => q v al' H' R' x' r'
      | bk ρ => cases ho
      | ct ρ => cases ho
      | ex c => cases ho
  · cases h
end
end Z
set_option Elab.async false
set_option linter.all false
set_option maxRecDepth 100000
/-! while; lists handed back. -/
namespace Z
open PySem L2
theorem wps_whl {t : MT} {b : MS} {Q : Out → Store → Prop} (I : Nat → Env → Store → Prop)
    (hs : ∀ k ρ S, I k ρ S → wp (t ρ) S fun c S1 => if c = true then wps b ρ S1 fun o S' => match o with
      | .nx ρ2 => ∃ j, j < k ∧ I j ρ2 S'
      | .ct ρ2 => ∃ j, j < k ∧ I j ρ2 S'
      | .bk ρ2 => Q (.nx ρ2) S'
      | .rt d => Q (.rt d) S'
      | .ex c => Q (.ex c) S' else Q (.nx ρ) S1) : ∀ (n m : Nat) (ρ : Env) (S : Store), m < n → I m ρ S → wps (mWhl t b n) ρ S Q := by
  intro n
  induction n with
  | zero => intro m ρ S h; omega
  | succ n ih =>
    intro m ρ S hm hI
    obtain ⟨c, S1, h1, q⟩ := hs m ρ S hI
    cases c with
    | false => exact ⟨_, S1, by unfold mWhl; rw [h1], by simpa using q⟩
    | true =>
      rw [if_pos rfl] at q
      obtain ⟨o, S2, h2, q⟩ := q
      cases o with
      | nx ρ2 =>
        obtain ⟨j, hj, q⟩ := q
        obtain ⟨o, S3, h3, q⟩ := ih j ρ2 S2 (by omega) q
        exact ⟨o, S3, by unfold mWhl; simp only [h1, h2]; exact h3, q⟩
      | ct ρ2 =>
        obtain ⟨j, hj, q⟩ := q
        obtain ⟨o, S3, h3, q⟩ := ih j ρ2 S2 (by omega) q
        exact ⟨o, S3, by unfold mWhl; simp only [h1, h2]; exact h3, q⟩
      | bk ρ2 => exact ⟨_, S2, by unfold mWhl; simp only [h1, h2], q⟩
      | rt d => exact ⟨_, S2, by unfold mWhl; simp only [h1, h2], q⟩
      | ex c => exact ⟨_, S2, by unfold mWhl; simp only [h1, h2], q⟩
theorem rk_map {k f : Nat} {S : Store} {xs : List D} (h : xs.all nr = true) : xs.map (rk k S f) = xs := by
  conv => rhs; rw [← List.map_id xs]
  exact List.map_congr_left fun d hd => rk_fit (m := 0) (List.all_eq_true.mp h d hd)
theorem clo_ref {k n : Nat} {S : Store} {xs : List D} {Q : D → Store → Prop} (h : S[n]? = some (.lst xs)) (hk : k ≤ n) (hx : xs.all nr = true) (hS : (S.take k).all (belowO k) = true) (q : Q (.lst xs) (S.take k)) : ∃ d' S2, clo k (.ref n) S = some (d', S2) ∧ Q d' S2 := by
  have e : rk k S 4 (.ref n) = .lst xs := by
    show rsF (rkG k S (rk k S 3)) (.ref n) = _
    have hn : ¬ n < k := by omega
    unfold rsF rkG rsG
    rw [if_neg hn, h]
    simp only
    rw [rk_map hx]
  refine ⟨.lst xs, S.take k, ?_, q⟩
  unfold clo
  rw [e, hS]
  have : below k (.lst xs) = true := nr_below k _ (by simp only [nr_lst]; exact hx)
  rw [this]
  rfl
theorem cut_take {xs : List D} {r : Int} (h0 : 0 ≤ r) : cutD xs none (some r) = xs.take r.toNat := by
  unfold cutD HT.sIx
  have : ¬ r < 0 := by omega
  simp only [this, if_false]
  simp
theorem cut_drop {xs : List D} {r : Int} (h0 : 0 ≤ r) : cutD xs (some r) none = xs.drop r.toNat := by
  unfold cutD HT.sIx
  have : ¬ r < 0 := by omega
  simp only [this, if_false]
  rcases Nat.le_total r.toNat xs.length with h | h
  · rw [Nat.min_eq_left h, List.take_of_length_le (by simp)]
  · rw [Nat.min_eq_right h]; simp [List.drop_of_length_le h]
theorem inV_int {c : Int} (xs : List Int) : inV (.int c) (xs.map V.int) = decide (c ∈ xs) := by
  induction xs with
  | nil => simp [inV]
  | cons x xs ih =>
    unfold inV at ih ⊢
    rw [List.map_cons, List.any_cons, ih]
    have : eqV (.int x) (.int c) = decide (c = x) := by
      simp only [eqV]
      by_cases h : c = x
      · simp [h]
      · have : ¬ x = c := fun z => h z.symm
        simp [h, this]
    rw [this]
    simp
theorem wp_dInS {neg : Bool} {c : Int} {e : D} {xs : List Int} {S : Store} {Q} (h : asSq S e = some (xs.map .int)) (q : Q (.bl (if neg then !decide (c ∈ xs) else decide (c ∈ xs))) S) : wp (dInS neg (.int c) e) S Q := by
  have hf : (xs.map D.int).all flatD = true := by simp [flatD]
  have hv : (xs.map D.int).map vOf = xs.map V.int := by simp [vOf]
  refine ⟨_, S, ?_, q⟩
  unfold dInS
  rw [h]
  simp only [hf, flatD, Bool.and_self, if_true, hv, vOf, inV_int]
end Z
set_option Elab.async false
set_option linter.all false
set_option maxRecDepth 100000
/-! Small data: its repr has room. -/
namespace Z
open PySem L2
structure Sm (k w : Nat) (d : D) : Prop where
  nr : nr d = true
  sh : (toP d).showable = true
  nd : (toP d).hasDict = false
  dp : (toP d).depth ≤ k
  lv : (toP d).leavesShort 13 = true
  bk : (toP d).bulk ≤ w
theorem Sm.up {k w k' w' : Nat} {d : D} (h : Sm k w d) (hk : k ≤ k') (hw : w ≤ w') : Sm k' w' d := ⟨h.nr, h.sh, h.nd, Nat.le_trans h.dp hk, h.lv, Nat.le_trans h.bk hw⟩
theorem Sm.int {k w : Nat} {i : Int} (h : i.natAbs < 10 ^ 12) : Sm k w (.int i) := by
  have h2 := int_text_length_le10 (by decide : 0 < 12) h
  refine ⟨by simp, ?_, by simp [toP, PyData.hasDict], by simp [toP, PyData.depth], ?_, by simp [toP, PyData.bulk]⟩
  · simp only [toP, PyData.showable, decide_eq_true_eq]
    rcases Nat.eq_zero_or_pos i.natAbs with z | z
    · rw [z]; decide
    · exact Nat.lt_trans ((Nat.log2_lt (k := 40) (by omega)).mpr (Nat.lt_trans h (by decide))) (by decide)
  · simp only [toP, PyData.leavesShort]
    refine decide_eq_true ?_
    show (Str.ofString (toString i)).length ≤ 13
    rw [ofString_length]
    exact h2
theorem Sm.all {k w m : Nat} : ∀ {xs : List D}, (∀ x ∈ xs, Sm k w x) → xs.length ≤ m → nrs xs = true ∧ PyData.showableAll (toPs xs) = true ∧ PyData.hasDictAll (toPs xs) = false ∧ PyData.depthAll (toPs xs) ≤ k ∧ PyData.leavesShortAll 13 (toPs xs) = true ∧ PyData.bulkAll (toPs xs) ≤ (w + 1) * m
  | [], _, _ => by simp [nrs, toPs, PyData.showableAll, PyData.hasDictAll, PyData.depthAll, PyData.leavesShortAll, PyData.bulkAll]
  | x :: xs, h, hm => by
    obtain ⟨m, rfl⟩ : ∃ j, m = j + 1 := ⟨m - 1, by simp at hm; omega⟩
    have hx := h x List.mem_cons_self
    obtain ⟨a1, a2, a3, a4, a5, a6⟩ := Sm.all (m := m) (fun y hy => h y (List.mem_cons_of_mem _ hy)) (by simpa using hm)
    have h4 := hx.dp
    have h6 := hx.bk
    refine ⟨by simp [nrs, hx.nr, a1], by simp [toPs, PyData.showableAll, hx.sh, a2], by simp [toPs, PyData.hasDictAll, hx.nd, a3], ?_, by simp [toPs, PyData.leavesShortAll, hx.lv, a5], ?_⟩
    · simp only [toPs, PyData.depthAll]; omega
    · simp only [toPs, PyData.bulkAll]
      rw [Nat.mul_succ]
      omega
theorem Sm.tup {k w m : Nat} {xs : List D} (h : ∀ x ∈ xs, Sm k w x) (hm : xs.length ≤ m) : Sm (k + 1) ((w + 1) * m) (.tup xs) := by
  obtain ⟨a1, a2, a3, a4, a5, a6⟩ := Sm.all h hm
  exact ⟨by simpa [Z.nr] using a1, by simpa [toP, PyData.showable] using a2, by simpa [toP, PyData.hasDict] using a3, by simp only [toP, PyData.depth]; omega, by simpa [toP, PyData.leavesShort] using a5, by simpa [toP, PyData.bulk] using a6⟩
theorem Sm.lst {k w m : Nat} {xs : List D} (h : ∀ x ∈ xs, Sm k w x) (hm : xs.length ≤ m) : Sm (k + 1) ((w + 1) * m) (.lst xs) := by
  obtain ⟨a1, a2, a3, a4, a5, a6⟩ := Sm.all h hm
  exact ⟨by simpa [Z.nr] using a1, by simpa [toP, PyData.showable] using a2, by simpa [toP, PyData.hasDict] using a3, by simp only [toP, PyData.depth]; omega, by simpa [toP, PyData.leavesShort] using a5, by simpa [toP, PyData.bulk] using a6⟩
theorem Sm.show {k w : Nat} {d : D} (h : Sm k w d) (hb : boxD d = true) (hk : k ≤ 60) (hw : w ≤ 1000000) : showD d = true := by
  have h1 := PyData.shown_le_bulk 13 (by decide) _ h.lv
  have h2 := h.bk
  have h3 := h.dp
  have h4 : (13 + 2) * (toP d).bulk ≤ 15 * w := Nat.mul_le_mul_left _ h2
  have h5 : sizeLine = 16777216 := by decide
  simp only [showD, hb, h.nr, h.sh, h.nd, Bool.and_self, Bool.not_false, Bool.true_and, Bool.and_eq_true, decide_eq_true_eq]
  omega
theorem wp_reprs {d : D} {S : Store} {Q} (h : showD d = true) (q : Q (.str (toP d).shown) S) : wp (cRepr [d]) S Q :=
  wp_cRepr (rs_nr S 4 (by simp only [showD, Bool.and_eq_true] at h; exact h.1.1.1.1.2)) h q
end Z
set_option Elab.async false
set_option linter.all false
set_option maxRecDepth 100000
/-! Dicts. -/
namespace Z
open PySem L2
def keyD : D → Option Key
  | .int i => some (.inl i)
  | .str x => some (.inr x)
  | _ => none
def keysD : List D → Option (List Key)
  | [] => some []
  | d :: ds => (keyD d).bind fun k => (keysD ds).map (k :: ·)
def valD {κ : Type} [DecidableEq κ] (kvs : List (κ × D)) (k : κ) : Option D := (kvs.find? fun kv => decide (kv.1 = k)).map (·.2)
def putD {κ : Type} [DecidableEq κ] (kvs : List (κ × D)) (k : κ) (v : D) : List (κ × D) :=
  if (kvs.any fun kv => decide (kv.1 = k)) = true then kvs.map (fun kv => if kv.1 = k then (kv.1, v) else kv) else kvs ++ [(k, v)]
def dGetO (S : Store) (o k : D) : Option (Option D) := match o with
  | .ref n => match S[n]?, k with
    | some (.dct kvs), k => (keyD k).map fun k => valD kvs k
    | some (.dtt kvs), .tup ks => (keysD ks).map fun ks => valD kvs ks
    | _, _ => none
  | _ => none
section
variable {K : PySem.W.Frag} {B : Addr → Prop} {al : List Addr} {S : Store} {H : Hp}
theorem keyD_rep {d : D} {v : V} {k : Key} (r : RV K B al H d v) (e : keyD d = some k) : v = kV k := by
  cases r <;> simp [keyD] at e <;> subst e <;> rfl
theorem keysD_rep : ∀ {ds : List D} {vs : List V} {ks : List Key}, RL K B al H ds vs → keysD ds = some ks → vs = ks.map kV
  | _, _, _, .nil, e => by cases e; rfl
  | _, _, _, .cons d v ds vs h r, e => by
    simp only [keysD, Option.bind_eq_some_iff, Option.map_eq_some_iff] at e
    obtain ⟨k, h1, ks, h2, rfl⟩ := e
    rw [keyD_rep h h1, keysD_rep r h2]
    rfl
theorem val_rep {κ : Type} [DecidableEq κ] {k : κ} : ∀ {kvs : List (κ × D)} {es : List (κ × V)}, kvs.map (·.1) = es.map (·.1) → RL K B al H (kvs.map (·.2)) (es.map (·.2)) →
    (∃ d v, valD kvs k = some d ∧ valV es k = some v ∧ RV K B al H d v) ∨ (valD kvs k = none ∧ valV es k = none)
  | [], [], _, _ => .inr ⟨rfl, rfl⟩
  | [], _ :: _, e, _ => by simp at e
  | _ :: _, [], e, _ => by simp at e
  | (a, d) :: kvs, (b, v) :: es, e, r => by
    simp only [List.map_cons, List.cons.injEq] at e
    obtain ⟨rfl, e⟩ := e
    cases r with
    | cons _ _ _ _ h r =>
      by_cases c : a = k
      · exact .inl ⟨d, v, by simp [valD, c], by simp [valV, c], h⟩
      · rcases val_rep (k := k) e r with ⟨d', v', h1, h2, h3⟩ | ⟨h1, h2⟩
        · exact .inl ⟨d', v', by simpa [valD, c] using h1, by simpa [valV, c] using h2, h3⟩
        · exact .inr ⟨by simpa [valD, c] using h1, by simpa [valV, c] using h2⟩
/-- what a dict holds at a key -/
theorem get_rep (R : Rel K B al S H) {o k : D} {vo vk : V} (ro : RV K B al H o vo) (rk : RV K B al H k vk) {r : Option D} (e : dGetO S o k = some r) :
    ∃ a w, vo = .ref a ∧ DGet H a vk w ∧ ((∃ d v, r = some d ∧ w = some v ∧ RV K B al H d v) ∨ (r = none ∧ w = none)) := by
  unfold dGetO at e
  split at e
  · rename_i n
    cases ro with
    | ref _ a hn =>
      split at e
      · rename_i kvs k hs
        obtain ⟨kk, hk, rfl⟩ := Option.map_eq_some_iff.mp e
        obtain ⟨_, es, he, hks, rl⟩ := R.look (.ref n a hn) hs
        rw [keyD_rep rk hk]
        refine ⟨a, _, rfl, DGet.k he, ?_⟩
        rcases val_rep (k := kk) hks rl with ⟨d, v, h1, h2, h3⟩ | ⟨h1, h2⟩
        · exact .inl ⟨d, v, h1, h2, h3⟩
        · exact .inr ⟨h1, h2⟩
      · rename_i kvs ks hs
        obtain ⟨kk, hk, rfl⟩ := Option.map_eq_some_iff.mp e
        obtain ⟨_, es, he, hks, rl⟩ := R.look (.ref n a hn) hs
        cases rk with
        | tup b _ vs hb r =>
          have hb2 : H b = some (.tup vs) := hb
          rw [keysD_rep r hk] at hb2
          refine ⟨a, _, rfl, DGet.t he hb2, ?_⟩
          rcases val_rep (k := kk) hks rl with ⟨d, v, h1, h2, h3⟩ | ⟨h1, h2⟩
          · exact .inl ⟨d, v, h1, h2, h3⟩
          · exact .inr ⟨h1, h2⟩
      · cases e
  · cases e
end
def mDGet (mo mk : ME) : ME := fun ρ => bnd (mo ρ) fun o => bnd (mk ρ) fun k => fun S => (dGetO S o k).bind fun r => r.map fun d => (d, S)
def mDIn (neg : Bool) (mk md : ME) : ME := fun ρ => bnd (mk ρ) fun k => bnd (md ρ) fun o => fun S => (dGetO S o k).map fun r => (.bl (if neg then !r.isSome else r.isSome), S)
section
variable {X : Cx}
theorem dget_of {mo mk : ME} : ∀ σ H Q, tE X.K (mDGet mo mk) σ H Q → tDGet (tE X.K mo) (tE X.K mk) σ H Q := fun σ H Q ⟨B, al, S, ρ, d, S', R, er, hm, q⟩ => by
  obtain ⟨o, S1, h1, hm⟩ := bnd_some hm
  obtain ⟨k, S2, h2, hm⟩ := bnd_some hm
  cases hg : dGetO S2 o k with
  | none => rw [hg] at hm; cases hm
  | some r =>
    rw [hg, Option.bind_some] at hm
    cases r with
    | none => cases hm
    | some d1 =>
      cases hm
      refine ⟨B, al, S, ρ, o, S1, R, er, h1, fun vo al1 H1 R1 x1 ro => ⟨B, al1, S1, ρ, k, _, R1, er.mono R x1, h2, fun vk al2 H2 R2 x2 rk => ?_⟩⟩
      obtain ⟨a, w, rfl, g, hh⟩ := get_rep R2 (ro.mono R1 x2) rk hg
      rcases hh with ⟨d2, v, e1, rfl, rv⟩ | ⟨e1, _⟩
      · cases e1
        exact ⟨a, v, rfl, g, q v al2 H2 R2 (x1.trans x2) rv⟩
      · cases e1
theorem din_of {neg : Bool} {mk md : ME} : ∀ σ H Q, tE X.K (mDIn neg mk md) σ H Q → (if neg then tDNotIn (tE X.K mk) (tE X.K md) else tDIn (tE X.K mk) (tE X.K md)) σ H Q := fun σ H Q ⟨B, al, S, ρ, d, S', R, er, hm, q⟩ => by
  obtain ⟨k, S1, h1, hm⟩ := bnd_some hm
  obtain ⟨o, S2, h2, hm⟩ := bnd_some hm
  cases hg : dGetO S2 o k with
  | none => rw [hg] at hm; cases hm
  | some r =>
    rw [hg, Option.map_some] at hm
    cases hm
    have key : ∀ (Q' : VK), (∀ (al2 : List Addr) (H2 : Hp), Rel X.K B al2 S' H2 → Ex al H al2 H2 → Q' (.bl (if neg then !r.isSome else r.isSome)) H2) →
        tE X.K mk σ H fun y H1 => tE X.K md σ H1 fun x H2 => ∃ a w, x = .ref a ∧ DGet H2 a y w ∧ Q' (.bl (if neg then !w.isSome else w.isSome)) H2 := fun Q' hq =>
      ⟨B, al, S, ρ, k, S1, R, er, h1, fun vk al1 H1 R1 x1 rk => ⟨B, al1, S1, ρ, o, _, R1, er.mono R x1, h2, fun vo al2 H2 R2 x2 ro => by
        obtain ⟨a, w, rfl, g, hh⟩ := get_rep R2 ro (rk.mono R1 x2) hg
        have e : w.isSome = r.isSome := by rcases hh with ⟨d2, v, e1, e2, _⟩ | ⟨e1, e2⟩ <;> rw [e1, e2] <;> rfl
        exact ⟨a, w, rfl, g, by rw [e]; exact hq al2 H2 R2 (x1.trans x2)⟩⟩⟩
    have fin := key Q fun al2 H2 R2 x2 => q _ al2 H2 R2 x2 (.bl _)
    cases neg
    · exact fin
    · exact fin
theorem sn_dget {o i : Expr} {mo mk : ME} {pos : Pos} (hu : X.A.units + 1 < cLine) (ho : Sn X o mo) (hi : Sn X i mk) (hs : NoSl i) : Sn X (.Subscript o i pos) (mDGet mo mk) := pe_imp (pe_dget hu ho hi hs) dget_of
theorem sn_din {a b : Expr} {ma mb : ME} {pos : Pos} (hu : X.A.units + 1 < cLine) (ha : Sn X a ma) (hb : Sn X b mb) (h1 : behindInMarks .In b = false) : Sn X (.Compare a [.In] [b] pos) (mDIn false ma mb) := pe_imp (pe_cmp (pc_din hu ha hb) h1) din_of
theorem sn_dnotin {a b : Expr} {ma mb : ME} {pos : Pos} (hu : X.A.units + 1 < cLine) (ha : Sn X a ma) (hb : Sn X b mb) (h1 : behindInMarks .NotIn b = false) : Sn X (.Compare a [.NotIn] [b] pos) (mDIn true ma mb) := pe_imp (pe_cmp (pc_dnotin hu ha hb) h1) din_of
/-- {} -/
def mNewK : ME := fun _ S => some (.ref S.length, S ++ [.dct []])
def mNewT : ME := fun _ S => some (.ref S.length, S ++ [.dtt []])
theorem sn_newK {pos : Pos} : Sn X (.Dict [] [] pos) mNewK := pe_imp pe_dnewK fun σ H Q ⟨B, al, S, ρ, d, S', R, er, hm, q⟩ => by
  cases hm
  intro p h0
  obtain ⟨x, R2⟩ := R.new (o := .dK []) (u := .dct []) h0 fun _ => ⟨[], upd_same, rfl, .nil⟩
  exact q (.ref p) _ _ R2 x (.ref _ p (by rw [← R.len]; simp))
theorem sn_newT {pos : Pos} : Sn X (.Dict [] [] pos) mNewT := pe_imp pe_dnewT fun σ H Q ⟨B, al, S, ρ, d, S', R, er, hm, q⟩ => by
  cases hm
  intro p h0
  obtain ⟨x, R2⟩ := R.new (o := .dT []) (u := .dtt []) h0 fun _ => ⟨[], upd_same, rfl, .nil⟩
  exact q (.ref p) _ _ R2 x (.ref _ p (by rw [← R.len]; simp))
end
section
variable {K : PySem.W.Frag} {B : Addr → Prop} {al : List Addr} {S : Store} {H : Hp}
theorem put_map {κ : Type} [DecidableEq κ] {k : κ} {d : D} {v : V} (rv : RV K B al H d v) : ∀ {kvs : List (κ × D)} {es : List (κ × V)}, kvs.map (·.1) = es.map (·.1) → RL K B al H (kvs.map (·.2)) (es.map (·.2)) →
    (kvs.map fun kv => if kv.1 = k then (kv.1, d) else kv).map (·.1) = (es.map fun kv => if kv.1 = k then (kv.1, v) else kv).map (·.1) ∧
    RL K B al H ((kvs.map fun kv => if kv.1 = k then (kv.1, d) else kv).map (·.2)) ((es.map fun kv => if kv.1 = k then (kv.1, v) else kv).map (·.2))
  | [], [], _, _ => ⟨rfl, .nil⟩
  | [], _ :: _, e, _ => by simp at e
  | _ :: _, [], e, _ => by simp at e
  | (a, c) :: kvs, (b, u) :: es, e, r => by
    simp only [List.map_cons, List.cons.injEq] at e
    obtain ⟨rfl, e⟩ := e
    cases r with
    | cons _ _ _ _ h r =>
      obtain ⟨h1, h2⟩ := put_map rv e r
      simp only [List.map_cons]
      by_cases ck : a = k
      · simp only [ck, if_true]
        exact ⟨by rw [h1], .cons _ _ _ _ rv h2⟩
      · simp only [ck, if_false]
        exact ⟨by rw [h1], .cons _ _ _ _ h h2⟩
theorem any_keys {κ : Type} [DecidableEq κ] {k : κ} {α β : Type} : ∀ {kvs : List (κ × α)} {es : List (κ × β)}, kvs.map (·.1) = es.map (·.1) → (kvs.any fun kv => decide (kv.1 = k)) = (es.any fun kv => decide (kv.1 = k))
  | [], [], _ => rfl
  | [], _ :: _, e => by simp at e
  | _ :: _, [], e => by simp at e
  | (a, c) :: kvs, (b, u) :: es, e => by
    simp only [List.map_cons, List.cons.injEq] at e
    obtain ⟨rfl, e⟩ := e
    simp only [List.any_cons, any_keys e]
theorem put_rl {κ : Type} [DecidableEq κ] {k : κ} {d : D} {v : V} (rv : RV K B al H d v) {kvs : List (κ × D)} {es : List (κ × V)} (e : kvs.map (·.1) = es.map (·.1)) (r : RL K B al H (kvs.map (·.2)) (es.map (·.2))) :
    (putD kvs k d).map (·.1) = (putK es k v).map (·.1) ∧ RL K B al H ((putD kvs k d).map (·.2)) ((putK es k v).map (·.2)) := by
  unfold putD putK
  rw [any_keys (k := k) e]
  split
  · exact put_map rv e r
  · simp only [List.map_append]
    exact ⟨by rw [e]; rfl, r.append (.cons _ _ _ _ rv .nil)⟩
end
def dPutS (S : Store) (o k v : D) : Option Store := match o with
  | .ref n => match S[n]?, k with
    | some (.dct kvs), k => (keyD k).bind fun k => if kvs.length < lim then some (S.set n (.dct (putD kvs k v))) else none
    | some (.dtt kvs), .tup ks => (keysD ks).bind fun ks => if kvs.length < lim then some (S.set n (.dtt (putD kvs ks v))) else none
    | _, _ => none
  | _ => none
def mSetD (mo mk mv : ME) : MS := fun ρ S => match mv ρ S with
  | none => none
  | some (v, S1) => match mo ρ S1 with
    | none => none
    | some (o, S2) => match mk ρ S2 with
      | none => none
      | some (k, S3) => (dPutS S3 o k v).map fun S4 => (.nx ρ, S4)
section
variable {K : PySem.W.Frag} {B : Addr → Prop} {al : List Addr} {S S' : Store} {H : Hp}
theorem put_rep (R : Rel K B al S H) {o k v : D} {vo vk vv : V} (ro : RV K B al H o vo) (rk : RV K B al H k vk) (rv : RV K B al H v vv) (e : dPutS S o k v = some S') :
    ∃ a H', vo = .ref a ∧ DPut H a vk vv H' ∧ Rel K B al S' H' ∧ Ex al H al H' := by
  unfold dPutS at e
  split at e
  · rename_i n
    cases ro with
    | ref _ a hn =>
      split at e
      · rename_i k kvs hs
        obtain ⟨kk, hk, e⟩ := Option.bind_eq_some_iff.mp e
        split at e
        · rename_i hl
          cases e
          obtain ⟨_, es, he, hks, rl⟩ := R.look (.ref n a hn) hs
          have hle : es.length = kvs.length := by have := congrArg List.length hks; simpa using this.symm
          rw [keyD_rep rk hk]
          obtain ⟨p1, p2⟩ := put_rl (k := kk) rv hks rl
          obtain ⟨x, R2⟩ := R.put (o := .dK (putK es kk vv)) (u := .dct (putD kvs kk v)) hn (fun _ z => nomatch z) fun x => ⟨_, upd_same, p1, p2.mono R x⟩
          exact ⟨a, _, rfl, DPut.k he (lim_lt (by omega)), R2, x⟩
        · cases e
      · rename_i kvs ks hs
        obtain ⟨kk, hk, e⟩ := Option.bind_eq_some_iff.mp e
        split at e
        · rename_i hl
          cases e
          obtain ⟨_, es, he, hks, rl⟩ := R.look (.ref n a hn) hs
          have hle : es.length = kvs.length := by have := congrArg List.length hks; simpa using this.symm
          cases rk with
          | tup b _ vs hb r =>
            have hb2 : H b = some (.tup vs) := hb
            rw [keysD_rep r hk] at hb2
            obtain ⟨p1, p2⟩ := put_rl (k := kk) rv hks rl
            obtain ⟨x, R2⟩ := R.put (o := .dT (putK es kk vv)) (u := .dtt (putD kvs kk v)) hn (fun _ z => nomatch z) fun x => ⟨_, upd_same, p1, p2.mono R x⟩
            exact ⟨a, _, rfl, DPut.t he hb2 (lim_lt (by omega)), R2, x⟩
        · cases e
      · cases e
  · cases e
end
section
variable {X : Cx} {W : Str → Hp → Prop}
theorem ss_setD {o i e : Expr} {mo mi mv : ME} {pos p2 : Pos} (hu : X.A.units + 1 < cLine) (hv : Sn X e mv) (ho : Sn X o mo) (hi : Sn X i mi) (hs : swapsWith e (some (.Subscript o i p2)) pos.line X.env = pure false := by rfl) : Ss X W (.Assign [.Subscript o i p2] e pos) (mSetD mo mi mv) :=
  ps_imp (ps_dput hu ho hi hv hs) fun D σ H ⟨B, al, S, ρ, oo, S', R, er, hm, p⟩ => by
    unfold mSetD at hm
    split at hm
    · cases hm
    · rename_i v S1 h1
      split at hm
      · cases hm
      · rename_i o S2 h2
        split at hm
        · cases hm
        · rename_i k S3 h3
          cases hg : dPutS S3 o k v with
          | none => rw [hg] at hm; cases hm
          | some S4 =>
            rw [hg] at hm
            cases hm
            refine ⟨B, al, S, ρ, v, _, R, er, h1, fun vv al1 H1 R1 x1 r1 => ⟨B, al1, S1, ρ, o, S2, R1, er.mono R x1, h2, fun vo al2 H2 R2 x2 r2 => ⟨B, al2, S2, ρ, k, S3, R2, (er.mono R x1).mono R1 x2, h3, fun vk al3 H3 R3 x3 r3 => ?_⟩⟩⟩
            obtain ⟨a, H4, rfl, g, R4, x4⟩ := put_rep R3 (r2.mono R2 x3) r3 ((r1.mono R1 x2).mono R2 x3) hg
            exact ⟨a, H4, rfl, g, p σ al3 H4 R4 (((x1.trans x2).trans x3).trans x4) ((((er.mono R x1).mono R1 x2).mono R2 x3).mono R3 x4)⟩
end
end Z
set_option Elab.async false
set_option linter.all false
set_option maxRecDepth 100000
/-! Tuples of whole numbers whose object is known; their method index. -/
namespace L2
open PySem PySem.Spec PyProof.Rows
/-- tuple(a list of whole numbers): the new object is known -/
def rTupX (K : PySem.W.Frag) : List V → Hp → VK → Prop := fun xs H Q => ∃ (p : Addr) (ns : List Int), xs = [.ref p] ∧ SqL K H p (ns.map V.int) ∧ ∀ (l : Addr) (o : Obj), H l = none → o.dict = none → Q (.ref l) (upd H l (.frz o (.tup (ns.map V.int))))
theorem call_tupX {X : Cx} : CallR X (.type "tuple") (rTupX X.K) := by
  intro pins s σ H xs us Q I r h
  obtain ⟨p, ns, rfl, hq, q⟩ := h
  cases r with
  | cons rx rt =>
  cases rt
  cases rx
  obtain ⟨its, r', pl, hz⟩ := I.list hq
  have hlen := r'.length
  refine call_tuple_list pl.isList (fun h' kp => ?_) (by simp only [List.size_toArray] <;> omega)
  have I1 : Inv X pins σ H { s with heap := h' } := I.kept (t' := s.toks) kp
  have I2 : Inv X pins σ (upd H h'.objs.size (.frz { cls := .type "tuple", data := .seq its.toArray } (.tup (ns.map V.int)))) { s with heap := h'.push { cls := .type "tuple", data := .seq its.toArray } } :=
    I1.laid (t' := s.toks) (fun b o e => Heap.get?_push_of_some _ e) (Nat.le_refl _) (show ObjOk X.prog X.w _ _ _ (.frz _ (.tup (ns.map V.int))) from ⟨Heap.get?_push_size _ rfl, hz, its, r', IsTup.new _ _⟩)
  exact ⟨.ref h'.objs.size, _, I2, rfl, q _ _ (I1.hok.fresh (Nat.le_refl _)) rfl⟩
/-- t.index(i), i there -/
def tyX (x : V) (H : Hp) : Prop := ∃ (a : Addr) (o : Obj) (ns : List Int), x = .ref a ∧ H a = some (.frz o (.tup (ns.map V.int))) ∧ o.dict = none
def rTix (K : PySem.W.Frag) : V → List V → Hp → VK → Prop := fun x xs H Q => ∃ (a : Addr) (o : Obj) (ns : List Int) (k : Int), x = .ref a ∧ xs = [.int k] ∧ H a = some (.frz o (.tup (ns.map V.int))) ∧ k ∈ ns ∧ Q (.int (ns.idxOf k : Nat)) H
theorem mt_tix {X : Cx} : MtR X "tuple.index" (rTix X.K) := by
  intro pins s σ H x xs v us Q I rx rxs h
  obtain ⟨a, o, ns, k, rfl, rfl, ha, hk, q⟩ := h
  cases rx
  cases rxs with
  | cons ry rt =>
    cases rt
    obtain ⟨t, rfl⟩ := ry
    obtain ⟨_, hz, its, rv, ht⟩ := I.hok a _ ha
    have hi := rv.ints
    have ht' : s.heap.IsTuple a its.toArray := ht
    exact PySem.SeqAt.tuple_index_ints ht' hi hk ⟨.int (ns.idxOf k : Nat), H, I.kept (t' := s.toks + 1) (fun _ _ e => e), ⟨_, rfl⟩, q⟩
def tBMX (r : V → List V → Hp → VK → Prop) (to : TE) (t : TA) : TE := fun σ H Q => to σ H fun x H1 => tyX x H1 ∧ t σ H1 fun xs H2 => r x xs H2 Q
theorem pe_bmX {X : Cx} {o e : Expr} {es : List Expr} {to : TE} {t : TA} {name : Str} {apos cpos : Pos} {id : String} {r : V → List V → Hp → VK → Prop}
    (pa : PlainAttrs "tuple") (slot : Slot "tuple" name id) (hty : typeOf (.builtin id) = pure (.type "method_descriptor")) (hm : MtR X id r) (ho : PE X o to) (ha : PA X (e :: es) t)
    (hbase : attributeBase o name X.env (eval o X.env) = eval o X.env := by rfl)
    (hfew : ((backTo cpos (starEach (e :: es) X.env)).all (fun x => !x.1) && (backToKw cpos (keywordEach [] X.env)).all (fun x => x.1.isSome)
      && decide ((e :: es).length + ([] : List Keyword).length + (if ([] : List Keyword).isEmpty then 0 else 1) < 30)) = true := by rfl)
    (hline : (apos.endLine == cpos.line) = true := by rfl) (hs : starEach (e :: es) X.env = (false, eval e X.env) :: starEach es X.env := by rfl) (hplain : (backTo cpos (starEach es X.env)).any (·.1) = false := by rfl) :
    PE X (.Call (.Attribute o name apos) (e :: es) [] cpos) (tBMX r to t) := by
  refine ⟨fun pins s σ H Q I h => ?_⟩
  refine wpAny_Call_method_late hbase hfew hline rfl (thn (ho.run pins s σ H _ I h) fun v s1 ⟨x, H1, I1, r1, ty, q1⟩ => ?_)
  have h12 : s1.TypeIs v "tuple" ∧ ∀ a, v = .ref a → ∃ ob, s1.heap.get? a = some ob ∧ ob.dict = none := by
    obtain ⟨a, ob, ns, rfl, hh, hd⟩ := ty
    cases r1
    obtain ⟨g1, hz, its, rv, o2, g2, g3, _⟩ := I1.hok a _ hh
    exact ⟨⟨o2, g2, g3⟩, fun b e => by cases e; exact ⟨ob, g1, hd⟩⟩
  obtain ⟨h1, h2⟩ := h12
  refine ⟨"tuple", id, pa, slot, hty, h1, h2, ?_⟩
  have hA := ha.run cpos pins s1 σ H1 _ I1 q1
  rw [hs] at hA ⊢
  refine Calls.callWith_builtin (by show (false || (backTo cpos (starEach es X.env)).any (·.1)) = false; rw [hplain] <;> rfl) (Calls.evalArgs_plain ?_)
  exact thn hA fun us s2 ⟨vs, H2, I2, r2, q2⟩ => hm pins s2 σ H2 x vs v us Q I2 r1 r2 q2
end L2
namespace Z
open PySem L2
def cTupX (ds : List D) : M D := fun S => match ds with
  | [d] => (asLC S d).bind fun xs => (intsOf xs).map fun ns => (.tpi ns, S)
  | _ => none
theorem c_tupX {K : PySem.W.Frag} : CRS K (rTupX K) cTupX := fun B al S H ds z vs S' R r1 h Q q => by
  unfold cTupX at h
  split at h
  · rename_i d
    cases hx : asLC S d with
    | none => rw [hx] at h; cases h
    | some xs =>
      rw [hx, Option.bind_some] at h
      cases hy : intsOf xs with
      | none => rw [hy] at h; cases h
      | some ns =>
        rw [hy] at h
        cases h
        obtain ⟨v, rfl, rv⟩ := rl_one r1
        obtain ⟨a, us, rfl, ha, ra⟩ := asLC_rep R rv hx
        obtain ⟨e, _⟩ := ints_rep ra hy
        subst e
        refine ⟨a, ns, rfl, ha, fun p o hp hd => ?_⟩
        obtain ⟨x, R1⟩ := R.side (o := .frz o (.tup (ns.map V.int))) hp
        exact q _ al _ R1 x (.tpi p _ ⟨o, ⟨upd_same, R.fresh hp, R.freshB hp⟩, hd⟩)
  · cases h
def mTix (mo mk : ME) : ME := fun ρ => bnd (mo ρ) fun o => match o with
  | .tpi ns => bnd (mk ρ) fun k => match k with
    | .int i => if i ∈ ns then ret (.int (ns.idxOf i : Nat)) else fail
    | _ => fail
  | _ => fail
section
variable {X : Cx} {o e : Expr} {mo mk : ME}
theorem tix_of : ∀ σ H Q, tE X.K (mTix mo mk) σ H Q → tBMX (rTix X.K) (tE X.K mo) (tA X.K (mCons mk mNil)) σ H Q := fun σ H Q ⟨B, al, S, ρ, d, S', R, er, hm, q⟩ => by
  obtain ⟨o, S1, h1, hm⟩ := bnd_some hm
  split at hm
  · rename_i ns
    obtain ⟨k, S2, h2, hm⟩ := bnd_some hm
    split at hm
    · rename_i i
      split at hm
      · rename_i hi
        obtain ⟨rfl, rfl⟩ := ret_some hm
        refine ⟨B, al, S, ρ, _, S1, R, er, h1, fun v al1 H1 R1 x1 r1 => ?_⟩
        cases r1 with
        | tpi a _ h =>
          have h0 := h
          obtain ⟨ob, ⟨g1, g2, g3⟩, g4⟩ := h
          refine ⟨⟨a, ob, ns, rfl, g1, g4⟩, B, al1, S1, ρ, [.int i], S2, R1, er.mono R x1, ?_, fun vs al2 H2 R2 x2 r2 => ?_⟩
          · show mCons mk mNil ρ S1 = _
            unfold mCons bnd mNil ret
            simp only [h2]
          · obtain ⟨w, rfl, rw'⟩ := rl_one r2
            cases rw'
            exact ⟨a, ob, ns, i, rfl, rfl, (x2.fr _ _ g1 g2).1, hi, q _ al2 H2 R2 (x1.trans x2) (.int _)⟩
      · cases hm
    · cases hm
  · cases hm
theorem sn_tix {apos cpos : Pos} (ho : Sn X o mo) (he : Sn X e mk)
    (h : PE X (.Call (.Attribute o (PySem.Str.ofString "index") apos) [e] [] cpos) (tBMX (rTix X.K) (tE X.K mo) (tA X.K (mCons mk mNil)))) : Sn X (.Call (.Attribute o (PySem.Str.ofString "index") apos) [e] [] cpos) (mTix mo mk) := pe_imp h tix_of
@[simp] theorem wp_mTix {ρ : Env} {S : Store} {Q} : wp (mTix mo mk ρ) S Q ↔ wp (mo ρ) S fun o S1 => ∃ ns, o = .tpi ns ∧ wp (mk ρ) S1 fun k S2 => ∃ i, k = .int i ∧ i ∈ ns ∧ Q (.int (ns.idxOf i : Nat)) S2 := by
  unfold mTix
  rw [wp_bnd]
  constructor
  · rintro ⟨d, S1, h, q⟩
    refine ⟨d, S1, h, ?_⟩
    split at q
    · rename_i ns
      rw [wp_bnd] at q
      refine ⟨ns, rfl, wp_mono q fun k S2 q => ?_⟩
      split at q
      · rename_i i
        split at q
        · rename_i hi; exact ⟨i, rfl, hi, wp_ret.mp q⟩
        · simp at q
      · simp at q
    · simp at q
  · rintro ⟨d, S1, h, ns, rfl, q⟩
    refine ⟨_, S1, h, ?_⟩
    simp only [wp_bnd]
    refine wp_mono q ?_
    rintro k S2 ⟨i, rfl, hi, q⟩
    simp only [hi, if_true]
    exact wp_ret.mpr q
theorem wp_cTupX {d : D} {S : Store} {ns : List Int} {Q} (h : asLC S d = some (ns.map .int)) (q : Q (.tpi ns) S) : wp (cTupX [d]) S Q := ⟨_, _, by simp only [cTupX, h, Option.bind_some, intsOf_map, Option.map_some], q⟩
@[simp] theorem wp_cTupX_l {S : Store} {ns : List Int} {Q} : wp (cTupX [.lst (ns.map .int)]) S Q ↔ Q (.tpi ns) S := ⟨fun ⟨d, S', e, q⟩ => by
  simp only [cTupX, asLC, asL, Option.bind_some, intsOf_map, Option.map_some, Option.some.injEq, Prod.mk.injEq] at e
  obtain ⟨rfl, rfl⟩ := e; exact q, fun q => wp_cTupX (asLC_lst.mpr rfl) q⟩
end
theorem st_din {X : Cx} {a b : Expr} {ma mb : ME} {pos : Pos} (hu : X.A.units + 1 < cLine) (ha : Sn X a ma) (hb : Sn X b mb) (h1 : behindInMarks .In b = false) : Stt X (.Compare a [.In] [b] pos) (mB (mDIn false ma mb)) :=
  pt_imp (pt_cmp (pc_din hu ha hb) h1) fun σ H Q ⟨B, al, S, ρ, z, S', R, er, hm, q⟩ => din_of (neg := false) σ H _ ⟨B, al, S, ρ, .bl z, S', R, er, mB_some hm, fun v al' H' R' x r => by cases r; exact ⟨z, rfl, q z al' H' R' x rfl⟩⟩
theorem st_dnotin {X : Cx} {a b : Expr} {ma mb : ME} {pos : Pos} (hu : X.A.units + 1 < cLine) (ha : Sn X a ma) (hb : Sn X b mb) (h1 : behindInMarks .NotIn b = false) : Stt X (.Compare a [.NotIn] [b] pos) (mB (mDIn true ma mb)) :=
  pt_imp (pt_cmp (pc_dnotin hu ha hb) h1) fun σ H Q ⟨B, al, S, ρ, z, S', R, er, hm, q⟩ => din_of (neg := true) σ H _ ⟨B, al, S, ρ, .bl z, S', R, er, mB_some hm, fun v al' H' R' x r => by cases r; exact ⟨z, rfl, q z al' H' R' x rfl⟩⟩
/-! ### dicts, what they come to -/
section
variable {S : Store} {ρ : Env}
@[simp] theorem wp_mNewK {Q} : wp (mNewK ρ) S Q ↔ Q (.ref S.length) (S ++ [.dct []]) := ⟨fun ⟨d, T, e, q⟩ => by cases e; exact q, fun q => ⟨_, _, rfl, q⟩⟩
@[simp] theorem wp_mNewT {Q} : wp (mNewT ρ) S Q ↔ Q (.ref S.length) (S ++ [.dtt []]) := ⟨fun ⟨d, T, e, q⟩ => by cases e; exact q, fun q => ⟨_, _, rfl, q⟩⟩
@[simp] theorem wp_mDGet {mo mk : ME} {Q} : wp (mDGet mo mk ρ) S Q ↔ wp (mo ρ) S fun o S1 => wp (mk ρ) S1 fun k S2 => ∃ d, dGetO S2 o k = some (some d) ∧ Q d S2 := by
  unfold mDGet
  simp only [wp_bnd]
  constructor
  · rintro ⟨o, S1, h1, k, S2, h2, d, S3, e, q⟩
    refine ⟨o, S1, h1, k, S2, h2, ?_⟩
    dsimp only at e
    cases hg : dGetO S2 o k with
    | none => rw [hg] at e; cases e
    | some r =>
      rw [hg, Option.bind_some] at e
      cases r with
      | none => cases e
      | some d1 => cases e; exact ⟨_, hg, q⟩
  · rintro ⟨o, S1, h1, k, S2, h2, d, e, q⟩
    exact ⟨o, S1, h1, k, S2, h2, d, S2, by simp only [e, Option.bind_some, Option.map_some], q⟩
@[simp] theorem wp_mDIn {neg : Bool} {mo mk : ME} {Q} : wp (mDIn neg mk mo ρ) S Q ↔ wp (mk ρ) S fun k S1 => wp (mo ρ) S1 fun o S2 => ∃ r, dGetO S2 o k = some r ∧ Q (.bl (if neg then !r.isSome else r.isSome)) S2 := by
  unfold mDIn
  simp only [wp_bnd]
  constructor
  · rintro ⟨o, S1, h1, k, S2, h2, d, S3, e, q⟩
    refine ⟨o, S1, h1, k, S2, h2, ?_⟩
    dsimp only at e
    cases hg : dGetO S2 k o with
    | none => rw [hg] at e; cases e
    | some r =>
      rw [hg, Option.map_some] at e
      cases e
      exact ⟨r, hg, q⟩
  · rintro ⟨o, S1, h1, k, S2, h2, d, e, q⟩
    exact ⟨o, S1, h1, k, S2, h2, _, S2, by simp only [e, Option.map_some], q⟩
@[simp] theorem wps_setD {mo mk mv : ME} {Q} : wps (mSetD mo mk mv) ρ S Q ↔ wp (mv ρ) S fun v S1 => wp (mo ρ) S1 fun o S2 => wp (mk ρ) S2 fun k S3 => ∃ S4, dPutS S3 o k v = some S4 ∧ Q (.nx ρ) S4 := by
  constructor
  · rintro ⟨o, S', e, q⟩
    unfold mSetD at e
    split at e
    · cases e
    · rename_i v S1 h1
      split at e
      · cases e
      · rename_i o S2 h2
        split at e
        · cases e
        · rename_i k S3 h3
          cases hg : dPutS S3 o k v with
          | none => rw [hg] at e; cases e
          | some S4 => rw [hg] at e; cases e; exact ⟨v, S1, h1, o, S2, h2, k, S3, h3, _, hg, q⟩
  · rintro ⟨v, S1, h1, o, S2, h2, k, S3, h3, S4, hg, q⟩
    exact ⟨_, _, by simp only [mSetD, h1, h2, h3, hg, Option.map_some], q⟩
end
end Z
set_option Elab.async false
set_option linter.all false
set_option maxRecDepth 100000
/-! List comprehensions of three fors: a clause's loop, whatever its body does. -/
namespace L2
open PySem PySem.Spec PyProof.Rows

abbrev TBd := L2.St → Hp → (Hp → Prop) → Prop
section
variable {P : Program} {w : World} {A : Around} {R : Result → Shared → Prop}
abbrev Nt (P : Program) (w : World) (A : Around) (env : Env) (R : Result → Shared → Prop) : Value → Shared → Prop := notedBy (model P w) A env fun x t => R (.error x) t
/-- a clause's loop at depth d: each turn takes an item, stores it, asks the tests, does the body -/
theorem clause_loop {s : Shared} {eL : Expr} {gs : List Comprehension} {scope : Scope} {pos : Pos} {d : Nat} {it acc : Value} {env : Env} {tg ix : Expr} {ifs : List Expr} {body : Sem Fin → Sem Fin}
    (heq : compTurn (.ListComp eL gs scope pos) d it acc env = (do
      standAt ix.pos
      match ← pyNext it with
      | none => pure (.done .next)
      | some v =>
        letOwnedTupleGo tg it v
        assign tg env v
        let mut ok := true
        for c in ifs do
          if ok then ok ← isTrue c env (eval c env)
        if ok then body (again (.compLoop (.ListComp eL gs scope pos) d it acc env)) else again (.compLoop (.ListComp eL gs scope pos) d it acc env)))
    (J : Nat → Shared → Prop)
    (turn : ∀ k t, J k t → wpAny (model P w) A (pyNext it) (fun r t1 => match r with
      | none => R (.ok .next) t1
      | some v => wpAny (model P w) A (letOwnedTupleGo tg it v) (fun _ t2 => wpAny (model P w) A (assign tg env v) (fun _ t3 =>
          wpAny (model P w) A (forIn ifs true fun c r => if r = true then do let ok ← isTrue c env (eval c env); pure (ForInStep.yield ok) else pure (ForInStep.yield r)) (fun ok t4 =>
            if ok = true then wpAny (model P w) A (body (again (.compLoop (.ListComp eL gs scope pos) d it acc env))) (fun fin t5 => match fin with | .done f => R (.ok f) t5 | .again c => c = .compLoop (.ListComp eL gs scope pos) d it acc env ∧ ∃ m, m < k ∧ J m t5) (Nt P w A env R) t4
            else ∃ m, m < k ∧ J m t4) (Nt P w A env R) t3) (Nt P w A env R) t2) (Nt P w A env R) t1) (Nt P w A env R) t)
    (k : Nat) (hk : J k s) : codeAny (model P w) A (.compLoop (.ListComp eL gs scope pos) d it acc env) R s := by
  refine codeAny_loop rfl J (fun k t hJ => ?_) k hk
  show wpAny _ A ((compTurn (.ListComp eL gs scope pos) d it acc env).onRaise (fun x => do noteFrame x env; theTreesLotGoes x)) _ _ t
  refine wpAny_noted ?_
  rw [heq]
  refine wpAny_bind (wpAny_standAt (wpAny_bind (wpAny_mono (turn k t hJ) (fun r t1 g1 => ?_) fun _ _ z => z)))
  cases r with
  | none => exact wpAny_pure g1
  | some v =>
    refine wpAny_bind (wpAny_mono g1 (fun _ t2 g2 => ?_) fun _ _ z => z)
    refine wpAny_bind (wpAny_mono g2 (fun _ t3 g3 => wpAny_bind (wpAny_mono g3 (fun ok t4 g4 => ?_) fun _ _ z => z)) fun _ _ z => z)
    cases ok with
    | false => exact wpAny_pure ⟨rfl, g4⟩
    | true => exact g4
/-- the start of a later clause -/
theorem clause_start {s : Shared} {eL : Expr} {gs : List Comprehension} {scope : Scope} {pos : Pos} {d : Nat} {it acc : Value} {env : Env} {tg ix : Expr} {ifs : List Expr} (hcl : (clausesOf (.ListComp eL gs scope pos))[d]? = some ⟨tg, ix, ifs, 0⟩)
    (h0 : codeAny (model P w) A (.compLoop (.ListComp eL gs scope pos) d it acc env) R s)
    (h : wpAny (model P w) A (pyIter it) (fun jt t => codeAny (model P w) A (.compLoop (.ListComp eL gs scope pos) d jt acc env) R t) (Nt P w A env R) s) :
    codeAny (model P w) A (.compStart (.ListComp eL gs scope pos) d it acc env) R s := by
  refine codeAny_of_tree ?_
  show wpAny _ _ ((compStart (.ListComp eL gs scope pos) d it acc env).onRaise (fun x => do noteFrame x env; standAt theWindowsPlace)) _ _ s
  refine wpAny_notedAt ?_
  unfold compStart
  rw [hcl]
  show wpAny _ _ (ask >>= _) _ _ s
  refine wpAny_bind (wpAny_askSetting (wpAny_ite ?_))
  split
  · first
      | exact wpAny_pure ⟨rfl, h0⟩
      | exact wpAny_bind (wpAny_pure (wpAny_pure ⟨rfl, h0⟩))
  · refine wpAny_bind (wpAny_rule ?_)
    show wpAny _ _ (standAt ix.pos >>= _) _ _ s
    exact wpAny_bind (wpAny_standAt (wpAny_bind (wpAny_mono h (fun jt t g => wpAny_pure ⟨rfl, g⟩) fun _ _ z => z)))
end

/-- what a body of a clause does: Y the block's context; its own names are forgotten behind it -/
def PB (Y : Cx) (body : Sem Fin → Sem Fin) (tb : TBd) (V : List Nat) : Prop := ∀ (pins : List (Addr × Obj)) (s : Shared) (σ : L2.St) (H : Hp) (N : Hp → Prop) (k : Sem Fin) (Q : Fin → Shared → Prop) (E : Value → Shared → Prop), Inv Y pins σ H s → tb σ H N →
  (∀ t H', Inv Y pins (wipe σ V) H' t → N H' → wpAny (model Y.prog Y.w) Y.A k Q E t) → wpAny (model Y.prog Y.w) Y.A (body k) Q E s
/-- a clause's loop, read -/
def tLv (J : It) (g : TG) (tt : TT) (tb : TBd) (V : List Nat) : TBd := fun σ H N => ∃ W : Nat → Nat → Hp → Prop, (∃ m, W 0 m H) ∧ ∀ i m H, W i m H →
  (J.stop i H ∧ N H) ∨ (J.go i H ∧ ∃ M : Hp → Prop, (∀ H', M H' → ∃ m', m' < m ∧ W (i + 1) m' H') ∧
    ∀ x H', J.yld i H x H' → g x (wipe σ V) H' fun σ2 H2 => wipe σ2 V = wipe σ V ∧ tt σ2 H2 fun b H3 => if b = true then tb σ2 H3 M else M H3)
section
variable {Y : Cx}
theorem clause_run (hc : Y.calm = true) (hx : ∀ e s, ¬ Y.xe e s) {R : Result → Shared → Prop} {eL : Expr} {gs : List Comprehension} {scope : Scope} {pos : Pos} {d : Nat} {it : Addr} {acc : Value} {tg ix : Expr} {ifs : List Expr} {body : Sem Fin → Sem Fin}
    (heq : compTurn (.ListComp eL gs scope pos) d (.ref it) acc Y.env = (do
      standAt ix.pos
      match ← pyNext (.ref it) with
      | none => pure (.done .next)
      | some v =>
        letOwnedTupleGo tg (.ref it) v
        assign tg Y.env v
        let mut ok := true
        for c in ifs do
          if ok then ok ← isTrue c Y.env (eval c Y.env)
        if ok then body (again (.compLoop (.ListComp eL gs scope pos) d (.ref it) acc Y.env)) else again (.compLoop (.ListComp eL gs scope pos) d (.ref it) acc Y.env)))
    {g : TG} {tt : TT} {tb : TBd} {V U : List Nat} (pg : PG Y tg g) (pt : PTs Y ifs tt) (pb : PB Y body tb U) (hU : ∀ i ∈ U, i ∈ V)
    {pins : List (Addr × Obj)} {σ : L2.St} {H : Hp} {s : Shared} {fp : List Addr} {tn : Nat → Heap → Prop} {J : It} {N : Hp → Prop} (I : Inv Y pins σ H s) (T : Turn Y.prog Y.w Y.K tg J fp it tn) (st : tn 0 s.heap)
    (f : ∀ b ∈ fp, FpOk Y pins H b) (h : tLv J g tt tb V σ H N) (hR : ∀ t H', Inv Y pins (wipe σ V) H' t → N H' → R (.ok .next) t) :
    codeAny (model Y.prog Y.w) Y.A (.compLoop (.ListComp eL gs scope pos) d (.ref it) acc Y.env) R s := by
  obtain ⟨W, ⟨m0, w0⟩, turn⟩ := h
  have fpk : ∀ {H' : Hp}, (∀ b ∈ fp, H' b = none) → ∀ b ∈ fp, FpOk Y pins H' b := fun hn b hb => ⟨hn b hb, (f b hb).2⟩
  refine clause_loop heq (fun k t => ∃ i H', Inv Y pins (wipe σ V) H' t ∧ tn i t.heap ∧ (∀ b ∈ fp, H' b = none) ∧ W i k H') ?_ m0 ⟨0, H, I.weak (wipe_length _ _) (fun j v q => (wipe_some q).1), st, fun b hb => (f b hb).1, w0⟩
  rintro k t ⟨i, Ha, Ia, sa, na, wa⟩
  rcases turn i k Ha wa with ⟨stop, nx⟩ | ⟨go, M, hM, step⟩
  · exact thnF (T.done Y rfl rfl rfl hc i pins t (wipe σ V) Ha (fun _ _ => False) Ia (fpk na) sa stop) fun r t1 ⟨hr, I1⟩ => by subst hr; exact hR t1 Ha I1 nx
  · refine thnF (T.item Y rfl rfl rfl hc i pins t (wipe σ V) Ha (fun _ _ => False) Ia (fpk na) sa go) fun r t1 ⟨u, hr, q1⟩ => ?_
    subst hr
    refine thnF q1 fun _ t2 ⟨x, Hb, Ib, rb, yb, sb, nb⟩ => ?_
    have Ip := Ib.pinned (fpk nb) (T.obj _ _ sb)
    have thX : ∀ {α : Type} {m : Sem α} {Q Q' : α → Shared → Prop} {E : Value → Shared → Prop} {t : Shared}, wpAny (model Y.prog Y.w) Y.A m Q Y.xe t → (∀ a t, Q a t → Q' a t) → wpAny (model Y.prog Y.w) Y.A m Q' E t :=
      fun a b => wpAny_mono a b fun e s z => (hx e s z).elim
    refine thX (pg.run _ t2 _ Hb x u _ Ip rb (step x Hb yb)) fun _ t3 ⟨σc, Hc, Ic, wc, qc⟩ => ?_
    refine thX (pt.run _ t3 σc Hc _ Ic qc) fun b t4 ⟨Hd, Id, qd⟩ => ?_
    have back : ∀ {τ : L2.St} {t5 : Shared} {He : Hp}, Inv Y (pins ++ pinsAt fp t2.heap) τ He t5 → τ.length = σc.length → (∀ (j : Nat) v, (wipe σc V)[j]? = some (some v) → τ[j]? = some (some v)) → M He →
        ∃ m, m < k ∧ ∃ i H', Inv Y pins (wipe σ V) H' t5 ∧ tn i t5.heap ∧ (∀ b ∈ fp, H' b = none) ∧ W i m H' := fun {τ t5 He} Ie hl hk nx => by
      obtain ⟨m', hm, w'⟩ := hM He nx
      have held : ∀ b ∈ fp, ∀ o, t2.heap.get? b = some o → t5.heap.get? b = some o ∧ He b = none := fun b hb o q =>
        have z := Ie.pin (b, o) (List.mem_append_right _ (List.mem_append_right _ (mem_pinsAt hb q)))
        ⟨z.1, z.2.1⟩
      refine ⟨m', hm, i + 1, He, Ie.unpinned.weak (by rw [hl, ← wipe_length σc V, wc]) (fun j v q => hk j v (by rw [wc]; exact q)), T.keep _ _ _ sb fun b hb o q => (held b hb o q).1, fun b hb => ?_, w'⟩
      obtain ⟨o, q, _⟩ := T.obj _ _ sb b hb
      exact (held b hb o q).2
    cases b with
    | false =>
      rw [if_neg (by decide)] at qd ⊢
      exact back Id rfl (fun j v q => (wipe_some q).1) qd
    | true =>
      rw [if_pos rfl] at qd ⊢
      refine pb _ t4 σc Hd M _ _ _ Id qd fun t5 He Ie nx => wpAny_pure ⟨rfl, ?_⟩
      refine back Ie (wipe_length _ _) (fun j v q => ?_) nx
      obtain ⟨q1, q2⟩ := wipe_some q
      rw [wipe_out fun z => q2 (hU j z)]
      exact q1
/-- a later clause as a body -/
theorem pb_clause (hc : Y.calm = true) (hx : ∀ e s, ¬ Y.xe e s) {eL : Expr} {gs : List Comprehension} {scope : Scope} {pos : Pos} {d : Nat} {acc : Value} {tg ix : Expr} {ifs : List Expr} {body : Sem Fin → Sem Fin} (hcl : (clausesOf (.ListComp eL gs scope pos))[d]? = some ⟨tg, ix, ifs, 0⟩)
    (heq : ∀ it, compTurn (.ListComp eL gs scope pos) d it acc Y.env = (do
      standAt ix.pos
      match ← pyNext it with
      | none => pure (.done .next)
      | some v =>
        letOwnedTupleGo tg it v
        assign tg Y.env v
        let mut ok := true
        for c in ifs do
          if ok then ok ← isTrue c Y.env (eval c Y.env)
        if ok then body (again (.compLoop (.ListComp eL gs scope pos) d it acc Y.env)) else again (.compLoop (.ListComp eL gs scope pos) d it acc Y.env)))
    {wi : TI} {g : TG} {tt : TT} {tb : TBd} {V U : List Nat} (pi : PI Y tg ix wi) (pg : PG Y tg g) (pt : PTs Y ifs tt) (pb : PB Y body tb U) (hU : ∀ i ∈ U, i ∈ V) (hs : ∀ x, foldedSetIterable ix Y.env x = pure x) :
    PB Y (fun k => do
      let x ← eval ix Y.env
      standAt ix.pos
      let x ← foldedSetIterable ix Y.env x
      let _ ← runOwn (.compStart (.ListComp eL gs scope pos) d (← holding [x] (pyIter x)) acc Y.env) Y.env
      k) (fun σ H N => wi σ H fun J H1 => tLv J g tt tb V σ H1 N) V := by
  intro pins s σ H N k Q E I h hk
  have thX : ∀ {α : Type} {m : Sem α} {Q Q' : α → Shared → Prop} {E : Value → Shared → Prop} {t : Shared}, wpAny (model Y.prog Y.w) Y.A m Q Y.xe t → (∀ a t, Q a t → Q' a t) → wpAny (model Y.prog Y.w) Y.A m Q' E t :=
    fun a b => wpAny_mono a b fun e s z => (hx e s z).elim
  refine wpAny_bind (thX (pi.run pins s σ H _ I h) fun xv t1 g1 => ?_)
  refine wpAny_bind (wpAny_standAt (wpAny_bind (wpAny_of_eq (hs xv) (wpAny_bind (wpAny_holding (thX g1 fun jt t2 g2 => ?_))))))
  obtain ⟨it, fp, tn, J, H2, rfl, I2, T, st, f, q⟩ := g2
  have loop : codeAny (model Y.prog Y.w) Y.A (.compLoop (.ListComp eL gs scope pos) d (.ref it) acc Y.env) (fun r t => match r with
      | .ok _ => ∃ H', Inv Y pins (wipe σ V) H' t ∧ N H'
      | .error _ => False) t2 := clause_run hc hx (heq _) pg pt pb hU I2 T st f q fun t H' I' n' => ⟨H', I', n'⟩
  refine wpAny_bind (wpAny_runOwn ?_)
  rw [Around.mark_none]
  refine codeAny_mono (clause_start hcl loop (T.self Y.A 0 _ _ _ st loop)) fun r t g3 => ?_
  cases r with
  | ok fl => obtain ⟨H', I', n'⟩ := g3; first | exact hk t H' I' n' | exact wpAny_pure (hk t H' I' n') | exact wpAny_bind (wpAny_pure (hk t H' I' n'))
  | error x => exact g3.elim
/-- the element, put behind the list at D -/
theorem pb_elt (hx : ∀ e s, ¬ Y.xe e s) {elt : Expr} {te : TE} {D : Addr} (pe : PE Y elt te) : PB Y (fun k => do
      (do let _ ← call (.builtin "list.append") [.ref D, ← eval elt Y.env])
      k) (fun σ H N => te σ H fun y H1 => ∃ acc, H1 D = some (.lst acc) ∧ acc.length < sizeLine ∧ N (upd H1 D (.lst (acc ++ [y])))) [] := by
  intro pins s σ H N k Q E I h hk
  refine wpAny_bind (wpAny_bind (wpAny_mono (pe.run pins s σ H _ I h) (fun v t1 ⟨y, H1, I1, r1, acc, h1, h2, n⟩ => ?_) fun e s z => (hx e s z).elim))
  exact wpAny_bind (app_ok I1 h1 h2 r1 fun t2 I2 => wpAny_pure (hk t2 _ I2 n))
end
end L2
namespace L2
open PySem PySem.Spec PyProof.Rows
/-- a whole list comprehension, read: V the block's names, D the new list -/
def tLn (wi : TI) (g : TG) (tt : TT) (tb : Addr → TBd) (V : List Nat) : TE := fun σ H Q => wi σ H fun J H1 => ∀ D, H1 D = none → tLv J g tt (tb D) V σ (upd H1 D (.lst [])) (Q (.ref D))
section
variable {X : Cx}
theorem pe_lcn {eL tg ix : Expr} {ifs : List Expr} {rest : List Comprehension} {scope : Scope} {pos : Pos} {own : List (Str × Nat)} {wi : TI} {g : TG} {tt : TT} {tb : Addr → TBd} {U : List Nat} (body : Value → Env → Sem Fin → Sem Fin)
    (heq : ∀ (it acc : Value) (env : Env), compTurn (.ListComp eL (⟨tg, ix, ifs, 0⟩ :: rest) scope pos) 0 it acc env = (do
      standAt ix.pos
      match ← pyNext it with
      | none => pure (.done .next)
      | some v =>
        letOwnedTupleGo tg it v
        assign tg env v
        let mut ok := true
        for c in ifs do
          if ok then ok ← isTrue c env (eval c env)
        if ok then body acc env (again (.compLoop (.ListComp eL (⟨tg, ix, ifs, 0⟩ :: rest) scope pos) 0 it acc env)) else again (.compLoop (.ListComp eL (⟨tg, ix, ifs, 0⟩ :: rest) scope pos) 0 it acc env)))
    (hc : X.calm = true) (hN : X.N.Nodup) (hi : PI X tg ix wi) (ok : BlkOk X.N X.env.scope scope own)
    (hg : ∀ (s : Shared) (H : Hp) (C : Addr) (cl : List (Str × Addr)) (fp : List Addr), PG (X.blk s H scope (compEnvC scope cl C X.env) fp) tg g)
    (ht : ∀ (s : Shared) (H : Hp) (C : Addr) (cl : List (Str × Addr)) (fp : List Addr), PTs (X.blk s H scope (compEnvC scope cl C X.env) fp) ifs tt)
    (hb : ∀ (s : Shared) (H : Hp) (C : Addr) (cl : List (Str × Addr)) (fp : List Addr) (D : Addr), PB (X.blk s H scope (compEnvC scope cl C X.env) fp) (body (.ref D) (compEnvC scope cl C X.env)) (tb D) U)
    (hU : ∀ i ∈ U, i ∈ own.map (·.2)) (hs : ∀ x, foldedSetIterable ix X.env x = pure x) :
    PE X (.ListComp eL (⟨tg, ix, ifs, 0⟩ :: rest) scope pos) (tLn wi g tt tb (own.map (·.2))) := by
  refine ⟨fun pins s σ H Q I h => ?_⟩
  rw [eval_ListComp]
  have fr : ∀ z ∈ scope.names, z.2 = .free → ∃ c, X.env.cells.lookup z.1 = some c := fun z hz q => (ok.free z hz q).elim (fun k => I.ok.has _ (.inl k)) (fun k => I.ok.has _ (.inr k))
  refine wpAny_comprehension_free (use := none) (g := ⟨tg, ix, ifs, 0⟩) (gs := rest) rfl hs (closure_ok fr) ok.kind (fun z hz q => by rw [ok.uniq z hz, q]) (thn (hi.run pins s σ H _ I h) fun xv t1 g1 => thn g1 fun jt t2 g2 => ?_)
  obtain ⟨it, fp, tn, J, H2, rfl, I2, T, st2, f2, q⟩ := g2
  refine wpAny_newObj_type (newEnv_comp ?_) (Nat.zero_le _)
  obtain ⟨D, hD⟩ : ∃ D, t2.heap.objs.size = D := ⟨_, rfl⟩
  have h0 : H2 D = none := I2.hok.fresh (by rw [hD]; exact Nat.le_refl _)
  have lv := q D h0
  obtain ⟨t3, ht3⟩ : ∃ t3 : Shared, { t2 with heap := t2.heap.push { cls := .type "list", data := .seq ([] : List Value).toArray } } = t3 := ⟨_, rfl⟩
  have hp3 : t3.heap = t2.heap.push { cls := .type "list", data := .seq ([] : List Value).toArray } := by rw [← ht3]
  have I3 : Inv X pins σ (upd H2 D (.lst [])) t3 := by
    have top : (t2.heap.push { cls := .type "list", data := .seq ([] : List Value).toArray }).get? D = some { cls := .type "list", data := .seq ([] : List Value).toArray } := by rw [← hD]; exact Heap.get?_push_size _ rfl
    rw [← ht3]
    exact I2.laid (t' := t2.toks) (fun b o z => Heap.get?_push_of_some _ z) (by rw [hD]; exact Nat.le_refl _) ⟨Nat.zero_le _, [], 0, .nil, top⟩
  have old : ∀ b ∈ fp, b < t2.heap.objs.size := fun b hb => let ⟨_, z, _⟩ := T.obj _ _ st2 b hb; Heap.lt_size z
  have f3 : ∀ b ∈ fp, FpOk X pins (upd H2 D (.lst [])) b ∧ b < t3.heap.objs.size := fun b hb => by
    have hlt := old b hb
    have nd : b ≠ D := by rw [← hD]; exact Nat.ne_of_lt hlt
    exact ⟨⟨(upd_ne nd).trans (f2 b hb).1, (f2 b hb).2⟩, by rw [hp3, Heap.size_push]; exact Nat.lt_succ_of_lt hlt⟩
  have st3 : tn 0 t3.heap := T.keep _ _ _ st2 fun b _ o z => by rw [hp3]; exact Heap.get?_push_of_some _ z
  have I4 := block_start I3 ok hN f3
  generalize hcl : cellsFrom (t3.heap.objs.size + 1) scope.names (cloFrom X.env.cells scope.names []) = cl at I4
  have pg := hg t3 (upd H2 D (.lst [])) t3.heap.objs.size cl fp
  have pt := ht t3 (upd H2 D (.lst [])) t3.heap.objs.size cl fp
  have pb := hb t3 (upd H2 D (.lst [])) t3.heap.objs.size cl fp D
  have st4 : tn 0 (pushCells (t3.heap.push { cls := .type "dict", data := .dict #[] }) scope.names) := T.keep _ _ _ st3 fun b _ o z => pushCells_keeps _ _ _ _ (Heap.get?_push_of_some _ z)
  have fb : ∀ b ∈ fp, FpOk (X.blk t3 (upd H2 D (.lst [])) scope (compEnvC scope cl t3.heap.objs.size X.env) fp) [] (upd H2 D (.lst [])) b := fun b hb =>
    ⟨(f3 b hb).1.1, (I4.ok.exf b hb).1, I4.ok.exfs b hb, .inl hb, fun x c z => (I4.ok.exf b hb).2 x c z, fun p hp => (by cases hp)⟩
  have Tl : tLv J g tt (tb D) (own.map (·.2)) (wipe σ (own.map (·.2))) (upd H2 D (.lst [])) (Q (.ref D)) := by
    unfold tLv at lv ⊢
    rw [Z.wipe_wipe]
    exact lv
  have cC : (compEnvC scope cl t3.heap.objs.size X.env).locals = t3.heap.objs.size := rfl
  have loop : codeAny (model X.prog X.w) X.A (.compLoop (.ListComp eL (⟨tg, ix, ifs, 0⟩ :: rest) scope pos) 0 (.ref it) (.ref D) (compEnvC scope cl t3.heap.objs.size X.env))
      (compPost (model X.prog X.w) X.A X.xe none (EP X pins σ Q) (.ref D) t3.heap.objs.size) { t3 with heap := pushCells (t3.heap.push { cls := .type "dict", data := .dict #[] }) scope.names } := by
    refine clause_run (Y := X.blk t3 (upd H2 D (.lst [])) scope (compEnvC scope cl t3.heap.objs.size X.env) fp) hc (fun _ _ z => z) (heq _ _ _) pg pt pb hU I4 T st4 fb Tl fun t H' I' qq => ?_
    have Iz : Inv X pins σ H' t := I3.call' (ch := fp) I'.os I'.base I'.hok I'.bare fun b hb => ⟨(f3 b hb).1.2.2.2.1, (f3 b hb).1.2.1, (f3 b hb).1.2.2.2.2.1, (f3 b hb).1.2.2.2.2.2⟩
    have free : H' t3.heap.objs.size = none := I'.free
    obtain ⟨m, hn, _⟩ := I'.loc
    obtain ⟨k0, k1, k2, k3, k4, k5⟩ := I3.fpOk (Nat.le_refl _) free
    exact ⟨m, hn, fun h2 sb => ⟨.ref D, H', Iz.turned (t' := t.toks) (fun b o hb z => (sb.2 b hb).trans z) k0 k1 k3 k4 k5, rfl, qq⟩⟩
  subst hcl
  subst ht3
  subst hD
  exact codeAny_compStart_list loop (T.self X.A 0 _ _ _ st4 loop)
end
end L2
namespace Z
open PySem L2
/-- what stays while the list at p grows -/
structure ExD (p : Addr) (al : List Addr) (H : Hp) (al' : List Addr) (H' : Hp) : Prop where
  pre : ∃ be, al' = al ++ be
  fr : ∀ a o, H a = some o → a ∉ al → a ≠ p → H' a = some o ∧ a ∉ al'
section
variable {K : PySem.W.Frag} {B : Addr → Prop} {al al' al2 : List Addr} {H H' H2 : Hp} {p : Addr}
theorem ExD.refl : ExD p al H al H := ⟨⟨[], by simp⟩, fun _ _ h n _ => ⟨h, n⟩⟩
theorem ExD.step (x : ExD p al H al' H') (y : Ex al' H' al2 H2) : ExD p al H al2 H2 := by
  obtain ⟨⟨b1, e1⟩, f1⟩ := x
  obtain ⟨⟨b2, e2⟩, f2⟩ := y
  exact ⟨⟨b1 ++ b2, by rw [e2, e1, List.append_assoc]⟩, fun a o h n k => let ⟨u, v⟩ := f1 a o h n k; f2 a o u v⟩
theorem ExD.trans (x : ExD p al H al' H') (y : ExD p al' H' al2 H2) : ExD p al H al2 H2 := by
  obtain ⟨⟨b1, e1⟩, f1⟩ := x
  obtain ⟨⟨b2, e2⟩, f2⟩ := y
  exact ⟨⟨b1 ++ b2, by rw [e2, e1, List.append_assoc]⟩, fun a o h n k => let ⟨u, v⟩ := f1 a o h n k; f2 a o u v k⟩
theorem ExD.poke (x : ExD p al H al' H') {o : HO} : ExD p al H al' (upd H' p o) := ⟨x.pre, fun a u e n k => ⟨by rw [upd_ne k]; exact (x.fr a u e n k).1, (x.fr a u e n k).2⟩⟩
theorem Ex.toD (x : Ex al H al' H') : ExD p al H al' H' := ⟨x.pre, fun a o h n _ => x.fr a o h n⟩
theorem ExD.toB (x : ExD p al H al' H') (hb : B p) {vs : List V} (h : H p = some (.lst vs)) : ExB B al H al' H' := ⟨x.pre, fun a o e n k => x.fr a o e n fun z => by
  subst z
  rcases k with k | ⟨us, rfl⟩
  · exact k hb
  · rw [h] at e; cases e⟩
theorem ExB.transD {B0 : Addr → Prop} (x : ExB B0 al H al' H') (y : ExD p al' H' al2 H2) (hp : B0 p ∨ H p = none) (h : ∀ vs, H p ≠ some (.tup vs)) : ExB B0 al H al2 H2 := by
  obtain ⟨⟨b1, e1⟩, f1⟩ := x
  obtain ⟨⟨b2, e2⟩, f2⟩ := y
  refine ⟨⟨b1 ++ b2, by rw [e2, e1, List.append_assoc]⟩, fun a o g n k => ?_⟩
  obtain ⟨u, v⟩ := f1 a o g n k
  refine f2 a o u v fun z => ?_
  subst z
  rcases hp with hp | hp
  · rcases k with k | ⟨us, rfl⟩
    · exact k hp
    · exact h _ g
  · rw [hp] at g; cases g
theorem Ex.transD {al0 : List Addr} {H0 : Hp} (x : Ex al0 H0 al H) (y : ExD p al H al' H') (hp : H0 p = none) : Ex al0 H0 al' H' := by
  obtain ⟨⟨b1, e1⟩, f1⟩ := x
  obtain ⟨⟨b2, e2⟩, f2⟩ := y
  exact ⟨⟨b1 ++ b2, by rw [e2, e1, List.append_assoc]⟩, fun a o g n => let ⟨u, v⟩ := f1 a o g n; f2 a o u v (ne_of_none g hp)⟩
end
/-- a body that puts things behind the list at p -/
def tBZ (K : PySem.W.Frag) (p : Addr) (mb : Env → M (List D)) : TBd := fun σ H N => ∃ (B : Addr → Prop) (al : List Addr) (S : Store) (ρ : Env) (ys : List D) (S' : Store) (acc : List D) (us : List V),
  Rel K B al S H ∧ B p ∧ ER K B al H ρ σ ∧ H p = some (.lst us) ∧ RL K B al H acc us ∧ mb ρ S = some (ys, S') ∧ us.length + ys.length ≤ lim ∧
    ∀ (al' : List Addr) (H' : Hp) (us' : List V), Rel K B al' S' H' → ExD p al H al' H' → H' p = some (.lst us') → RL K B al' H' (acc ++ ys) us' → N H'
def mOne (e : ME) : Env → M (List D) := fun ρ => bnd (e ρ) fun d => ret [d]
def mLv (V : List Nat) (g : Tg) (it : MI) (t : MT) (mb : Env → M (List D)) : Env → M (List D) := fun ρ S => match it ρ S with
  | some ((xs, ok), S1) => mLcLL V g ok t mb ρ xs S1
  | none => none
def mLcN (V : List Nat) (g : Tg) (it : MI) (t : MT) (mb : Env → M (List D)) : MA := fun ρ S => match mLv V g it t mb ρ S with
  | some (ys, S2) => if ys.length ≤ lim then some (ys, S2) else none
  | none => none
section
variable {K : PySem.W.Frag} {p : Addr}
theorem tbz_elt {e : ME} : ∀ σ H N, tBZ K p (mOne e) σ H N → tE K e σ H fun y H1 => ∃ acc, H1 p = some (.lst acc) ∧ acc.length < sizeLine ∧ N (upd H1 p (.lst (acc ++ [y]))) := fun σ H N ⟨B, al, S, ρ, ys, S', acc, us, R, hb, er, hp, ra, hm, hl, q⟩ => by
  obtain ⟨d, S1, h1, h2⟩ := bnd_some hm
  obtain ⟨rfl, rfl⟩ := ret_some h2
  have np := (R.bh p hb).1
  refine ⟨B, al, S, ρ, d, S1, R, er, h1, fun v al1 H1 R1 x1 r1 => ?_⟩
  have hp1 := (x1.fr p _ hp np).1
  refine ⟨us, hp1, lim_lt (Nat.lt_of_succ_le (by simpa using hl)), ?_⟩
  exact q al1 _ (us ++ [v]) (R1.poke hb hp1) (x1.toD.poke) upd_same (((ra.mono R x1).append (.cons _ _ _ _ r1 .nil)).poke hb hp1)
theorem lv_of {Vs : List Nat} {g : Tg} {t : MT} {mb : Env → M (List D)} {ok : Store → Bool} {xs : List D} {J : It} (hv : ∀ i ∈ g.slots, i ∈ Vs) {B0 B : Addr → Prop} {al0 al : List Addr} {H0 H : Hp} {S S' : Store} {ρ : Env} {ys acc : List D} {us : List V} {σ : L2.St} {N : Hp → Prop}
    (w : IsW K B0 xs ok J al0 H0) (hBB : ∀ a, B0 a → B a) (x0 : ExB B0 al0 H0 al H) (hp0 : B0 p ∨ H0 p = none) (hpt : ∀ vs, H0 p ≠ some (.tup vs)) (hrv : ∀ d v, RV K B0 al0 H0 d v → RV K B al H d v)
    (R : Rel K B al S H) (hb : B p) (er : ER K B al H ρ σ) (hp : H p = some (.lst us)) (ra : RL K B al H acc us) (hm : mLcLL Vs g ok t mb ρ xs S = some (ys, S')) (hl : us.length + ys.length ≤ lim)
    (q : ∀ (al' : List Addr) (H' : Hp) (us' : List V), Rel K B al' S' H' → ExD p al H al' H' → H' p = some (.lst us') → RL K B al' H' (acc ++ ys) us' → N H') :
    tLv J (tTg K g) (tT K t) (tBZ K p mb) Vs σ H N := by
  obtain ⟨G, Y, wk, hG, hY⟩ := w
  let Pv : Nat → Hp → Prop := fun i H2 => ∃ al2 S2 ac2 us2 rest, Rel K B al2 S2 H2 ∧ ExD p al H al2 H2 ∧ H2 p = some (.lst us2) ∧ RL K B al2 H2 ac2 us2 ∧ mLcLL Vs g ok t mb ρ (xs.drop i) S2 = some (rest, S') ∧ ac2 ++ rest = acc ++ ys
  refine walk_gen (Step := fun x H' M => tTg K g x (wipe σ Vs) H' fun σ2 H2 => wipe σ2 Vs = wipe σ Vs ∧ tT K t σ2 H2 fun b H3 => if b = true then tBZ K p mb σ2 H3 M else M H3) wk Pv ⟨al, S, acc, us, ys, R, .refl, hp, ra, hm, rfl⟩ ?_ ?_ ?_
  · rintro i H2 hi ⟨al2, S2, ac2, us2, rest, R2, x2, hp2, ra2, h3, h4⟩
    exact hG _ al2 S2 H2 R2 (x0.transD x2 hp0 hpt) (lcLL_ok h3)
  · rintro i x H2 H3 hi ⟨al2, S2, ac2, us2, rest, R2, x2, hp2, ra2, h3, h4⟩ hy
    rw [List.drop_eq_getElem_cons hi] at h3
    unfold mLcLL at h3
    split at h3
    · rename_i hk
      split at h3
      · cases h3
      · rename_i ρ3 hput
        have xb := x2.toB (B := B) hb hp
        obtain ⟨R3, x3, rv⟩ := hY B i al2 S2 H2 x H3 xs[i] hBB R2 (x0.transD x2 hp0 hpt) (fun d v r => (hrv d v r).monoB R.nt xb) (by simp [hi]) hk hy
        have n2 : p ∉ al2 := (R2.bh p hb).1
        refine ⟨B, al2, S2, wipeD ρ Vs, ρ3, xs[i], R3, ((er.monoB R.nt xb).wipe Vs).mono R2 x3, rv, hput, fun σ3 er3 hw => ⟨(hw Vs hv).trans wipe_wipe, ?_⟩⟩
        have hp3 := x3.fr p _ hp2 n2
        have ra3 := ra2.mono R2 x3
        split at h3
        · cases h3
        · rename_i S4 h5
          split at h3
          · cases h3
          · rename_i y1 S5 h6
            split at h3
            · cases h3
            · rename_i zs S6 h7
              cases h3
              refine ⟨B, al2, S2, ρ3, true, S4, R3, er3, h5, fun k al4 H4 R4 x4 ek => ?_⟩
              subst ek
              rw [if_pos rfl]
              have hp4 := x4.fr p _ hp3.1 hp3.2
              have hlen := ra2.len
              have htot := congrArg List.length h4
              have hacc := ra.len
              simp only [List.length_append] at htot
              refine ⟨B, al4, S4, ρ3, y1, S5, ac2, us2, R4, hb, er3.mono R3 x4, hp4.1, ra3.mono R3 x4, h6, by omega, fun al5 H5 us5 R5 x5 hp5 ra5 => ?_⟩
              exact ⟨al5, S5, ac2 ++ y1, us5, zs, R5, ((x2.step x3).step x4).trans x5, hp5, ra5, h7, by rw [List.append_assoc]; exact h4⟩
        · rename_i S4 h5
          refine ⟨B, al2, S2, ρ3, false, S4, R3, er3, h5, fun k al4 H4 R4 x4 ek => ?_⟩
          subst ek
          exact ⟨al4, S4, ac2, us2, rest, R4, (x2.step x3).step x4, (x4.fr p _ hp3.1 hp3.2).1, ra3.mono R3 x4, h3, h4⟩
    · cases h3
  · rintro H2 ⟨al2, S2, ac2, us2, rest, R2, x2, hp2, ra2, h3, h4⟩
    rw [List.drop_length] at h3
    unfold mLcLL at h3
    split at h3
    · cases h3
      rw [List.append_nil] at h4
      exact q al2 H2 us2 R2 x2 hp2 (h4 ▸ ra2)
    · cases h3
theorem tbz_lv {V : List Nat} {g : Tg} {it : MI} {t : MT} {mb : Env → M (List D)} (hv : ∀ i ∈ g.slots, i ∈ V) : ∀ σ H N, tBZ K p (mLv V g it t mb) σ H N → tW K it σ H fun J H1 => tLv J (tTg K g) (tT K t) (tBZ K p mb) V σ H1 N := fun σ H N ⟨B, al, S, ρ, ys, S', acc, us, R, hb, er, hp, ra, hm, hl, q⟩ => by
  unfold mLv at hm
  split at hm
  · rename_i xs ok S1 h1
    refine ⟨B, al, S, ρ, xs, ok, S1, R, er, h1, fun J al1 H1 R1 x1 w => ?_⟩
    have np := (R.bh p hb).1
    have hp1 := (x1.fr p _ hp np).1
    exact lv_of hv w (fun _ z => z) Ex.refl.toB (.inl hb) (fun vs z => by rw [hp1] at z; cases z) (fun _ _ z => z) R1 hb (er.mono R x1) hp1 (ra.mono R x1) hm hl fun al' H' us' R' x' h' r' => q al' H' us' R' ((x1.toD (p := p)).trans x') h' r'
  · cases hm
theorem lcn_of {V : List Nat} {g : Tg} {it : MI} {t : MT} {mb : Env → M (List D)} (hv : ∀ i ∈ g.slots, i ∈ V) : ∀ σ H Q, tF K (mLcN V g it t mb) σ H Q → tLn (tW K it) (tTg K g) (tT K t) (fun D => tBZ K D mb) V σ H Q := fun σ H Q ⟨B, al, S, ρ, ys, S', R, er, hm, q⟩ => by
  unfold mLcN at hm
  split at hm
  · rename_i zs S2 h2
    split at hm
    · rename_i hz
      cases hm
      unfold mLv at h2
      split at h2
      · rename_i xs ok S1 h1
        refine ⟨B, al, S, ρ, xs, ok, S1, R, er, h1, fun J al1 H1 R1 x1 w => fun Dl hD => ?_⟩
        have h0 : H Dl = none := fresh_al x1 (R1.fresh hD) hD
        obtain ⟨xb, Rb⟩ := R1.ban (o := .lst []) hD
        refine lv_of hv w bp_less xb.toB (.inr hD) (fun vs z => by rw [hD] at z; cases z) (fun d v r => (r.ban hD).monoN R1.nt xb) Rb (.inr rfl) (((er.mono R x1).ban hD).monoN R1.nt xb) upd_same .nil h2 (by simpa using hz) fun al' H' us' R' x' h' r' => ?_
        exact q Dl us' al' H' R' (x1.trans (xb.transD x' hD)) h0 h' (by simpa using r')
      · cases h2
    · cases hm
  · cases hm
end
section
variable {X : Cx}
theorem pb_imp {Y : Cx} {body : Sem Fin → Sem Fin} {tb tb' : TBd} {V : List Nat} (h : PB Y body tb V) (q : ∀ σ H N, tb' σ H N → tb σ H N) : PB Y body tb' V := fun pins s σ H N k Q E I w => h pins s σ H N k Q E I (q _ _ _ w)
theorem sn_lc3 {elt tg iter tg1 iter1 tg2 iter2 : Expr} {ifs ifs1 ifs2 : List Expr} {scope : Scope} {own : List (Str × Nat)} {pos : Pos} {g g1 g2 : Tg} {it it1 it2 : MI} {t t1 t2 : MT} {e : ME} (V1 V2 : List Nat) (hc : X.calm = true) (hN : X.N.Nodup) (hi : Si X tg iter it) (ok : BlkOk X.N X.env.scope scope own)
    (hw : ∀ i ∈ V1, i ∈ own.map (·.2)) (hw2 : ∀ i ∈ V2, i ∈ V1)
    (hg : ∀ (s : Shared) (H : Hp) (C : Addr) (cl : List (Str × Addr)) (fp : List Addr), Sg (X.blk s H scope (compEnvC scope cl C X.env) fp) tg g)
    (ht : ∀ (s : Shared) (H : Hp) (C : Addr) (cl : List (Str × Addr)) (fp : List Addr), PTs (X.blk s H scope (compEnvC scope cl C X.env) fp) ifs (tT X.K t))
    (hi1 : ∀ (s : Shared) (H : Hp) (C : Addr) (cl : List (Str × Addr)) (fp : List Addr), Si (X.blk s H scope (compEnvC scope cl C X.env) fp) tg1 iter1 it1)
    (hg1 : ∀ (s : Shared) (H : Hp) (C : Addr) (cl : List (Str × Addr)) (fp : List Addr), Sg (X.blk s H scope (compEnvC scope cl C X.env) fp) tg1 g1)
    (ht1 : ∀ (s : Shared) (H : Hp) (C : Addr) (cl : List (Str × Addr)) (fp : List Addr), PTs (X.blk s H scope (compEnvC scope cl C X.env) fp) ifs1 (tT X.K t1))
    (hi2 : ∀ (s : Shared) (H : Hp) (C : Addr) (cl : List (Str × Addr)) (fp : List Addr), Si (X.blk s H scope (compEnvC scope cl C X.env) fp) tg2 iter2 it2)
    (hg2 : ∀ (s : Shared) (H : Hp) (C : Addr) (cl : List (Str × Addr)) (fp : List Addr), Sg (X.blk s H scope (compEnvC scope cl C X.env) fp) tg2 g2)
    (ht2 : ∀ (s : Shared) (H : Hp) (C : Addr) (cl : List (Str × Addr)) (fp : List Addr), PTs (X.blk s H scope (compEnvC scope cl C X.env) fp) ifs2 (tT X.K t2))
    (he : ∀ (s : Shared) (H : Hp) (C : Addr) (cl : List (Str × Addr)) (fp : List Addr), Sn (X.blk s H scope (compEnvC scope cl C X.env) fp) elt e)
    (hv : ∀ i ∈ g.slots, i ∈ own.map (·.2)) (hv1 : ∀ i ∈ g1.slots, i ∈ V1) (hv2 : ∀ i ∈ g2.slots, i ∈ V2)
    (hs : ∀ x, foldedSetIterable iter X.env x = pure x := by intro _; rfl) (hs1 : ∀ env x, foldedSetIterable iter1 env x = pure x := by intro _ _; rfl) (hs2 : ∀ env x, foldedSetIterable iter2 env x = pure x := by intro _ _; rfl) :
    SnF X (.ListComp elt [⟨tg, iter, ifs, 0⟩, ⟨tg1, iter1, ifs1, 0⟩, ⟨tg2, iter2, ifs2, 0⟩] scope pos) (mLcN (own.map (·.2)) g it t (mLv V1 g1 it1 t1 (mLv V2 g2 it2 t2 (mOne e)))) := by
  have inner : ∀ (s : Shared) (H : Hp) (C : Addr) (cl : List (Str × Addr)) (fp : List Addr) (D : Addr), PB (X.blk s H scope (compEnvC scope cl C X.env) fp) (fun k => do
      (do let _ ← call (.builtin "list.append") [.ref D, ← eval elt (compEnvC scope cl C X.env)])
      k) (tBZ X.K D (mOne e)) [] := fun s H C cl fp D =>
    pb_imp (pb_elt (Y := X.blk s H scope (compEnvC scope cl C X.env) fp) (fun _ _ z => z) (he s H C cl fp)) tbz_elt
  have mid := fun (s : Shared) (H : Hp) (C : Addr) (cl : List (Str × Addr)) (fp : List Addr) (D : Addr) => pb_imp (pb_clause (Y := X.blk s H scope (compEnvC scope cl C X.env) fp) (eL := elt) (gs := [⟨tg, iter, ifs, 0⟩, ⟨tg1, iter1, ifs1, 0⟩, ⟨tg2, iter2, ifs2, 0⟩]) (scope := scope) (pos := pos) (d := 2) (acc := .ref D) (V := V2) hc (fun _ _ z => z) rfl (by intro _; rfl) (hi2 s H C cl fp) (hg2 s H C cl fp) (ht2 s H C cl fp) (inner s H C cl fp D) (fun i z => by cases z) (hs2 _)) (tbz_lv (it := it2) hv2)
  have outer := fun (s : Shared) (H : Hp) (C : Addr) (cl : List (Str × Addr)) (fp : List Addr) (D : Addr) => pb_imp (pb_clause (Y := X.blk s H scope (compEnvC scope cl C X.env) fp) (eL := elt) (gs := [⟨tg, iter, ifs, 0⟩, ⟨tg1, iter1, ifs1, 0⟩, ⟨tg2, iter2, ifs2, 0⟩]) (scope := scope) (pos := pos) (d := 1) (acc := .ref D) (V := V1) hc (fun _ _ z => z) rfl (by intro _; rfl) (hi1 s H C cl fp) (hg1 s H C cl fp) (ht1 s H C cl fp) (mid s H C cl fp D) hw2 (hs1 _)) (tbz_lv (it := it1) hv1)
  exact pe_imp (pe_lcn (eL := elt) (rest := [⟨tg1, iter1, ifs1, 0⟩, ⟨tg2, iter2, ifs2, 0⟩]) (g := tTg X.K g) (tt := tT X.K t) (tb := fun D => tBZ X.K D (mLv V1 g1 it1 t1 (mLv V2 g2 it2 t2 (mOne e)))) (fun acc env k => do
      let x ← eval iter1 env
      standAt iter1.pos
      let x ← foldedSetIterable iter1 env x
      let _ ← runOwn (.compStart (.ListComp elt [⟨tg, iter, ifs, 0⟩, ⟨tg1, iter1, ifs1, 0⟩, ⟨tg2, iter2, ifs2, 0⟩] scope pos) 1 (← holding [x] (pyIter x)) acc env) env
      k) (by intro _ _ _; rfl) hc hN hi ok hg ht outer hw hs) (lcn_of hv)
end
end Z
set_option Elab.async false
set_option linter.all false
set_option maxRecDepth 100000
/-! min of pairs of whole numbers; dict comprehensions. -/
namespace Z
def ltP (x y : List Int) : Bool := match x, y with
  | [a, b], [c, d] => decide (a < c) || (!decide (c < a) && decide (b < d))
  | _, _ => false
def minP (x : List Int) (xs : List (List Int)) : List Int := xs.foldl (fun a y => if ltP y a then y else a) x
end Z
namespace L2
open PySem PySem.Spec PyProof.Rows
def pdI (ns : List Int) : PyData := .tuple (ns.map .int)
theorem pdI_inj {a b : List Int} (h : pdI a = pdI b) : a = b := by
  simp only [pdI, PyData.tuple.injEq] at h
  induction a generalizing b with
  | nil => cases b <;> simp_all
  | cons x a ih =>
    cases b with
    | nil => simp at h
    | cons y b => simp only [List.map_cons, List.cons.injEq, PyData.int.injEq] at h; rw [h.1, ih h.2]
theorem lexc (x y : Int ⊕ List Nat) (r t : List (Int ⊕ List Nat)) : PyProof.Rows.lexLt PyProof.Rows.itemOrd (x :: r) (y :: t) = (PyProof.Rows.itemLt x y || (!PyProof.Rows.itemLt y x && PyProof.Rows.lexLt PyProof.Rows.itemOrd r t)) := by first | rfl | exact PyProof.Rows.lex_cons (O := PyProof.Rows.itemOrd) x y r t
theorem lexn : PyProof.Rows.lexLt PyProof.Rows.itemOrd [] [] = false := by first | rfl | simp [PyProof.Rows.lexLt]
theorem lt_pair (a b c d : Int) : PySem.W.dataLt (pdI [a, b]) (pdI [c, d]) = Z.ltP [a, b] [c, d] := by
  show PyProof.Rows.lexLt PyProof.Rows.itemOrd [.inl 1, .inl a, .inl 1, .inl b, .inl 0] [.inl 1, .inl c, .inl 1, .inl d, .inl 0] = _
  erw [lexc, lexc, lexc, lexc, lexc, lexn]
  simp [Z.ltP, PyProof.Rows.itemLt]
theorem len2 {ns : List Int} (h : ns.length = 2) : ∃ a b, ns = [a, b] := by
  match ns, h with
  | [a, b], _ => exact ⟨a, b, rfl⟩
theorem minP_mem : ∀ (xs : List (List Int)) (x : List Int), Z.minP x xs ∈ x :: xs
  | [], x => List.mem_cons_self
  | y :: ys, x => by
    have h := minP_mem ys (if Z.ltP y x then y else x)
    show Z.minP (if Z.ltP y x then y else x) ys ∈ _
    rcases List.mem_cons.mp h with h | h
    · rw [h]; split <;> simp
    · exact List.mem_cons_of_mem _ (List.mem_cons_of_mem _ h)
theorem minD_pairs : ∀ (xs : List (List Int)) (x : List Int), x.length = 2 → (∀ y ∈ xs, y.length = 2) → PySem.W.minD (pdI x) (xs.map pdI) = pdI (Z.minP x xs)
  | [], x, _, _ => rfl
  | y :: ys, x, hx, h => by
    obtain ⟨a, b, rfl⟩ := len2 hx
    obtain ⟨c, d, rfl⟩ := len2 (h y List.mem_cons_self)
    have ih := minD_pairs ys (if Z.ltP [c, d] [a, b] then [c, d] else [a, b]) (by split <;> rfl) fun z hz => h z (List.mem_cons_of_mem _ hz)
    show PySem.W.minD (if PySem.W.dataLt (pdI [c, d]) (pdI [a, b]) then pdI [c, d] else pdI [a, b]) (ys.map pdI) = _
    rw [lt_pair, ← apply_ite pdI, ih]
    rfl
/-- min of a list of pairs of whole numbers -/
def rMinT (K : PySem.W.Frag) : List V → Hp → VK → Prop := fun vs H Q => ∃ (a : Addr) (us : List V) (x : List Int) (xs : List (List Int)), vs = [V.ref a] ∧ SqL K H a us ∧ us.length = (x :: xs).length ∧ (∀ y ∈ x :: xs, y.length = 2) ∧
  (∀ (i : Nat) (u : V) (ns : List Int), us[i]? = some u → (x :: xs)[i]? = some ns → TupI K H u ns) ∧ ∀ (i : Nat) (u : V), us[i]? = some u → (x :: xs)[i]? = some (Z.minP x xs) → Q u H
theorem dp_tupI {K : PySem.W.Frag} {H : Hp} {u : V} {ns : List Int} (h : TupI K H u ns) : Dp K H u (pdI ns) := by
  obtain ⟨a, rfl, h⟩ := h
  exact .tup h (Z.dp_ints ns)
theorem dpAll_of {K : PySem.W.Frag} {H : Hp} : ∀ {us : List V} {nss : List (List Int)}, us.length = nss.length → (∀ (i : Nat) (u : V) (ns : List Int), us[i]? = some u → nss[i]? = some ns → TupI K H u ns) → DpAll K H us (nss.map pdI)
  | [], [], _, _ => .nil
  | [], _ :: _, h, _ => by simp at h
  | _ :: _, [], h, _ => by simp at h
  | u :: us, ns :: nss, hl, h => .cons (dp_tupI (h 0 u ns rfl rfl)) (dpAll_of (by simpa using hl) fun i v m h1 h2 => h (i + 1) v m (by simpa using h1) (by simpa using h2))
theorem cr_minT {X : Cx} (hc : X.calm = true) (hu : X.A.units + 64 < cLine) : CallR X (.builtin "min") (rMinT X.K) := by
  intro pins s σ H vs ws Q I r h
  obtain ⟨a, us, x, xs, rfl, hs, hl, h2, ht, q⟩ := h
  obtain ⟨its, rv, pl, _⟩ := I.list hs
  rw [Vals.ref1 r]
  obtain ⟨as, hr⟩ := Dp.readsAll I _ us its (dpAll_of hl ht) rv
  have hdep : ∀ ys : List (List Int), PyData.depthAll (ys.map pdI) ≤ 1 := by
    intro ys
    induction ys with
    | nil => simp [PyData.depthAll]
    | cons y ys ih =>
      have : (pdI y).depth ≤ 1 := by
        have : ∀ ns : List Int, PyData.depthAll (ns.map PyData.int) = 0 := by
          intro ns
          induction ns with
          | nil => rfl
          | cons n ns ih => simp [PyData.depthAll, PyData.depth, ih]
        simp [pdI, PyData.depth, this]
      simp only [List.map_cons, PyData.depthAll]
      omega
  have hal : PySem.W.AlikeAll ((x :: xs).map pdI) := by
    refine ⟨fun y hy z hz => ?_, fun y hy => ?_⟩
    · obtain ⟨y1, hy1, rfl⟩ := List.mem_map.mp hy
      obtain ⟨z1, hz1, rfl⟩ := List.mem_map.mp hz
      obtain ⟨a, b, rfl⟩ := len2 (h2 y1 hy1)
      obtain ⟨c, d, rfl⟩ := len2 (h2 z1 hz1)
      simp [pdI, PySem.W.alike, PySem.W.alikeAll]
    · obtain ⟨y, hy, rfl⟩ := List.mem_map.mp hy
      simp [pdI]
  refine PySem.W.min_list_data (x := pdI x) (xs := xs.map pdI) (I.ok.hd hc) pl.isList (by simpa using hr) hal (by have := hdep (x :: xs); simp only [List.map_cons] at this; omega) fun i v h' tk bs hi hv hk => ?_
  have hi2 : its[i]? = some v := by simpa using hi
  obtain ⟨hil, hie⟩ := List.getElem?_eq_some_iff.mp hi2
  have hul : i < us.length := by rw [rv.length]; exact hil
  have hxl : i < (x :: xs).length := by rw [← hl]; exact hul
  obtain ⟨w, hw, rw'⟩ := rv.get (x := us[i]) (i := i) (by simp [hul])
  rw [hi2] at hw
  cases hw
  have hns := ht i us[i] (x :: xs)[i] (by simp [hul]) (by simp [hxl])
  obtain ⟨cs, hr2⟩ := Dp.reads I _ _ v (dp_tupI hns) rw'
  have hr3 := PyProof.Rows.Reads.keeps hk hr2
  rw [minD_pairs xs x (h2 x List.mem_cons_self) fun y hy => h2 y (List.mem_cons_of_mem _ hy)] at hv
  have heq := pdI_inj (Reads.unique hr3 _ _ hv).1
  exact ⟨us[i], H, I.kept (t' := tk) hk, rw', q i us[i] (by simp [hul]) (by rw [← heq]; simp [hxl])⟩
end L2
namespace Z
open PySem L2
def cMinT (ds : List D) : M D := fun S => match ds with
  | [d] => match (asLC S d).bind tupsOf with
    | some (x :: xs) => if (x :: xs).all (fun y => decide (y.length = 2)) = true then some (tupI (minP x xs), S) else none
    | _ => none
  | _ => none
theorem c_minT {K : PySem.W.Frag} : CRS K (rMinT K) cMinT := fun B al S H ds z vs S' R r1 h Q q => by
  unfold cMinT at h
  split at h
  · rename_i d
    split at h
    · rename_i x xs hx
      split at h
      · rename_i hall
        cases h
        obtain ⟨ys, h1, h2⟩ := Option.bind_eq_some_iff.mp hx
        obtain ⟨v, rfl, rv⟩ := rl_one r1
        obtain ⟨a, us, rfl, ha, ra⟩ := asLC_rep R rv h1
        rw [tupsOf_some h2] at ra
        have hlen := ra.len
        refine ⟨a, us, x, xs, rfl, ha, by simpa using hlen.symm, fun y hy => by simpa using List.all_eq_true.mp hall y hy, fun i u ns e1 e2 => ?_, fun i u e1 e2 => ?_⟩
        · obtain ⟨w, e3, rw'⟩ := ra.get (i := i) (d := tupI ns) (by rw [List.getElem?_map, e2]; rfl)
          rw [e1] at e3; cases e3
          exact rv_tupI rw'
        · obtain ⟨w, e3, rw'⟩ := ra.get (i := i) (d := tupI (minP x xs)) (by rw [List.getElem?_map, e2]; rfl)
          rw [e1] at e3; cases e3
          exact q _ al H R .refl rw'
      · cases h
    · cases h
  · cases h
theorem wp_cMinT {d : D} {S : Store} {x : List Int} {xs : List (List Int)} {Q} (h : asLC S d = some ((x :: xs).map tupI)) (h2 : ∀ y ∈ x :: xs, y.length = 2) (q : Q (tupI (minP x xs)) S) : wp (cMinT [d]) S Q := by
  refine ⟨_, _, ?_, q⟩
  have e : (asLC S d).bind tupsOf = some (x :: xs) := by rw [h]; exact tupsOf_map (x :: xs)
  simp only [cMinT, e]
  rw [if_pos (List.all_eq_true.mpr fun y hy => by simpa using h2 y hy)]
end Z
namespace Z
open PySem L2
section
variable {K : PySem.W.Frag} {B : Addr → Prop} {al : List Addr} {H : Hp} {p : Addr} {o : HO}
mutual
theorem RV.pokeG (hb : B p) (h0 : ∀ vs, H p ≠ some (.tup vs)) : ∀ {d : D} {v : V}, RV K B al H d v → RV K B al (upd H p o) d v
  | _, _, .non => .non
  | _, _, .bl b => .bl b
  | _, _, .int i => .int i
  | _, _, .str s => .str s
  | _, _, .tup a ds vs h r => .tup a ds vs (by
      show upd H p _ a = _
      rw [upd_ne (fun e => by rw [e] at h; exact h0 _ h)]; exact h) (RL.pokeG hb h0 r)
  | _, _, .lst a ds vs h r => .lst a ds vs ⟨by rw [upd_ne (fun e => h.2.2 (by rw [e]; exact hb))]; exact h.1, h.2⟩ (RL.pokeG hb h0 r)
  | _, _, .scr a ns h => .scr a ns (match h with
    | .inl ⟨x, y, z⟩ => .inl ⟨(by
        have ne : a ≠ p := fun e => z (by rw [e]; exact hb)
        rcases x with x | ⟨o, x⟩
        · exact .inl (by rw [upd_ne ne]; exact x)
        · exact .inr ⟨o, by rw [upd_ne ne]; exact x⟩), y, z⟩
    | .inr x => .inr x)
  | _, _, .tpi a ns h => .tpi a ns (match h with
    | ⟨o, ⟨h1, h2, h3⟩, h4⟩ => ⟨o, ⟨by rw [upd_ne (fun e => h3 (by rw [e]; exact hb))]; exact h1, h2, h3⟩, h4⟩)
  | _, _, .tpx a ds vs h r => .tpx a ds vs (match h with
    | ⟨o, ⟨h1, h2, h3⟩, h4⟩ => ⟨o, ⟨by rw [upd_ne (fun e => h3 (by rw [e]; exact hb))]; exact h1, h2, h3⟩, h4⟩) (RL.pokeG hb h0 r)
  | _, _, .dcf a kvs es h k r => .dcf a kvs es (match h with
    | ⟨o, ⟨h1, h2, h3⟩, h4⟩ => ⟨o, ⟨by rw [upd_ne (fun e => h3 (by rw [e]; exact hb))]; exact h1, h2, h3⟩, h4⟩) k (rl_tups (fun a vs h => by rw [upd_ne (fun e => by rw [e] at h; exact h0 _ h)]; exact h) r)
  | _, _, .ref n a h => .ref n a h
theorem RL.pokeG (hb : B p) (h0 : ∀ vs, H p ≠ some (.tup vs)) : ∀ {ds : List D} {vs : List V}, RL K B al H ds vs → RL K B al (upd H p o) ds vs
  | _, _, .nil => .nil
  | _, _, .cons d v ds vs h r => .cons d v ds vs (RV.pokeG hb h0 h) (RL.pokeG hb h0 r)
end
theorem Rel.pokeG {S : Store} (R : Rel K B al S H) (hb : B p) (h0 : ∀ vs, H p ≠ some (.tup vs)) : Rel K B al S (upd H p o) := by
  have np := (R.bh p hb).1
  refine ⟨R.len, R.nd, fun a h => ⟨(R.bh a h).1, ?_⟩, fun n a u e1 e2 => ?_⟩
  · by_cases e : a = p
    · subst e; exact ⟨_, upd_same⟩
    · rw [upd_ne e]; exact (R.bh a h).2
  · have ne : a ≠ p := fun e => np (by rw [← e]; exact List.mem_of_getElem? e1)
    have k : ∀ w, H a = some w → upd H p o a = some w := fun w e => by rw [upd_ne ne]; exact e
    have q := R.ob n a u e1 e2
    cases u with
    | lst ds => obtain ⟨vs, e, r⟩ := q; exact ⟨vs, k _ e, r.pokeG hb h0⟩
    | dct kvs => obtain ⟨es, e, e2, r⟩ := q; exact ⟨es, k _ e, e2, r.pokeG hb h0⟩
    | dtt kvs => obtain ⟨es, e, e2, r⟩ := q; exact ⟨es, k _ e, e2, r.pokeG hb h0⟩
end
/-- {k: e for g in ..} -/
def mDcL (Vs : List Nat) (g : Tg) (ok : Store → Bool) (t : MT) (k e : ME) (ρ : Env) : List D → List (Key × D) → Store → Option (List (Key × D) × Store)
  | [], acc, S => if ok S then some (acc, S) else none
  | d :: ds, acc, S => if ok S then match g.put d (wipeD ρ Vs) with
      | none => none
      | some ρ1 => match t ρ1 S with
        | none => none
        | some (true, S1) => match k ρ1 S1 with
          | none => none
          | some (kd, S2) => match e ρ1 S2 with
            | none => none
            | some (v, S3) => match keyD kd with
              | none => none
              | some kk => if acc.length < lim then mDcL Vs g ok t k e ρ ds (putD acc kk v) S3 else none
        | some (false, S1) => mDcL Vs g ok t k e ρ ds acc S1
    else none
def mDc (Vs : List Nat) (g : Tg) (it : MI) (t : MT) (k e : ME) : ME := fun ρ S => match it ρ S with
  | some ((xs, ok), S1) => match mDcL Vs g ok t k e ρ xs [] S1 with
    | some (kvs, S2) => some (.ref S2.length, S2 ++ [.dct kvs])
    | none => none
  | none => none
section
variable {X : Cx} {Vs : List Nat} {g : Tg} {it : MI} {t : MT} {k e : ME}
theorem dcL_ok {ok : Store → Bool} {ρ : Env} {ds : List D} {acc : List (Key × D)} {S : Store} {r} (h : mDcL Vs g ok t k e ρ ds acc S = some r) : ok S = true := by
  cases ds <;> unfold mDcL at h <;> (split at h; assumption; cases h)
theorem dc_of (hv : ∀ i ∈ g.slots, i ∈ Vs) : ∀ σ H Q, tE X.K (mDc Vs g it t k e) σ H Q → tDc (tW X.K it) (tTg X.K g) (tT X.K t) (tE X.K k) (tE X.K e) Vs σ H Q := fun σ H Q ⟨B, al, S, ρ, ys, S', R, er, hm, q⟩ => by
  unfold mDc at hm
  split at hm
  · rename_i xs ok S1 h1
    split at hm
    · rename_i kvs S2 h2
      cases hm
      refine ⟨B, al, S, ρ, xs, ok, S1, R, er, h1, fun J al1 H1 R1 x1 ⟨G, Y, w, hG, hY⟩ => fun Dl hD => ?_⟩
      have h0 : H Dl = none := fresh_al x1 (R1.fresh hD) hD
      obtain ⟨xb, Rb⟩ := R1.ban (o := .dK []) hD
      have er1 : ER X.K (Bp B Dl) al1 H1 ρ σ := (er.mono R x1).ban hD
      let Pv : Nat → Hp → Prop := fun i H2 => ∃ al2 S3 acc es, Rel X.K (Bp B Dl) al2 S3 H2 ∧ Ex al1 H1 al2 H2 ∧ H2 Dl = some (.dK es) ∧ acc.map (·.1) = es.map (·.1) ∧ RL X.K (Bp B Dl) al2 H2 (acc.map (·.2)) (es.map (·.2)) ∧ mDcL Vs g ok t k e ρ (xs.drop i) acc S3 = some (kvs, S2)
      refine walk_gen (Step := fun x H' M => tTg X.K g x (wipe σ Vs) H' fun σ2 H2 => wipe σ2 Vs = wipe σ Vs ∧ tT X.K t σ2 H2 fun b H3 => if b = true then tE X.K k σ2 H3 fun y H4 => tE X.K e σ2 H4 fun z H5 => ∃ kvs kk, y = kV kk ∧ H5 Dl = some (.dK kvs) ∧ kvs.length < sizeLine ∧ M (upd H5 Dl (.dK (putK kvs kk z))) else M H3) w Pv ⟨al1, S1, [], [], Rb, xb, upd_same, rfl, .nil, h2⟩ ?_ ?_ ?_
      · rintro i H2 hi ⟨al2, S3, acc, es, R2, x2, hd2, hks, ra, h3⟩
        exact hG _ al2 S3 H2 R2 x2.toB (dcL_ok h3)
      · rintro i x H2 H3 hi ⟨al2, S3, acc, es, R2, x2, hd2, hks, ra, h3⟩ hy
        rw [List.drop_eq_getElem_cons hi] at h3
        unfold mDcL at h3
        split at h3
        · rename_i hk
          split at h3
          · cases h3
          · rename_i ρ3 hp
            obtain ⟨R3, x3, rv⟩ := hY (Bp B Dl) i al2 S3 H2 x H3 xs[i] bp_less R2 x2.toB (fun d v r => (r.ban hD).monoN R1.nt x2) (by simp [hi]) hk hy
            have nd2 : Dl ∉ al2 := (R2.bh Dl (.inr rfl)).1
            refine ⟨Bp B Dl, al2, S3, wipeD ρ Vs, ρ3, xs[i], R3, ((er1.monoN R1.nt x2).wipe Vs).mono R2 x3, rv, hp, fun σ3 er3 hw => ⟨(hw Vs hv).trans wipe_wipe, ?_⟩⟩
            have hd3 := (x3.fr Dl _ hd2 nd2).1
            have ra3 := ra.mono R2 x3
            split at h3
            · cases h3
            · rename_i S4 h5
              split at h3
              · cases h3
              · rename_i kd S5 h6
                split at h3
                · cases h3
                · rename_i v S6 h7
                  split at h3
                  · cases h3
                  · rename_i kk hkk
                    split at h3
                    · rename_i hl
                      refine ⟨Bp B Dl, al2, S3, ρ3, true, S4, R3, er3, h5, fun bb al4 H4 R4 x4 ek => ?_⟩
                      subst ek
                      rw [if_pos rfl]
                      refine ⟨Bp B Dl, al4, S4, ρ3, kd, S5, R4, er3.mono R3 x4, h6, fun yv al5 H5 R5 x5 r5 => ⟨Bp B Dl, al5, S5, ρ3, v, S6, R5, (er3.mono R3 x4).mono R4 x5, h7, fun zv al6 H6 R6 x6 r6 => ⟨es, kk, keyD_rep r5 hkk, ?_, ?_, ?_⟩⟩⟩
                      · exact (x6.fr Dl _ (x5.fr Dl _ (x4.fr Dl _ hd3 nd2).1 (x4.fr Dl _ hd3 nd2).2).1 (x5.fr Dl _ (x4.fr Dl _ hd3 nd2).1 (x4.fr Dl _ hd3 nd2).2).2).1
                      · have e1 := congrArg List.length hks
                        simp only [List.length_map] at e1
                        exact lim_lt (by omega)
                      · have hd6 := (x6.fr Dl _ (x5.fr Dl _ (x4.fr Dl _ hd3 nd2).1 (x4.fr Dl _ hd3 nd2).2).1 (x5.fr Dl _ (x4.fr Dl _ hd3 nd2).1 (x4.fr Dl _ hd3 nd2).2).2).1
                        have nt : ∀ vs, H6 Dl ≠ some (.tup vs) := fun vs z => by rw [hd6] at z; cases z
                        obtain ⟨p1, p2⟩ := put_rl (k := kk) r6 hks (((ra3.mono R3 x4).mono R4 x5).mono R5 x6)
                        exact ⟨al6, S6, putD acc kk v, putK es kk zv, R6.pokeG (.inr rfl) nt, ((((x2.trans x3).trans x4).trans x5).trans x6).poke hD, upd_same, p1, p2.pokeG (.inr rfl) nt, h3⟩
                    · cases h3
            · rename_i S4 h5
              refine ⟨Bp B Dl, al2, S3, ρ3, false, S4, R3, er3, h5, fun bb al4 H4 R4 x4 ek => ?_⟩
              subst ek
              exact ⟨al4, S4, acc, es, R4, (x2.trans x3).trans x4, (x4.fr Dl _ hd3 nd2).1, hks, ra3.mono R3 x4, h3⟩
        · cases h3
      · rintro H2 ⟨al2, S3, acc, es, R2, x2, hd2, hks, ra, h3⟩
        rw [List.drop_length] at h3
        unfold mDcL at h3
        split at h3
        · cases h3
          refine q (.ref Dl) (al2 ++ [Dl]) H2 (R2.gain ⟨es, hd2, hks, ra⟩ (R1.freshB hD)) ((x1.trans x2).gain h0) (.ref _ Dl ?_)
          rw [← R2.len]
          simp
        · cases h3
    · cases hm
  · cases hm
theorem sn_dc {kx vx tg iter : Expr} {ifs : List Expr} {scope : Scope} {own : List (Str × Nat)} {pos : Pos} (hc : X.calm = true) (hN : X.N.Nodup) (hi : Si X tg iter it) (ok : BlkOk X.N X.env.scope scope own)
    (hg : ∀ (s : Shared) (H : Hp) (C : Addr) (cl : List (Str × Addr)) (fp : List Addr), Sg (X.blk s H scope (compEnvC scope cl C X.env) fp) tg g)
    (ht : ∀ (s : Shared) (H : Hp) (C : Addr) (cl : List (Str × Addr)) (fp : List Addr), PTs (X.blk s H scope (compEnvC scope cl C X.env) fp) ifs (tT X.K t))
    (hk : ∀ (s : Shared) (H : Hp) (C : Addr) (cl : List (Str × Addr)) (fp : List Addr), Sn (X.blk s H scope (compEnvC scope cl C X.env) fp) kx k)
    (he : ∀ (s : Shared) (H : Hp) (C : Addr) (cl : List (Str × Addr)) (fp : List Addr), Sn (X.blk s H scope (compEnvC scope cl C X.env) fp) vx e)
    (hv : ∀ i ∈ g.slots, i ∈ own.map (·.2)) (hs : ∀ x, foldedSetIterable iter X.env x = pure x := by intro _; rfl) : Sn X (.DictComp kx vx [⟨tg, iter, ifs, 0⟩] scope pos) (mDc (own.map (·.2)) g it t k e) :=
  pe_imp (pe_dc (g := tTg X.K g) (tt := tT X.K t) (tk := tE X.K k) (tv := tE X.K e) hc hN hi ok hg ht hk he hs) (dc_of hv)
end
/-- over things that are read alone, nothing changed -/
theorem dcL_all {α : Type} {Vs : List Nat} {g : Tg} {ok : Store → Bool} {k e : ME} {ρ : Env} {S : Store} (c : α → D) (f : α → Key) (v : α → D) (as : List α) (ho : ok S = true)
    (h : ∀ a ∈ as, ∃ ρ', g.put (c a) (wipeD ρ Vs) = some ρ' ∧ (∃ kd, k ρ' S = some (kd, S) ∧ keyD kd = some (f a)) ∧ e ρ' S = some (v a, S)) (acc : List (Key × D)) (hl : acc.length + as.length ≤ lim) :
    mDcL Vs g ok mTrue k e ρ (as.map c) acc S = some (as.foldl (fun acc a => putD acc (f a) (v a)) acc, S) := by
  induction as generalizing acc with
  | nil => simp [mDcL, ho]
  | cons a as ih =>
    obtain ⟨ρ', hp, ⟨kd, hk1, hk2⟩, he⟩ := h a List.mem_cons_self
    have ht : mTrue ρ' S = some (true, S) := rfl
    have hl1 : acc.length < lim := by simp at hl; omega
    have hput : (putD acc (f a) (v a)).length ≤ acc.length + 1 := by
      unfold putD
      split <;> simp
    rw [List.map_cons]
    unfold mDcL
    simp only [ho, if_true, hp, ht, hk1, he, hk2, if_pos hl1]
    exact ih (fun b hb => h b (List.mem_cons_of_mem _ hb)) _ (by simp at hl; omega)
@[simp] theorem wp_mDc {Vs : List Nat} {g : Tg} {it : MI} {t : MT} {k e : ME} {ρ : Env} {S : Store} {Q} : wp (mDc Vs g it t k e ρ) S Q ↔ wp (it ρ) S fun p S1 => ∃ kvs S2, mDcL Vs g p.2 t k e ρ p.1 [] S1 = some (kvs, S2) ∧ Q (.ref S2.length) (S2 ++ [.dct kvs]) := by
  constructor
  · rintro ⟨o, S', h, q⟩
    unfold mDc at h
    split at h
    · rename_i xs ok S1 h1
      split at h
      · rename_i kvs S2 h2; cases h; exact ⟨_, _, h1, _, _, h2, q⟩
      · cases h
    · cases h
  · rintro ⟨⟨xs, ok⟩, S1, h1, kvs, S2, h2, q⟩
    exact ⟨_, _, by simp only [mDc, h1]; simp only at h2; rw [h2], q⟩
@[simp] theorem wp_mOne {e : ME} {ρ : Env} {S : Store} {Q} : wp (mOne e ρ) S Q ↔ wp (e ρ) S fun d S1 => Q [d] S1 := by unfold mOne; simp
@[simp] theorem wp_mLv {Vs : List Nat} {g : Tg} {it : MI} {t : MT} {mb : Env → M (List D)} {ρ : Env} {S : Store} {Q} : wp (mLv Vs g it t mb ρ) S Q ↔ wp (it ρ) S fun p S1 => wp (mLcLL Vs g p.2 t mb ρ p.1) S1 Q := by
  constructor
  · rintro ⟨o, S', h, q⟩
    unfold mLv at h
    split at h
    · rename_i xs ok S1 h1; exact ⟨_, _, h1, o, S', h, q⟩
    · cases h
  · rintro ⟨⟨xs, ok⟩, S1, h1, o, S', h2, q⟩
    exact ⟨o, S', by simp only [mLv, h1]; exact h2, q⟩
@[simp] theorem wp_mLcN {Vs : List Nat} {g : Tg} {it : MI} {t : MT} {mb : Env → M (List D)} {ρ : Env} {S : Store} {Q} : wp (mLcN Vs g it t mb ρ) S Q ↔ wp (it ρ) S fun p S1 => wp (mLcLL Vs g p.2 t mb ρ p.1) S1 fun ys S2 => ys.length ≤ lim ∧ Q ys S2 := by
  constructor
  · rintro ⟨o, S', h, q⟩
    unfold mLcN at h
    split at h
    · rename_i ys S2 h2
      split at h
      · rename_i hz
        cases h
        obtain ⟨d, S3, h3, o3, S5, h5, rfl, rfl⟩ := (wp_mLv (Q := fun a b => a = o ∧ b = S')).mp ⟨o, S', h2, rfl, rfl⟩
        exact ⟨d, S3, h3, _, _, h5, hz, q⟩
      · cases h
    · cases h
  · rintro ⟨p, S1, h1, ys, S2, h2, hz, q⟩
    refine ⟨ys, S2, ?_, q⟩
    unfold mLcN mLv
    obtain ⟨xs, ok⟩ := p
    simp only [h1]
    simp only at h2
    rw [h2]
    simp [hz]
end Z
set_option Elab.async false
set_option linter.all false
set_option maxRecDepth 100000
/-! name = {k: v for ..} on one line. -/
namespace L2
open PySem PySem.Spec PyProof.Rows
section
variable {X : Cx}
theorem swD_true {kx vx : Expr} {gs : List Comprehension} {scope : Scope} {pos py : Pos} {y : Str} {l : Nat} {env : Env} (h1 : env.scope.kind = .function) (h2 : env.scope.names.lookup y = some .local) (h3 : (py.line == pos.line) = true)
    (h4 : (scope.names.any fun (n, k) => n == y && (k == .local || k == .cell)) = false) : swapsWith (.DictComp kx vx gs scope pos) (some (.Name y py)) l env = pure true := by
  have a1 : env.blockKind = .function := by
    unfold Env.blockKind
    rw [h1]
    rfl
  have a2 : env.kindOf y = some .local := h2
  unfold swapsWith
  simp only [a1, a2, h4, h3, Expr.pos]
  rfl
theorem ps_putDc {i : Nat} {y : Str} {py : Pos} {kx vx tg ix : Expr} {ifs : List Expr} {scope : Scope} {own : List (Str × Nat)} {pos spos : Pos} {wi : TI} {g : TG} {tt : TT} {tk tv : TE} (hc : X.calm = true) (hN : X.N.Nodup) (hy : X.N[i]? = some y) (hyl : X.env.scope.names.lookup y = some .local)
    (hsw : swapsWith (.DictComp kx vx [⟨tg, ix, ifs, 0⟩] scope pos) (some (.Name y py)) spos.line X.env = pure true) (hi : PI X tg ix wi) (ok : BlkOk X.N X.env.scope scope own)
    (hg : ∀ (s : Shared) (H : Hp) (C : Addr) (cl : List (Str × Addr)) (fp : List Addr), PG (X.blk s H scope (compEnvC scope cl C X.env) fp) tg g)
    (ht : ∀ (s : Shared) (H : Hp) (C : Addr) (cl : List (Str × Addr)) (fp : List Addr), PTs (X.blk s H scope (compEnvC scope cl C X.env) fp) ifs tt)
    (hk : ∀ (s : Shared) (H : Hp) (C : Addr) (cl : List (Str × Addr)) (fp : List Addr), PE (X.blk s H scope (compEnvC scope cl C X.env) fp) kx tk)
    (he : ∀ (s : Shared) (H : Hp) (C : Addr) (cl : List (Str × Addr)) (fp : List Addr), PE (X.blk s H scope (compEnvC scope cl C X.env) fp) vx tv) (hs : ∀ x, foldedSetIterable ix X.env x = pure x := by intro _; rfl) :
    PS X (.Assign [.Name y py] (.DictComp kx vx [⟨tg, ix, ifs, 0⟩] scope pos) spos) (tAsg (tDc wi g tt tk tv (own.map (·.2))) (gName i)) := by
  refine ⟨fun pins s σ H E I h => ?_⟩
  rw [exec_Assign_Name_used _ _ _ _ hsw]
  refine wpAny_bind (wpAny_standAt (wpAny_bind ?_))
  show wpAny _ X.A (do let _ ← comprehension (.DictComp kx vx [⟨tg, ix, ifs, 0⟩] scope pos) scope X.env (firstIterPos [⟨tg, ix, ifs, 0⟩] pos) newDict false (eval ix X.env) (some (assign (.Name y py) X.env))) _ _ s
  have h' : tDc wi g tt tk tv (own.map (·.2)) σ H (fun x H1 => gName i x σ H1 E.nx) := h
  refine wpAny_bind (thn (dc_core (Qf := fun _ t => SP X pins E .next t) hc hN I hi ok hg ht hk he hs h' fun L C t m H' I' q hn f => ?_) fun _ t hq => wpAny_pure (wpAny_pure hq))
  show wpAny _ _ (assign (.Name y py) X.env (.ref L)) _ _ _
  refine wpAny_assign_Name (store_ok2 (v := V.ref L) I' hN hy (.inl hyl) rfl (fun t2 I2 ⟨a, sb, ha⟩ => ?_) (.inr hyl))
  obtain ⟨k0, k1, k2, k3, k4, k5⟩ := f
  have ne : C ≠ a := ha.elim (fun z => z ▸ k1) (fun z e => k4 y a z e.symm)
  exact ⟨m, hn.sameBut sb ne, fun h3 sb3 => ⟨_, H', I2.turned (t' := t2.toks) (fun b o hb e => (sb3.2 b hb).trans e) k0 k1 k3 k4 k5, q⟩⟩
end
end L2
set_option Elab.async false
set_option linter.all false
set_option maxRecDepth 100000
/-! A statement that is never reached; len(set(xs)) of whole numbers that differ; xs.count(i). -/
namespace Z
open PySem L2
section
variable {X : Cx}
def mNever : MS := fun _ _ => none
theorem ss_never {W : Str → Hp → Prop} {st : Stmt} : Ss X W st mNever := ⟨fun pins s σ H D I ⟨B, al, S, ρ, o, S', R, er, hm, p⟩ => by cases hm⟩
@[simp] theorem wps_never {ρ : Env} {S : Store} {Q} : wps mNever ρ S Q ↔ False := ⟨fun ⟨o, S', e, q⟩ => (by cases e), False.elim⟩
def mLenSet (m : ME) : ME := fun ρ => bnd (m ρ) fun d S => (asLC S d).bind fun xs => (intsOf xs).bind fun ns => if ns.length < 64 ∧ ns.Nodup then some (.int (ns.length : Nat), S) else none
theorem sn_lenset {a : Expr} {m : ME} {p p2 q pos : Pos} (hc : X.calm = true) (hg : Gl X "len") (hm : X.mg "len" = none) (hg2 : Gl X "set") (hm2 : X.mg "set" = none) (ha : Sn X a m)
    (na : starEach [a] X.env = (false, eval a X.env) :: starEach [] X.env := by rfl) : Sn X (.Call (.Name "len" p) [.Call (.Name "set" p2) [a] [] q] [] pos) (mLenSet m) :=
  pe_imp (pe_lenSetI hc hg hm hg2 hm2 ha na) fun σ H Q ⟨B, al, S, ρ, z, S', R, er, hm, q⟩ => by
    obtain ⟨d, S1, h1, h2⟩ := bnd_some hm
    refine ⟨B, al, S, ρ, d, S1, R, er, h1, fun v al1 H1 R1 x1 r1 => ?_⟩
    cases hx : asLC S1 d with
    | none => rw [hx] at h2; cases h2
    | some xs =>
      rw [hx] at h2
      simp only [Option.bind_some] at h2
      cases hy : intsOf xs with
      | none => rw [hy] at h2; cases h2
      | some ns =>
        rw [hy] at h2
        simp only [Option.bind_some] at h2
        split at h2
        · rename_i hk
          cases h2
          obtain ⟨b, us, rfl, hb, rb⟩ := asLC_rep R1 r1 hx
          obtain ⟨e, _⟩ := ints_rep rb hy
          exact ⟨b, ns, rfl, by rw [← e]; exact hb, hk.1, hk.2, q _ al1 H1 R1 x1 (.int _)⟩
        · cases h2
@[simp] theorem wp_mLenSet {m : ME} {ρ : Env} {S : Store} {Q} : wp (mLenSet m ρ) S Q ↔ wp (m ρ) S fun d S1 => ∃ xs, asLC S1 d = some xs ∧ ∃ ns, intsOf xs = some ns ∧ (ns.length < 64 ∧ ns.Nodup) ∧ Q (.int (ns.length : Nat)) S1 := by
  unfold mLenSet
  rw [wp_bnd]
  constructor
  · rintro ⟨d, S1, h, z, S2, e, q⟩
    refine ⟨d, S1, h, ?_⟩
    dsimp only at e
    cases hx : asLC S1 d with
    | none => rw [hx] at e; cases e
    | some xs =>
      rw [hx] at e
      simp only [Option.bind_some] at e
      cases hy : intsOf xs with
      | none => rw [hy] at e; cases e
      | some ns =>
        rw [hy] at e
        simp only [Option.bind_some] at e
        split at e
        · rename_i hk; cases e; exact ⟨xs, hx, ns, hy, hk, q⟩
        · cases e
  · rintro ⟨d, S1, h, xs, hx, ns, hy, hk, q⟩
    refine ⟨d, S1, h, _, S1, ?_, q⟩
    dsimp only
    rw [hx]
    simp only [Option.bind_some, hy]
    rw [if_pos hk]
end
section
variable {K : PySem.W.Frag}
def lCnt (o : D) (ds : List D) : M D := fun S => match ds with
  | [.int k] => (asLC S o).bind fun xs => (intsOf xs).map fun ns => (.int (ns.count k : Nat), S)
  | _ => none
theorem l_cnt : MRS K (rCntI K) lCnt := fun B al S H o ds z v vs S' R ro rd h Q q => by
  unfold lCnt at h
  split at h
  · rename_i k
    cases hx : asLC S o with
    | none => rw [hx] at h; cases h
    | some xs =>
      rw [hx] at h
      simp only [Option.bind_some] at h
      cases hy : intsOf xs with
      | none => rw [hy] at h; cases h
      | some ns =>
        rw [hy] at h
        cases h
        obtain ⟨w, rfl, rw'⟩ := rl_one rd
        cases rw'
        obtain ⟨b, us, rfl, hb, rb⟩ := asLC_rep R ro hx
        obtain ⟨e, _⟩ := ints_rep rb hy
        exact ⟨b, ns, k, rfl, rfl, by rw [← e]; exact hb, q _ al H R .refl (.int _)⟩
  · cases h
@[simp] theorem wp_lCnt {o : D} {k : Int} {S : Store} {Q} : wp (lCnt o [.int k]) S Q ↔ ∃ xs, asLC S o = some xs ∧ ∃ ns, intsOf xs = some ns ∧ Q (.int (ns.count k : Nat)) S := by
  unfold lCnt
  constructor
  · rintro ⟨z, S1, e, q⟩
    dsimp only at e
    cases hx : asLC S o with
    | none => rw [hx] at e; cases e
    | some xs =>
      rw [hx] at e
      simp only [Option.bind_some] at e
      cases hy : intsOf xs with
      | none => rw [hy] at e; cases e
      | some ns => rw [hy] at e; cases e; exact ⟨xs, rfl, ns, hy, q⟩
  · rintro ⟨xs, hx, ns, hy, q⟩
    refine ⟨_, S, ?_, q⟩
    dsimp only
    rw [hx]
    simp only [Option.bind_some, hy, Option.map_some]
end
end Z
set_option Elab.async false
set_option linter.all false
set_option maxRecDepth 100000
/-! x in xs, data of any depth. -/
namespace Z
open PySem L2
section
variable {K : PySem.W.Frag}
def inD (S : Store) (d e : D) : Option Bool := match rs S 4 e with
  | .lst xs => if nr (rs S 4 d) && nr (.lst xs) && SeqAt.shaped (toP (rs S 4 d)) && SeqAt.shaped (toP (.lst xs)) then some ((toPs xs).any fun z => PyData.eqv z (toP (rs S 4 d))) else none
  | _ => none
def dInD (d e : D) : M D := fun S => (inD S d e).map fun b => (.bl b, S)
def dNotInD (d e : D) : M D := fun S => (inD S d e).map fun b => (.bl (!b), S)
theorem inD_dp {B : Addr → Prop} {al : List Addr} {S : Store} {H : Hp} {d e : D} {v w : V} {b : Bool} (R : Rel K B al S H) (r1 : RV K B al H d v) (r2 : RV K B al H e w) (h : inD S d e = some b) :
    ∃ p ps, Dp K H v p ∧ Dp K H w (.list ps) ∧ SeqAt.shaped p = true ∧ SeqAt.shaped (.list ps) = true ∧ (ps.any fun z => PyData.eqv z p) = b := by
  unfold inD at h
  split at h
  · rename_i xs hx
    split at h
    · rename_i hc
      cases h
      simp only [Bool.and_eq_true] at hc
      obtain ⟨⟨⟨h1, h2⟩, h3⟩, h4⟩ := hc
      have h2' : nr (rs S 4 e) = true := by rw [hx]; exact h2
      have g := dp_of (rs_frz R 4 r2 h2') h2'
      rw [hx] at g
      exact ⟨_, toPs xs, dp_of (rs_frz R 4 r1 h1) h1, g, h3, h4, rfl⟩
    · cases h
  · cases h
theorem r_inD : R2S K (rInD K) dInD := fun B al S H d e z v w S' R r1 r2 h Q q => by
  unfold dInD at h
  cases hb : inD S d e with
  | none => rw [hb] at h; cases h
  | some b =>
    rw [hb] at h
    cases h
    obtain ⟨p, ps, h1, h2, h3, h4, rfl⟩ := inD_dp R r1 r2 hb
    exact ⟨p, ps, h1, h2, h3, h4, q _ al H R .refl (.bl _)⟩
theorem r_notInD : R2S K (rNotInD K) dNotInD := fun B al S H d e z v w S' R r1 r2 h Q q => by
  unfold dNotInD at h
  cases hb : inD S d e with
  | none => rw [hb] at h; cases h
  | some b =>
    rw [hb] at h
    cases h
    obtain ⟨p, ps, h1, h2, h3, h4, rfl⟩ := inD_dp R r1 r2 hb
    exact ⟨p, ps, h1, h2, h3, h4, q _ al H R .refl (.bl _)⟩
end
theorem hu65 {A : Around} {k : Nat} (hr : Room k A) : A.units + 65 < cLine := by have := hr.un; omega
theorem inD_see {S : Store} {d e v : D} {xs : List D} (h1 : rs S 4 d = v) (h2 : rs S 4 e = .lst xs) (f1 : fit 60 v = true) (f2 : fit 60 (.lst xs) = true) : inD S d e = some ((toPs xs).any fun z => PyData.eqv z (toP v)) := by
  unfold inD
  rw [h2]
  simp only [h1, nr_fit f1, nr_fit f2, shaped_fit f1, shaped_fit f2, Bool.and_self, if_true]
theorem wp_dInD {S : Store} {d e : D} {b : Bool} (h : inD S d e = some b) {Q : D → Store → Prop} (q : Q (.bl b) S) : wp (dInD d e) S Q := ⟨_, _, by unfold dInD; rw [h]; rfl, q⟩
theorem wp_dNotInD {S : Store} {d e : D} {b : Bool} (h : inD S d e = some b) {Q : D → Store → Prop} (q : Q (.bl (!b)) S) : wp (dNotInD d e) S Q := ⟨_, _, by unfold dNotInD; rw [h]; rfl, q⟩
end Z
set_option Elab.async false
set_option linter.all false
set_option maxRecDepth 100000
/-! d.get(k); dict(pairs). -/
namespace Z
open PySem L2 PyProof PyProof.Rows
def isDct (S : Store) (o : D) : Bool := match o with
  | .ref n => match S[n]? with
    | some (.dct _) => true
    | some (.dtt _) => true
    | _ => false
  | _ => false
def mDGet1 (mo mk : ME) : ME := fun ρ => bnd (mo ρ) fun o S => if isDct S o = true then (bnd (mk ρ) fun k S => (dGetO S o k).map fun r => (r.getD .non, S)) S else none
section
variable {X : Cx}
theorem isDct_rep {K : PySem.W.Frag} {B : Addr → Prop} {al : List Addr} {S : Store} {H : Hp} {o : D} {vo : V} (R : Rel K B al S H) (ro : RV K B al H o vo) (e : isDct S o = true) : ∃ a, vo = .ref a ∧ IsD H a := by
  unfold isDct at e
  split at e
  · rename_i n
    cases ro with
    | ref _ a hn =>
      split at e
      · rename_i kvs hs
        obtain ⟨_, es, he, _⟩ := R.look (.ref n a hn) hs
        exact ⟨a, rfl, .inl ⟨es, .inl he⟩⟩
      · rename_i kvs hs
        obtain ⟨_, es, he, _⟩ := R.look (.ref n a hn) hs
        exact ⟨a, rfl, .inr ⟨es, .inl he⟩⟩
      · cases e
  · cases e
theorem sn_dget1 {o i : Expr} {mo mk : ME} {apos cpos : Pos} (hu : X.A.units + 1 < cLine) (ho : Sn X o mo) (hi : Sn X i mk) (m : M1 X o (PySem.Str.ofString "get") apos i cpos) : Sn X (.Call (.Attribute o (PySem.Str.ofString "get") apos) [i] [] cpos) (mDGet1 mo mk) :=
  pe_imp (pe_dget1 hu ho hi m) fun σ H Q ⟨B, al, S, ρ, d, S', R, er, hm, q⟩ => by
    obtain ⟨o, S1, h1, hm⟩ := bnd_some hm
    split at hm
    · rename_i hd
      obtain ⟨k, S2, h2, hm⟩ := bnd_some hm
      cases hg : dGetO S2 o k with
      | none => rw [hg] at hm; cases hm
      | some r =>
        rw [hg] at hm
        cases hm
        refine ⟨B, al, S, ρ, o, S1, R, er, h1, fun vo al1 H1 R1 x1 ro => ?_⟩
        obtain ⟨a, rfl, hisd⟩ := isDct_rep R1 ro hd
        refine ⟨a, rfl, hisd, B, al1, S1, ρ, k, _, R1, er.mono R x1, h2, fun vk al2 H2 R2 x2 rk => ?_⟩
        obtain ⟨a2, w, e2, g, hh⟩ := get_rep R2 (ro.mono R1 x2) rk hg
        cases e2
        rcases hh with ⟨d2, v, rfl, rfl, rv⟩ | ⟨rfl, rfl⟩
        · exact ⟨_, g, q v al2 H2 R2 (x1.trans x2) rv⟩
        · exact ⟨_, g, q .non al2 H2 R2 (x1.trans x2) .non⟩
    · cases hm
theorem wp_mDGet1 {mo mk : ME} {ρ : Env} {S : Store} {Q : D → Store → Prop} (h : wp (mo ρ) S fun o S1 => isDct S1 o = true ∧ wp (mk ρ) S1 fun k S2 => ∃ r, dGetO S2 o k = some r ∧ Q (r.getD .non) S2) : wp (mDGet1 mo mk ρ) S Q := by
  obtain ⟨o, S1, e1, hd, k, S2, e2, r, hr, q⟩ := h
  refine ⟨r.getD .non, S2, ?_, q⟩
  unfold mDGet1 bnd
  simp only [e1]
  rw [if_pos hd]
  simp only [e2, hr, Option.map_some]
end
/-! ### dict(pairs) -/
def pairsD : List D → Option (List (Key × D))
  | [] => some []
  | .tup [k, v] :: ds => match keyD k, pairsD ds with
    | some k, some kvs => some ((k, v) :: kvs)
    | _, _ => none
  | _ => none
def cDictP (ds : List D) : M D := fun S => match ds with
  | [d] => (asL S d).bind fun xs => (pairsD xs).bind fun kvs => if (kvs.map (·.1)).Nodup then some (.ref S.length, S ++ [.dct kvs]) else none
  | _ => none
def rDictP (K : PySem.W.Frag) : List V → Hp → VK → Prop := fun xs H Q => ∃ (a : Addr) (ps : List Addr) (kvs : List (Key × V)), xs = [.ref a] ∧ SqL K H a (ps.map V.ref) ∧ Paired (fun p kv => SqT K H p [kV kv.1, kv.2]) ps kvs ∧
    ∀ p, H p = none → Q (.ref p) (upd H p (.dK (mergeK [] kvs)))
theorem cr_dictP {X : Cx} (hcalm : X.calm = true) : CallR X (.type "dict") (rDictP X.K) := call_dictP hcalm
theorem any_key {κ α β : Type} [DecidableEq κ] {kvs : List (κ × α)} {es : List (κ × β)} (e : kvs.map (·.1) = es.map (·.1)) (k : κ) : k ∈ kvs.map (·.1) ↔ (es.any fun kv => decide (kv.1 = k)) = true := by
  rw [e]
  simp
theorem merge_nodup : ∀ (es acc : List (Key × V)), (acc.map (·.1) ++ es.map (·.1)).Nodup → mergeK acc es = acc ++ es
  | [], acc, _ => by simp [mergeK]
  | e :: es, acc, h => by
    have h2 : putK acc e.1 e.2 = acc ++ [e] := by
      unfold putK
      rw [if_neg]
      intro ha
      obtain ⟨kv, hk, hd⟩ := List.any_eq_true.mp ha
      have hd : kv.1 = e.1 := by simpa using hd
      have := (List.nodup_append.mp h).2.2 kv.1 (List.mem_map.mpr ⟨kv, hk, rfl⟩) e.1 (by simp)
      exact this hd
    show mergeK (putK acc e.1 e.2) es = _
    rw [h2, merge_nodup es (acc ++ [e]) (by simpa using h)]
    simp
section
variable {K : PySem.W.Frag} {B : Addr → Prop} {al : List Addr} {H : Hp}
theorem pairs_rep : ∀ {ds : List D} {vs : List V} {kvs : List (Key × D)}, RL K B al H ds vs → pairsD ds = some kvs → ∃ (ps : List Addr) (es : List (Key × V)), vs = ps.map V.ref ∧ Paired (fun p kv => SqT K H p [kV kv.1, kv.2]) ps es ∧ kvs.map (·.1) = es.map (·.1) ∧ RL K B al H (kvs.map (·.2)) (es.map (·.2))
  | _, _, _, .nil, e => by cases e; exact ⟨[], [], rfl, .nil, rfl, .nil⟩
  | _, _, kvs0, .cons d v ds vs h r, e => by
    unfold pairsD at e
    split at e
    · rename_i heq; cases heq
    · rename_i k w ds' heq
      cases heq
      split at e
      · rename_i kk kvs hk hkvs
        cases e
        obtain ⟨ps, es, rfl, hp, he, rl⟩ := pairs_rep r hkvs
        cases h with
        | tup b _ us hb ru =>
          cases ru with
          | cons _ vk _ us2 rk ru2 =>
            cases ru2 with
            | cons _ vw _ us3 rw' ru3 =>
              cases ru3
              have := keyD_rep rk hk
              subst this
              exact ⟨b :: ps, (kk, vw) :: es, rfl, .cons (.inl (.inl hb)) hp, by simp [he], .cons _ _ _ _ rw' rl⟩
      · cases e
    · cases e
theorem c_dictP : CRS K (rDictP K) cDictP := fun B al S H ds z vs S' R r1 h Q q => by
  unfold cDictP at h
  split at h
  · rename_i d
    cases hx : asL S d with
    | none => rw [hx] at h; cases h
    | some xs =>
      rw [hx] at h
      simp only [Option.bind_some] at h
      cases hy : pairsD xs with
      | none => rw [hy] at h; cases h
      | some kvs =>
        rw [hy] at h
        simp only [Option.bind_some] at h
        split at h
        · rename_i hnd
          cases h
          obtain ⟨v, rfl, rv⟩ := rl_one r1
          obtain ⟨a, us, rfl, ha, ra⟩ := asL_rep R rv hx
          obtain ⟨ps, es, rfl, hp, he, rl⟩ := pairs_rep ra hy
          refine ⟨a, ps, es, rfl, .inl (.inl ha), hp, fun p h0 => ?_⟩
          rw [merge_nodup es [] (by rw [← he]; simpa using hnd), List.nil_append]
          obtain ⟨x, R2⟩ := R.new (o := .dK es) (u := .dct kvs) h0 fun x => ⟨es, upd_same, he, rl.mono R x⟩
          exact q (.ref p) _ _ R2 x (.ref _ p (by rw [← R.len]; simp))
        · cases h
  · cases h
theorem wp_cDictP {d : D} {S : Store} {Q : D → Store → Prop} {xs : List D} {kvs : List (Key × D)} (h1 : asL S d = some xs) (h2 : pairsD xs = some kvs) (h3 : (kvs.map (·.1)).Nodup) (q : Q (.ref S.length) (S ++ [.dct kvs])) : wp (cDictP [d]) S Q := by
  refine ⟨_, _, ?_, q⟩
  simp only [cDictP, h1, Option.bind_some, h2]
  rw [if_pos h3]
end
/-! ### repr, also of None -/
def rReprN (K : PySem.W.Frag) : List V → Hp → VK → Prop := fun vs H Q => rRepr K vs H Q ∨ (vs = [.non] ∧ Q (.str (PySem.Str.ofString "None")) H)
theorem cr_reprN {X : Cx} (hg : X.A.guards = some []) (hu : X.A.units + 64 < cLine) : CallR X (.builtin "repr") (rReprN X.K) := fun pins s σ H vs us Q I r h => by
  rcases h with h | ⟨e, q⟩
  · exact cr_repr hg hu pins s σ H vs us Q I r h
  · subst e
    cases r with
    | cons rx rt =>
      cases rt
      cases rx
      exact PySem.P.repr_of_none ⟨.str (PySem.Str.ofString "None"), H, I.tok _, ⟨_, rfl⟩, q⟩
def cReprN (ds : List D) : M D := fun S => match ds with
  | [.non] => some (.str (PySem.Str.ofString "None"), S)
  | ds => cRepr ds S
theorem c_reprN {K : PySem.W.Frag} : CRS K (rReprN K) cReprN := fun B al S H ds z vs S' R r1 h Q q => by
  unfold cReprN at h
  split at h
  · cases h
    obtain ⟨v, rfl, rv⟩ := rl_one r1
    cases rv
    exact .inr ⟨rfl, q _ al H R .refl (.str _)⟩
  · exact .inl (c_repr B al S H _ z vs S' R r1 h Q q)
theorem wp_reprN {S : Store} {Q : D → Store → Prop} (q : Q (.str (PySem.Str.ofString "None")) S) : wp (cReprN [.non]) S Q := ⟨_, _, rfl, q⟩
theorem wp_reprB {d : D} {S : Store} {Q : D → Store → Prop} (h : showD d = true) (q : Q (.str (toP d).shown) S) : wp (cReprN [d]) S Q := by
  have e : cReprN [d] = cRepr [d] := by
    funext T
    unfold cReprN
    split
    · rename_i heq
      cases heq
      simp [showD, boxD] at h
    · rfl
  rw [e]
  exact wp_reprs h q
end Z
set_option Elab.async false
set_option linter.all false
set_option maxRecDepth 100000
/-! d.get(k, x); sorted(dict), len(dict). -/
namespace Z
open PySem L2 PyProof PyProof.Rows
def mDGet2 (mo mk mx : ME) : ME := fun ρ => bnd (mo ρ) fun o S => if isDct S o = true then (bnd (mk ρ) fun k => bnd (mx ρ) fun x S => (dGetO S o k).map fun r => (r.getD x, S)) S else none
section
variable {X : Cx}
theorem sn_dget2 {o i f : Expr} {mo mk mx : ME} {apos cpos : Pos} (hu : X.A.units + 1 < cLine) (ho : Sn X o mo) (hi : Sn X i mk) (hf : Sn X f mx) (m : M2 X o (PySem.Str.ofString "get") apos i f cpos) : Sn X (.Call (.Attribute o (PySem.Str.ofString "get") apos) [i, f] [] cpos) (mDGet2 mo mk mx) :=
  pe_imp (pe_dget2 hu ho hi hf m) fun σ H Q ⟨B, al, S, ρ, d, S', R, er, hm, q⟩ => by
    obtain ⟨o, S1, h1, hm⟩ := bnd_some hm
    split at hm
    · rename_i hd
      obtain ⟨k, S2, h2, hm⟩ := bnd_some hm
      obtain ⟨y, S3, h3, hm⟩ := bnd_some hm
      cases hg : dGetO S3 o k with
      | none => rw [hg] at hm; cases hm
      | some r =>
        rw [hg] at hm
        cases hm
        refine ⟨B, al, S, ρ, o, S1, R, er, h1, fun vo al1 H1 R1 x1 ro => ?_⟩
        obtain ⟨a, rfl, hisd⟩ := isDct_rep R1 ro hd
        refine ⟨a, rfl, hisd, B, al1, S1, ρ, k, S2, R1, er.mono R x1, h2, fun vk al2 H2 R2 x2 rk => ⟨B, al2, S2, ρ, y, _, R2, er.mono R (x1.trans x2), h3, fun vy al3 H3 R3 x3 ry => ?_⟩⟩
        obtain ⟨a2, w, e2, g, hh⟩ := get_rep R3 (ro.mono R1 (x2.trans x3)) (rk.mono R2 x3) hg
        cases e2
        rcases hh with ⟨d2, v, rfl, rfl, rv⟩ | ⟨rfl, rfl⟩
        · exact ⟨_, g, q v al3 H3 R3 ((x1.trans x2).trans x3) rv⟩
        · exact ⟨_, g, q vy al3 H3 R3 ((x1.trans x2).trans x3) ry⟩
    · cases hm
theorem wp_mDGet2 {mo mk mx : ME} {ρ : Env} {S : Store} {Q : D → Store → Prop} (h : wp (mo ρ) S fun o S1 => isDct S1 o = true ∧ wp (mk ρ) S1 fun k S2 => wp (mx ρ) S2 fun x S3 => ∃ r, dGetO S3 o k = some r ∧ Q (r.getD x) S3) : wp (mDGet2 mo mk mx ρ) S Q := by
  obtain ⟨o, S1, e1, hd, k, S2, e2, x, S3, e3, r, hr, q⟩ := h
  refine ⟨r.getD x, S3, ?_, q⟩
  unfold mDGet2 bnd
  simp only [e1]
  rw [if_pos hd]
  simp only [e2, e3, hr, Option.map_some]
end
/-! ### sorted(d), len(d), keys whole numbers -/
def keysI : List Key → Option (List Int)
  | [] => some []
  | .inl i :: ks => (keysI ks).map (i :: ·)
  | _ => none
theorem keysI_eq : ∀ {ks : List Key} {ns : List Int}, keysI ks = some ns → ks = ns.map Sum.inl
  | [], ns, h => by cases h; rfl
  | .inl i :: ks, ns, h => by
    unfold keysI at h
    cases hx : keysI ks with
    | none => rw [hx] at h; cases h
    | some ms => rw [hx] at h; cases h; rw [keysI_eq hx]; rfl
  | .inr _ :: ks, ns, h => by simp [keysI] at h
theorem keysI_map : ∀ ns : List Int, keysI (ns.map Sum.inl) = some ns
  | [] => rfl
  | n :: ns => by simp [keysI, keysI_map ns]
def dctO (S : Store) (d : D) : Option (List (Key × D)) := match d with
  | .ref n => match S[n]? with
    | some (.dct kvs) => some kvs
    | _ => none
  | _ => none
theorem dctO_rep {K : PySem.W.Frag} {B : Addr → Prop} {al : List Addr} {S : Store} {H : Hp} {o : D} {vo : V} {kvs : List (Key × D)} (R : Rel K B al S H) (ro : RV K B al H o vo) (e : dctO S o = some kvs) : ∃ (a : Addr) (es : List (Key × V)), vo = .ref a ∧ H a = some (.dK es) ∧ kvs.map (·.1) = es.map (·.1) := by
  unfold dctO at e
  split at e
  · rename_i n
    cases ro with
    | ref _ a hn =>
      split at e
      · rename_i kvs' hs
        cases e
        obtain ⟨_, es, he, hk, _⟩ := R.look (.ref n a hn) hs
        exact ⟨a, es, rfl, he, hk⟩
      · cases e
  · cases e
def cSortD (ds : List D) : M (List D) := fun S => match ds with
  | [d] => (dctO S d).bind fun kvs => (keysI (kvs.map (·.1))).bind fun ns => if ns.length < 64 then some ((srtI ns).map .int, S) else none
  | _ => none
def rSortD (K : PySem.W.Frag) : List V → Hp → VK → Prop := fun xs H Q => ∃ (a : Addr) (kvs : List (Key × V)) (ks : List Int), xs = [.ref a] ∧ Rd H a (.dK kvs) ∧ kvs.map (·.1) = ks.map Sum.inl ∧ ks.length < 64 ∧
    ∀ (ys : List Int) (p : Addr), ys.Perm ks → ys.Pairwise (· ≤ ·) → H p = none → Q (.ref p) (upd H p (.lst (ys.map V.int)))
theorem cr_sortD {X : Cx} (hc : X.calm = true) : CallR X (.builtin "sorted") (rSortD X.K) := call_sortedDI hc
theorem c_sortD {K : PySem.W.Frag} : CRF K (rSortD K) cSortD := fun B al S H ds z vs S' R r1 h Q q => by
  unfold cSortD at h
  split at h
  · rename_i d
    cases hx : dctO S d with
    | none => rw [hx] at h; cases h
    | some kvs =>
      rw [hx, Option.bind_some] at h
      cases hy : keysI (kvs.map (·.1)) with
      | none => rw [hy] at h; cases h
      | some ns =>
        rw [hy, Option.bind_some] at h
        split at h
        · rename_i hl
          cases h
          obtain ⟨v, rfl, rv⟩ := rl_one r1
          obtain ⟨a, es, rfl, ha, hk⟩ := dctO_rep R rv hx
          refine ⟨a, es, ns, rfl, .inl ha, by rw [← hk]; exact keysI_eq hy, hl, fun ns' p hp hs h0 => ?_⟩
          obtain rfl : ns' = srtI ns := srt_uniq (hp.trans (srtI_perm ns).symm) hs (srtI_sorted ns)
          obtain ⟨g1, g2, g3, g4, g5⟩ := new_F R .refl h0 (rl_ints (K := K) (B := B) (al := al) (H := H) (srtI ns))
          exact q p _ al _ g1 g2 g3 g4 g5
        · cases h
  · cases h
theorem wp_cSortD {d : D} {S : Store} {Q : List D → Store → Prop} {kvs : List (Key × D)} {ns : List Int} (h1 : dctO S d = some kvs) (h2 : keysI (kvs.map (·.1)) = some ns) (h3 : ns.length < 64) (q : Q ((srtI ns).map .int) S) : wp (cSortD [d]) S Q := by
  refine ⟨_, _, ?_, q⟩
  simp only [cSortD, h1, Option.bind_some, h2]
  rw [if_pos h3]
def cLenD (ds : List D) : M D := fun S => match ds with
  | [d] => (dctO S d).map fun kvs => (.int (kvs.length : Nat), S)
  | _ => none
def rLenD : List V → Hp → VK → Prop := fun xs H Q => ∃ (a : Addr) (kvs : List (Key × V)), xs = [.ref a] ∧ Rd H a (.dK kvs) ∧ Q (.int kvs.length) H
theorem cr_lenD {X : Cx} : CallR X (.builtin "len") rLenD := fun pins s σ H vs us Q I r ⟨a, kvs, e, hd, q⟩ => by
  subst e
  rw [Vals.ref1 r]
  exact d_len I hd fun t s' I' => ⟨.int kvs.length, H, I', ⟨_, rfl⟩, q⟩
theorem c_lenD {K : PySem.W.Frag} : CRS K rLenD cLenD := fun B al S H ds z vs S' R r1 h Q q => by
  unfold cLenD at h
  split at h
  · rename_i d
    cases hx : dctO S d with
    | none => rw [hx] at h; cases h
    | some kvs =>
      rw [hx] at h
      cases h
      obtain ⟨v, rfl, rv⟩ := rl_one r1
      obtain ⟨a, es, rfl, ha, hk⟩ := dctO_rep R rv hx
      have hl : kvs.length = es.length := by have := congrArg List.length hk; simpa using this
      refine ⟨a, es, rfl, .inl ha, ?_⟩
      rw [← hl]
      exact q _ al H R .refl (.int _)
  · cases h
theorem wp_cLenD {d : D} {S : Store} {Q : D → Store → Prop} {kvs : List (Key × D)} (h : dctO S d = some kvs) (q : Q (.int (kvs.length : Nat)) S) : wp (cLenD [d]) S Q := ⟨_, _, by simp only [cLenD, h, Option.map_some], q⟩
end Z
set_option Elab.async false
set_option linter.all false
set_option maxRecDepth 100000
/-! not x as a value, by truth. -/
namespace Z
open PySem L2
theorem truD_rep {K : PySem.W.Frag} {B : Addr → Prop} {al : List Addr} {S : Store} {H : Hp} {d : D} {v : V} {b : Bool} (R : Rel K B al S H) (r : RV K B al H d v) (ht : truD S d = some b) : TruV K v H b := by
  cases r with
  | non => cases ht; rfl
  | bl b => cases ht; rfl
  | int i => cases ht; rfl
  | str x => simp [truD, asL] at ht
  | tup a ds vs h r => cases ht; exact .inr (.inl ⟨vs, .of h, by rw [r.emp]⟩)
  | lst a ds vs h r => cases ht; exact .inl ⟨vs, .of h.1, by show (!ds.isEmpty) = _; rw [r.emp]⟩
  | scr a ns h => simp [truD, asL] at ht
  | tpi a ns h => simp [truD, asL] at ht
  | dcf a kvs es h k r => simp [truD, asL] at ht
  | tpx a ds vs h r => cases ht; exact .inr (.inl ⟨vs, zat_sq h, by rw [r.emp]⟩)
  | ref n a h =>
    simp only [truD] at ht
    cases hx : asL S (.ref n) with
    | none => rw [hx] at ht; cases ht
    | some xs =>
      rw [hx] at ht
      cases ht
      obtain ⟨b, vs, e, hb, rb⟩ := asL_rep R (.ref n a h) hx
      cases e
      exact .inl ⟨vs, .of hb, by show (!xs.isEmpty) = _; rw [rb.emp]⟩
def mNotT (m : ME) : ME := fun ρ => bnd (m ρ) fun d => fun S => (truD S d).map fun b => (.bl (!b), S)
section
variable {X : Cx} {a : Expr} {m : ME} {pos : Pos}
theorem sn_notT (h : Sn X a m) : Sn X (.UnaryOp .Not a pos) (mNotT m) := pe_imp (pe_notT h) fun σ H Q ⟨B, al, S, ρ, z, S', R, er, hm, q⟩ => by
  obtain ⟨d, S1, h1, h2⟩ := bnd_some hm
  refine ⟨B, al, S, ρ, d, S1, R, er, h1, fun v al1 H1 R1 x1 r1 => ?_⟩
  cases ht : truD S1 d with
  | none => rw [ht] at h2; cases h2
  | some b =>
    rw [ht] at h2
    simp only [Option.map_some, Option.some.injEq, Prod.mk.injEq] at h2
    obtain ⟨rfl, rfl⟩ := h2
    exact ⟨b, truD_rep R1 r1 ht, q _ al1 H1 R1 x1 (.bl _)⟩
end
section
variable {S : Store} {ρ : Env}
@[simp] theorem wp_mNotT {m : ME} {Q} : wp (mNotT m ρ) S Q ↔ wp (m ρ) S fun d S1 => ∃ b, truD S1 d = some b ∧ Q (.bl (!b)) S1 := by
  unfold mNotT
  rw [wp_bnd]
  constructor
  · rintro ⟨d, S1, h, b, S2, e, q⟩
    refine ⟨d, S1, h, ?_⟩
    cases ht : truD S1 d with
    | none => simp only [ht] at e; cases e
    | some x =>
      simp only [ht, Option.map_some, Option.some.injEq, Prod.mk.injEq] at e
      obtain ⟨rfl, rfl⟩ := e
      exact ⟨x, ht, q⟩
  · rintro ⟨d, S1, h, b, ht, q⟩
    exact ⟨d, S1, h, _, _, by simp only [ht, Option.map_some], q⟩
end
end Z
set_option Elab.async false
set_option linter.all false
set_option maxRecDepth 100000
/-! isinstance with two classes; equality of truths. -/
namespace Z
open PySem L2
def mIsi2 (T1 T2 : String) (m : ME) : ME := fun ρ => bnd (m ρ) fun d => fun S => (tyD S d).map fun t => (.bl (isiB t T1 || isiB t T2), S)
theorem kit_any2 {K : PySem.W.Frag} {t T1 T2 : String} {a b : Bool} (h1 : PySem.W.kitOne K (.type t) (.type T1) = some a) (h2 : PySem.W.kitOne K (.type t) (.type T2) = some b) : PySem.W.kitAny K (.type t) [.type T1, .type T2] = some (a || b) := by
  cases a <;> cases b <;> simp [PySem.W.kitAny, h1, h2]
theorem sn_isi2 {X : Cx} {e : Expr} {m : ME} {T1 T2 : String} {p p1 p2 tpos pos : Pos} {k} {y z : Str} (hT1 : T1 ∈ ["bool", "int", "str", "tuple", "list", "dict"]) (hT2 : T2 ∈ ["bool", "int", "str", "tuple", "list", "dict"]) (he : Sn X e m)
    (h : PE X (.Call (.Name "isinstance" p) [e, .Tuple [.Name y p1, .Name z p2] k tpos] [] pos) (tCB (rIsiT X.K) (tCons (tE X.K m) (tCons (tTup (tCons (tC (.ty T1)) (tCons (tC (.ty T2)) tNil))) tNil)))) : Sn X (.Call (.Name "isinstance" p) [e, .Tuple [.Name y p1, .Name z p2] k tpos] [] pos) (mIsi2 T1 T2 m) := pe_imp h fun σ H Q ⟨B, al, S, ρ, w, S', R, er, hm, q⟩ => by
  obtain ⟨d, S1, h1, h2⟩ := bnd_some hm
  cases ht : tyD S1 d with
  | none => rw [ht] at h2; cases h2
  | some t =>
    rw [ht] at h2
    cases h2
    refine ⟨B, al, S, ρ, d, _, R, er, h1, fun v al1 H1 R1 x1 r1 => ?_⟩
    refine ⟨by show 2 ≤ sizeLine; decide, fun p hp => ?_⟩
    obtain ⟨x2, R2⟩ := R1.side (o := .tup [.ty T1, .ty T2]) hp
    obtain ⟨g1, g2⟩ := tyD_rep R2 (r1.mono R1 x2) ht
    exact ⟨v, p, [.ty T1, .ty T2], .type t, [.type T1, .type T2], _, rfl, upd_same, .cons (.ty T1) (.cons (.ty T2) .nil), g1, kit_any2 (kit_ty (isi_kit g2 hT1)) (kit_ty (isi_kit g2 hT2)), q _ al1 _ R2 (x1.trans x2) (.bl _)⟩
section
variable {S : Store} {ρ : Env}
@[simp] theorem wp_mIsi2 {T1 T2 : String} {m : ME} {Q} : wp (mIsi2 T1 T2 m ρ) S Q ↔ wp (m ρ) S fun d S1 => ∃ t, tyD S1 d = some t ∧ Q (.bl (isiB t T1 || isiB t T2)) S1 := by
  unfold mIsi2
  rw [wp_bnd]
  constructor
  · rintro ⟨d, S1, h, b, S2, e, q⟩
    refine ⟨d, S1, h, ?_⟩
    cases ht : tyD S1 d with
    | none => simp only [ht] at e; cases e
    | some x =>
      simp only [ht, Option.map_some, Option.some.injEq, Prod.mk.injEq] at e
      obtain ⟨rfl, rfl⟩ := e
      exact ⟨x, ht, q⟩
  · rintro ⟨d, S1, h, b, ht, q⟩
    exact ⟨d, S1, h, _, _, by simp only [ht, Option.map_some], q⟩
theorem eqD_bl {a b : Bool} : eqD S (.bl a) (.bl b) = some (a == b) := by cases a <;> cases b <;> rfl
theorem wp_dNeB {a b : Bool} {Q} (q : Q (.bl (!(a == b))) S) : wp (dNe (.bl a) (.bl b)) S Q := wp_dNe eqD_bl q
theorem wp_dEqB {a b : Bool} {Q} (q : Q (.bl (a == b)) S) : wp (dEq (.bl a) (.bl b)) S Q := wp_dEq eqD_bl q
end
end Z
set_option Elab.async false
set_option linter.all false
set_option maxRecDepth 100000
/-! t >= u, two tuples of ints -/
namespace L2
open PySem PySem.Spec PyProof.Rows
def rGeT (K : PySem.W.Frag) : R2 := fun x y H Q => ∃ (a b : Addr) (ns ms : List Int), x = .ref a ∧ y = .ref b ∧ SqT K H a (ns.map V.int) ∧ SqT K H b (ms.map V.int) ∧
  Q (.bl (Ob.lexAt (fun j => decide (ns.getD j 0 = ms.getD j 0)) (fun j => decide (ms.getD j 0 ≤ ns.getD j 0)) (decide (ns.length ≥ ms.length)) 0 (min ns.length ms.length))) H
theorem op_geT {X : Cx} (hu : X.A.units < cLine) : OpR X (compareOp .GtE) (rGeT X.K) := by
  intro pins s σ H x y v u Q I rx ry h
  obtain ⟨a, b, ns, ms, rfl, rfl, ha, hb, q⟩ := h
  cases rx
  cases ry
  obtain ⟨its, r1, p1, _⟩ := I.tuple ha
  obtain ⟨its2, r2, p2, _⟩ := I.tuple hb
  have i1 : IntsAre its ns := Vals.ints r1
  have i2 : IntsAre its2 ms := Vals.ints r2
  have e1 : its.toArray.size = ns.length := by rw [List.size_toArray]; exact i1.length
  have e2 : its2.toArray.size = ms.length := by rw [List.size_toArray]; exact i2.length
  have at1 : ∀ j (h1 : j < its.toArray.size), ∃ t, its.toArray[j] = .int (ns.getD j 0) t := fun j h1 => PyProof.Rows.IntsAre.int_at i1 _ _ (by simp at h1; simp [h1])
  have at2 : ∀ j (h1 : j < its2.toArray.size), ∃ t, its2.toArray[j] = .int (ms.getD j 0) t := fun j h1 => PyProof.Rows.IntsAre.int_at i2 _ _ (by simp at h1; simp [h1])
  have R := Ob.RcOp.tuples_ge (A := X.A) (s := s) (e := fun j => decide (ns.getD j 0 = ms.getD j 0)) (r := fun j => decide (ms.getD j 0 ≤ ns.getD j 0)) p1 p2 hu (fun j h1 h2 => by
    obtain ⟨t, et⟩ := at1 j h1
    obtain ⟨t', et'⟩ := at2 j h2
    rw [et, et']
    have z : (ns.getD j 0 == ms.getD j 0) = decide (ns.getD j 0 = ms.getD j 0) := by
      by_cases q : ns.getD j 0 = ms.getD j 0
      · rw [decide_eq_true q]; exact beq_iff_eq.mpr q
      · rw [decide_eq_false q]; exact beq_eq_false_iff_ne.mpr q
    rw [← z]
    exact SeqAt.EqAt.int_int _ _ _ _) (fun j h1 h2 _ => by
    obtain ⟨t, et⟩ := at1 j h1
    obtain ⟨t', et'⟩ := at2 j h2
    rw [et, et']
    exact Ob.RcOp.ge_int _ _ _ _)
  rw [e1, e2] at R
  have z : wpAny (model X.prog X.w) X.A (compareOp .GtE (.ref a) (.ref b)) (EP X pins σ Q) X.xe s := R X.prog X.w X.xe (EP X pins σ Q) ⟨.bl _, H, I, rfl, q⟩
  exact z
end L2
namespace Z
open PySem L2
def lexGe (ns ms : List Int) : Bool := Ob.lexAt (fun j => decide (ns.getD j 0 = ms.getD j 0)) (fun j => decide (ms.getD j 0 ≤ ns.getD j 0)) (decide (ns.length ≥ ms.length)) 0 (min ns.length ms.length)
def dGeT (d e : D) : M D := fun S => match d, e with
  | .tup xs, .tup ys => (intsOf xs).bind fun ns => (intsOf ys).map fun ms => (.bl (lexGe ns ms), S)
  | _, _ => none
theorem r_geT {K : PySem.W.Frag} : R2S K (rGeT K) dGeT := fun B al S H d e z v w S' R r1 r2 h Q q => by
  unfold dGeT at h
  split at h
  · rename_i xs ys
    cases hx : intsOf xs with
    | none => rw [hx] at h; cases h
    | some ns =>
      rw [hx, Option.bind_some] at h
      cases hy : intsOf ys with
      | none => rw [hy] at h; cases h
      | some ms =>
        rw [hy, Option.map_some] at h
        cases h
        cases r1 with
        | tup a _ vs ha ra =>
          cases r2 with
          | tup b _ us hb rb =>
            obtain ⟨e1, _⟩ := ints_rep ra hx
            obtain ⟨e2, _⟩ := ints_rep rb hy
            subst e1
            subst e2
            exact ⟨a, b, ns, ms, rfl, rfl, .of ha, .of hb, q _ al H R .refl (.bl _)⟩
  · cases h
theorem wp_dGeT {ns ms : List Int} {S : Store} {Q : D → Store → Prop} (q : Q (.bl (lexGe ns ms)) S) : wp (dGeT (.tup (ns.map .int)) (.tup (ms.map .int))) S Q := ⟨_, S, by simp only [dGeT, intsOf_map, Option.bind_some, Option.map_some], q⟩
theorem lexGe_two {a b c d : Int} : lexGe [a, b] [c, d] = (decide (c < a) || (decide (a = c) && decide (d ≤ b))) := by
  unfold lexGe
  by_cases h : a = c
  · subst h
    by_cases h2 : b = d
    · subst h2; simp [Ob.lexAt]
    · simp [Ob.lexAt, h2]
  · simp [Ob.lexAt, h]
    omega
end Z
set_option Elab.async false
set_option linter.all false
set_option maxRecDepth 100000
/-! Dict comprehensions of three fors. -/
namespace L2
open PySem PySem.Spec PyProof.Rows

section
variable {P : Program} {w : World} {A : Around} {R : Result → Shared → Prop}
/-- a clause's loop at depth d: each turn takes an item, stores it, asks the tests, does the body -/
theorem clause_loopD {s : Shared} {kx vx : Expr} {gs : List Comprehension} {scope : Scope} {pos : Pos} {d : Nat} {it acc : Value} {env : Env} {tg ix : Expr} {ifs : List Expr} {body : Sem Fin → Sem Fin}
    (heq : compTurn (.DictComp kx vx gs scope pos) d it acc env = (do
      standAt ix.pos
      match ← pyNext it with
      | none => pure (.done .next)
      | some v =>
        letOwnedTupleGo tg it v
        assign tg env v
        let mut ok := true
        for c in ifs do
          if ok then ok ← isTrue c env (eval c env)
        if ok then body (again (.compLoop (.DictComp kx vx gs scope pos) d it acc env)) else again (.compLoop (.DictComp kx vx gs scope pos) d it acc env)))
    (J : Nat → Shared → Prop)
    (turn : ∀ k t, J k t → wpAny (model P w) A (pyNext it) (fun r t1 => match r with
      | none => R (.ok .next) t1
      | some v => wpAny (model P w) A (letOwnedTupleGo tg it v) (fun _ t2 => wpAny (model P w) A (assign tg env v) (fun _ t3 =>
          wpAny (model P w) A (forIn ifs true fun c r => if r = true then do let ok ← isTrue c env (eval c env); pure (ForInStep.yield ok) else pure (ForInStep.yield r)) (fun ok t4 =>
            if ok = true then wpAny (model P w) A (body (again (.compLoop (.DictComp kx vx gs scope pos) d it acc env))) (fun fin t5 => match fin with | .done f => R (.ok f) t5 | .again c => c = .compLoop (.DictComp kx vx gs scope pos) d it acc env ∧ ∃ m, m < k ∧ J m t5) (Nt P w A env R) t4
            else ∃ m, m < k ∧ J m t4) (Nt P w A env R) t3) (Nt P w A env R) t2) (Nt P w A env R) t1) (Nt P w A env R) t)
    (k : Nat) (hk : J k s) : codeAny (model P w) A (.compLoop (.DictComp kx vx gs scope pos) d it acc env) R s := by
  refine codeAny_loop rfl J (fun k t hJ => ?_) k hk
  show wpAny _ A ((compTurn (.DictComp kx vx gs scope pos) d it acc env).onRaise (fun x => do noteFrame x env; theTreesLotGoes x)) _ _ t
  refine wpAny_noted ?_
  rw [heq]
  refine wpAny_bind (wpAny_standAt (wpAny_bind (wpAny_mono (turn k t hJ) (fun r t1 g1 => ?_) fun _ _ z => z)))
  cases r with
  | none => exact wpAny_pure g1
  | some v =>
    refine wpAny_bind (wpAny_mono g1 (fun _ t2 g2 => ?_) fun _ _ z => z)
    refine wpAny_bind (wpAny_mono g2 (fun _ t3 g3 => wpAny_bind (wpAny_mono g3 (fun ok t4 g4 => ?_) fun _ _ z => z)) fun _ _ z => z)
    cases ok with
    | false => exact wpAny_pure ⟨rfl, g4⟩
    | true => exact g4
/-- the start of a later clause -/
theorem clause_startD {s : Shared} {kx vx : Expr} {gs : List Comprehension} {scope : Scope} {pos : Pos} {d : Nat} {it acc : Value} {env : Env} {tg ix : Expr} {ifs : List Expr} (hcl : (clausesOf (.DictComp kx vx gs scope pos))[d]? = some ⟨tg, ix, ifs, 0⟩)
    (h0 : codeAny (model P w) A (.compLoop (.DictComp kx vx gs scope pos) d it acc env) R s)
    (h : wpAny (model P w) A (pyIter it) (fun jt t => codeAny (model P w) A (.compLoop (.DictComp kx vx gs scope pos) d jt acc env) R t) (Nt P w A env R) s) :
    codeAny (model P w) A (.compStart (.DictComp kx vx gs scope pos) d it acc env) R s := by
  refine codeAny_of_tree ?_
  show wpAny _ _ ((compStart (.DictComp kx vx gs scope pos) d it acc env).onRaise (fun x => do noteFrame x env; standAt theWindowsPlace)) _ _ s
  refine wpAny_notedAt ?_
  unfold compStart
  rw [hcl]
  show wpAny _ _ (ask >>= _) _ _ s
  refine wpAny_bind (wpAny_askSetting (wpAny_ite ?_))
  split
  · first
      | exact wpAny_pure ⟨rfl, h0⟩
      | exact wpAny_bind (wpAny_pure (wpAny_pure ⟨rfl, h0⟩))
  · refine wpAny_bind (wpAny_rule ?_)
    show wpAny _ _ (standAt ix.pos >>= _) _ _ s
    exact wpAny_bind (wpAny_standAt (wpAny_bind (wpAny_mono h (fun jt t g => wpAny_pure ⟨rfl, g⟩) fun _ _ z => z)))
end

section
variable {Y : Cx}
theorem clause_runD (hc : Y.calm = true) (hx : ∀ e s, ¬ Y.xe e s) {R : Result → Shared → Prop} {kx vx : Expr} {gs : List Comprehension} {scope : Scope} {pos : Pos} {d : Nat} {it : Addr} {acc : Value} {tg ix : Expr} {ifs : List Expr} {body : Sem Fin → Sem Fin}
    (heq : compTurn (.DictComp kx vx gs scope pos) d (.ref it) acc Y.env = (do
      standAt ix.pos
      match ← pyNext (.ref it) with
      | none => pure (.done .next)
      | some v =>
        letOwnedTupleGo tg (.ref it) v
        assign tg Y.env v
        let mut ok := true
        for c in ifs do
          if ok then ok ← isTrue c Y.env (eval c Y.env)
        if ok then body (again (.compLoop (.DictComp kx vx gs scope pos) d (.ref it) acc Y.env)) else again (.compLoop (.DictComp kx vx gs scope pos) d (.ref it) acc Y.env)))
    {g : TG} {tt : TT} {tb : TBd} {V U : List Nat} (pg : PG Y tg g) (pt : PTs Y ifs tt) (pb : PB Y body tb U) (hU : ∀ i ∈ U, i ∈ V)
    {pins : List (Addr × Obj)} {σ : L2.St} {H : Hp} {s : Shared} {fp : List Addr} {tn : Nat → Heap → Prop} {J : It} {N : Hp → Prop} (I : Inv Y pins σ H s) (T : Turn Y.prog Y.w Y.K tg J fp it tn) (st : tn 0 s.heap)
    (f : ∀ b ∈ fp, FpOk Y pins H b) (h : tLv J g tt tb V σ H N) (hR : ∀ t H', Inv Y pins (wipe σ V) H' t → N H' → R (.ok .next) t) :
    codeAny (model Y.prog Y.w) Y.A (.compLoop (.DictComp kx vx gs scope pos) d (.ref it) acc Y.env) R s := by
  obtain ⟨W, ⟨m0, w0⟩, turn⟩ := h
  have fpk : ∀ {H' : Hp}, (∀ b ∈ fp, H' b = none) → ∀ b ∈ fp, FpOk Y pins H' b := fun hn b hb => ⟨hn b hb, (f b hb).2⟩
  refine clause_loopD heq (fun k t => ∃ i H', Inv Y pins (wipe σ V) H' t ∧ tn i t.heap ∧ (∀ b ∈ fp, H' b = none) ∧ W i k H') ?_ m0 ⟨0, H, I.weak (wipe_length _ _) (fun j v q => (wipe_some q).1), st, fun b hb => (f b hb).1, w0⟩
  rintro k t ⟨i, Ha, Ia, sa, na, wa⟩
  rcases turn i k Ha wa with ⟨stop, nx⟩ | ⟨go, M, hM, step⟩
  · exact thnF (T.done Y rfl rfl rfl hc i pins t (wipe σ V) Ha (fun _ _ => False) Ia (fpk na) sa stop) fun r t1 ⟨hr, I1⟩ => by subst hr; exact hR t1 Ha I1 nx
  · refine thnF (T.item Y rfl rfl rfl hc i pins t (wipe σ V) Ha (fun _ _ => False) Ia (fpk na) sa go) fun r t1 ⟨u, hr, q1⟩ => ?_
    subst hr
    refine thnF q1 fun _ t2 ⟨x, Hb, Ib, rb, yb, sb, nb⟩ => ?_
    have Ip := Ib.pinned (fpk nb) (T.obj _ _ sb)
    have thX : ∀ {α : Type} {m : Sem α} {Q Q' : α → Shared → Prop} {E : Value → Shared → Prop} {t : Shared}, wpAny (model Y.prog Y.w) Y.A m Q Y.xe t → (∀ a t, Q a t → Q' a t) → wpAny (model Y.prog Y.w) Y.A m Q' E t :=
      fun a b => wpAny_mono a b fun e s z => (hx e s z).elim
    refine thX (pg.run _ t2 _ Hb x u _ Ip rb (step x Hb yb)) fun _ t3 ⟨σc, Hc, Ic, wc, qc⟩ => ?_
    refine thX (pt.run _ t3 σc Hc _ Ic qc) fun b t4 ⟨Hd, Id, qd⟩ => ?_
    have back : ∀ {τ : L2.St} {t5 : Shared} {He : Hp}, Inv Y (pins ++ pinsAt fp t2.heap) τ He t5 → τ.length = σc.length → (∀ (j : Nat) v, (wipe σc V)[j]? = some (some v) → τ[j]? = some (some v)) → M He →
        ∃ m, m < k ∧ ∃ i H', Inv Y pins (wipe σ V) H' t5 ∧ tn i t5.heap ∧ (∀ b ∈ fp, H' b = none) ∧ W i m H' := fun {τ t5 He} Ie hl hk nx => by
      obtain ⟨m', hm, w'⟩ := hM He nx
      have held : ∀ b ∈ fp, ∀ o, t2.heap.get? b = some o → t5.heap.get? b = some o ∧ He b = none := fun b hb o q =>
        have z := Ie.pin (b, o) (List.mem_append_right _ (List.mem_append_right _ (mem_pinsAt hb q)))
        ⟨z.1, z.2.1⟩
      refine ⟨m', hm, i + 1, He, Ie.unpinned.weak (by rw [hl, ← wipe_length σc V, wc]) (fun j v q => hk j v (by rw [wc]; exact q)), T.keep _ _ _ sb fun b hb o q => (held b hb o q).1, fun b hb => ?_, w'⟩
      obtain ⟨o, q, _⟩ := T.obj _ _ sb b hb
      exact (held b hb o q).2
    cases b with
    | false =>
      rw [if_neg (by decide)] at qd ⊢
      exact back Id rfl (fun j v q => (wipe_some q).1) qd
    | true =>
      rw [if_pos rfl] at qd ⊢
      refine pb _ t4 σc Hd M _ _ _ Id qd fun t5 He Ie nx => wpAny_pure ⟨rfl, ?_⟩
      refine back Ie (wipe_length _ _) (fun j v q => ?_) nx
      obtain ⟨q1, q2⟩ := wipe_some q
      rw [wipe_out fun z => q2 (hU j z)]
      exact q1
/-- a later clause as a body -/
theorem pb_clauseD (hc : Y.calm = true) (hx : ∀ e s, ¬ Y.xe e s) {kx vx : Expr} {gs : List Comprehension} {scope : Scope} {pos : Pos} {d : Nat} {acc : Value} {tg ix : Expr} {ifs : List Expr} {body : Sem Fin → Sem Fin} (hcl : (clausesOf (.DictComp kx vx gs scope pos))[d]? = some ⟨tg, ix, ifs, 0⟩)
    (heq : ∀ it, compTurn (.DictComp kx vx gs scope pos) d it acc Y.env = (do
      standAt ix.pos
      match ← pyNext it with
      | none => pure (.done .next)
      | some v =>
        letOwnedTupleGo tg it v
        assign tg Y.env v
        let mut ok := true
        for c in ifs do
          if ok then ok ← isTrue c Y.env (eval c Y.env)
        if ok then body (again (.compLoop (.DictComp kx vx gs scope pos) d it acc Y.env)) else again (.compLoop (.DictComp kx vx gs scope pos) d it acc Y.env)))
    {wi : TI} {g : TG} {tt : TT} {tb : TBd} {V U : List Nat} (pi : PI Y tg ix wi) (pg : PG Y tg g) (pt : PTs Y ifs tt) (pb : PB Y body tb U) (hU : ∀ i ∈ U, i ∈ V) (hs : ∀ x, foldedSetIterable ix Y.env x = pure x) :
    PB Y (fun k => do
      let x ← eval ix Y.env
      standAt ix.pos
      let x ← foldedSetIterable ix Y.env x
      let _ ← runOwn (.compStart (.DictComp kx vx gs scope pos) d (← holding [x] (pyIter x)) acc Y.env) Y.env
      k) (fun σ H N => wi σ H fun J H1 => tLv J g tt tb V σ H1 N) V := by
  intro pins s σ H N k Q E I h hk
  have thX : ∀ {α : Type} {m : Sem α} {Q Q' : α → Shared → Prop} {E : Value → Shared → Prop} {t : Shared}, wpAny (model Y.prog Y.w) Y.A m Q Y.xe t → (∀ a t, Q a t → Q' a t) → wpAny (model Y.prog Y.w) Y.A m Q' E t :=
    fun a b => wpAny_mono a b fun e s z => (hx e s z).elim
  refine wpAny_bind (thX (pi.run pins s σ H _ I h) fun xv t1 g1 => ?_)
  refine wpAny_bind (wpAny_standAt (wpAny_bind (wpAny_of_eq (hs xv) (wpAny_bind (wpAny_holding (thX g1 fun jt t2 g2 => ?_))))))
  obtain ⟨it, fp, tn, J, H2, rfl, I2, T, st, f, q⟩ := g2
  have loop : codeAny (model Y.prog Y.w) Y.A (.compLoop (.DictComp kx vx gs scope pos) d (.ref it) acc Y.env) (fun r t => match r with
      | .ok _ => ∃ H', Inv Y pins (wipe σ V) H' t ∧ N H'
      | .error _ => False) t2 := clause_runD hc hx (heq _) pg pt pb hU I2 T st f q fun t H' I' n' => ⟨H', I', n'⟩
  refine wpAny_bind (wpAny_runOwn ?_)
  rw [Around.mark_none]
  refine codeAny_mono (clause_startD hcl loop (T.self Y.A 0 _ _ _ st loop)) fun r t g3 => ?_
  cases r with
  | ok fl => obtain ⟨H', I', n'⟩ := g3; first | exact hk t H' I' n' | exact wpAny_pure (hk t H' I' n') | exact wpAny_bind (wpAny_pure (hk t H' I' n'))
  | error x => exact g3.elim
/-- the key and the thing, put into the dict at D -/
theorem pb_eltD (hx : ∀ e s, ¬ Y.xe e s) {kx vx : Expr} {tk tv : TE} {D : Addr} {pos : Pos} (pk : PE Y kx tk) (pv : PE Y vx tv) : PB Y (fun k => (do
        let kv ← eval kx Y.env
        let vv ← holding [kv] (eval vx Y.env)
        standAt pos
        holding [kv, vv] (dictSet D kv vv)) >>= fun _ => k) (fun σ H N => tk σ H fun y H1 => tv σ H1 fun z H2 => ∃ kvs kk, y = kV kk ∧ H2 D = some (.dK kvs) ∧ kvs.length < sizeLine ∧ N (upd H2 D (.dK (putK kvs kk z)))) [] := by
  intro pins s σ H N k Q E I h hk
  have thX : ∀ {α : Type} {m : Sem α} {Q Q' : α → Shared → Prop} {E : Value → Shared → Prop} {t : Shared}, wpAny (model Y.prog Y.w) Y.A m Q Y.xe t → (∀ a t, Q a t → Q' a t) → wpAny (model Y.prog Y.w) Y.A m Q' E t :=
    fun a b => wpAny_mono a b fun e s z => (hx e s z).elim
  refine wpAny_bind (wpAny_bind (thX (pk.run pins s σ H _ I h) fun v t1 ⟨y, H1, I1, r1, h1⟩ => ?_))
  refine wpAny_bind (wpAny_holding (thX (pv.run pins t1 σ H1 _ I1 h1) fun z t2 ⟨yz, H2, I2, r2, kvs, kk, e, hd, hz, n⟩ => ?_))
  refine wpAny_bind (wpAny_standAt (wpAny_holding ?_))
  subst e
  exact d_dictSet I2 hd hz r1 r2 fun t3 I3 => hk t3 _ I3 n
end
end L2
namespace L2
open PySem PySem.Spec PyProof.Rows
/-- a whole dict comprehension, read: V the block's names, D the new dict -/
def tLnD (wi : TI) (g : TG) (tt : TT) (tb : Addr → TBd) (V : List Nat) : TE := fun σ H Q => wi σ H fun J H1 => ∀ D, H1 D = none → tLv J g tt (tb D) V σ (upd H1 D (.dK [])) (Q (.ref D))
section
variable {X : Cx}
theorem pe_lcnD {kx vx tg ix : Expr} {ifs : List Expr} {rest : List Comprehension} {scope : Scope} {pos : Pos} {own : List (Str × Nat)} {wi : TI} {g : TG} {tt : TT} {tb : Addr → TBd} {U : List Nat} (body : Value → Env → Sem Fin → Sem Fin)
    (heq : ∀ (it acc : Value) (env : Env), compTurn (.DictComp kx vx (⟨tg, ix, ifs, 0⟩ :: rest) scope pos) 0 it acc env = (do
      standAt ix.pos
      match ← pyNext it with
      | none => pure (.done .next)
      | some v =>
        letOwnedTupleGo tg it v
        assign tg env v
        let mut ok := true
        for c in ifs do
          if ok then ok ← isTrue c env (eval c env)
        if ok then body acc env (again (.compLoop (.DictComp kx vx (⟨tg, ix, ifs, 0⟩ :: rest) scope pos) 0 it acc env)) else again (.compLoop (.DictComp kx vx (⟨tg, ix, ifs, 0⟩ :: rest) scope pos) 0 it acc env)))
    (hc : X.calm = true) (hN : X.N.Nodup) (hi : PI X tg ix wi) (ok : BlkOk X.N X.env.scope scope own)
    (hg : ∀ (s : Shared) (H : Hp) (C : Addr) (cl : List (Str × Addr)) (fp : List Addr), PG (X.blk s H scope (compEnvC scope cl C X.env) fp) tg g)
    (ht : ∀ (s : Shared) (H : Hp) (C : Addr) (cl : List (Str × Addr)) (fp : List Addr), PTs (X.blk s H scope (compEnvC scope cl C X.env) fp) ifs tt)
    (hb : ∀ (s : Shared) (H : Hp) (C : Addr) (cl : List (Str × Addr)) (fp : List Addr) (D : Addr), PB (X.blk s H scope (compEnvC scope cl C X.env) fp) (body (.ref D) (compEnvC scope cl C X.env)) (tb D) U)
    (hU : ∀ i ∈ U, i ∈ own.map (·.2)) (hs : ∀ x, foldedSetIterable ix X.env x = pure x) :
    PE X (.DictComp kx vx (⟨tg, ix, ifs, 0⟩ :: rest) scope pos) (tLnD wi g tt tb (own.map (·.2))) := by
  refine ⟨fun pins s σ H Q I h => ?_⟩
  rw [arm_eval_DictComp]
  have fr : ∀ z ∈ scope.names, z.2 = .free → ∃ c, X.env.cells.lookup z.1 = some c := fun z hz q => (ok.free z hz q).elim (fun k => I.ok.has _ (.inl k)) (fun k => I.ok.has _ (.inr k))
  refine wpAny_comprehension_free (use := none) (g := ⟨tg, ix, ifs, 0⟩) (gs := rest) rfl hs (closure_ok fr) ok.kind (fun z hz q => by rw [ok.uniq z hz, q]) (thn (hi.run pins s σ H _ I h) fun xv t1 g1 => thn g1 fun jt t2 g2 => ?_)
  obtain ⟨it, fp, tn, J, H2, rfl, I2, T, st2, f2, q⟩ := g2
  refine wpAny_newObj_type (newEnv_comp ?_) (Nat.zero_le _)
  obtain ⟨D, hD⟩ : ∃ D, t2.heap.objs.size = D := ⟨_, rfl⟩
  have h0 : H2 D = none := I2.hok.fresh (by rw [hD]; exact Nat.le_refl _)
  have lv := q D h0
  obtain ⟨t3, ht3⟩ : ∃ t3 : Shared, { t2 with heap := t2.heap.push { cls := .type "dict", data := .dict #[] } } = t3 := ⟨_, rfl⟩
  have hp3 : t3.heap = t2.heap.push { cls := .type "dict", data := .dict #[] } := by rw [← ht3]
  have I3 : Inv X pins σ (upd H2 D (.dK [])) t3 := by
    rw [← ht3]
    exact I2.laid (t' := t2.toks) (fun b o z => Heap.get?_push_of_some _ z) (by rw [hD]; exact Nat.le_refl _) (by rw [← hD]; exact dk_empty t2.heap I2.big)
  have old : ∀ b ∈ fp, b < t2.heap.objs.size := fun b hb => let ⟨_, z, _⟩ := T.obj _ _ st2 b hb; Heap.lt_size z
  have f3 : ∀ b ∈ fp, FpOk X pins (upd H2 D (.dK [])) b ∧ b < t3.heap.objs.size := fun b hb => by
    have hlt := old b hb
    have nd : b ≠ D := by rw [← hD]; exact Nat.ne_of_lt hlt
    exact ⟨⟨(upd_ne nd).trans (f2 b hb).1, (f2 b hb).2⟩, by rw [hp3, Heap.size_push]; exact Nat.lt_succ_of_lt hlt⟩
  have st3 : tn 0 t3.heap := T.keep _ _ _ st2 fun b _ o z => by rw [hp3]; exact Heap.get?_push_of_some _ z
  have I4 := block_start I3 ok hN f3
  generalize hcl : cellsFrom (t3.heap.objs.size + 1) scope.names (cloFrom X.env.cells scope.names []) = cl at I4
  have pg := hg t3 (upd H2 D (.dK [])) t3.heap.objs.size cl fp
  have pt := ht t3 (upd H2 D (.dK [])) t3.heap.objs.size cl fp
  have pb := hb t3 (upd H2 D (.dK [])) t3.heap.objs.size cl fp D
  have st4 : tn 0 (pushCells (t3.heap.push { cls := .type "dict", data := .dict #[] }) scope.names) := T.keep _ _ _ st3 fun b _ o z => pushCells_keeps _ _ _ _ (Heap.get?_push_of_some _ z)
  have fb : ∀ b ∈ fp, FpOk (X.blk t3 (upd H2 D (.dK [])) scope (compEnvC scope cl t3.heap.objs.size X.env) fp) [] (upd H2 D (.dK [])) b := fun b hb =>
    ⟨(f3 b hb).1.1, (I4.ok.exf b hb).1, I4.ok.exfs b hb, .inl hb, fun x c z => (I4.ok.exf b hb).2 x c z, fun p hp => (by cases hp)⟩
  have Tl : tLv J g tt (tb D) (own.map (·.2)) (wipe σ (own.map (·.2))) (upd H2 D (.dK [])) (Q (.ref D)) := by
    unfold tLv at lv ⊢
    rw [Z.wipe_wipe]
    exact lv
  have cC : (compEnvC scope cl t3.heap.objs.size X.env).locals = t3.heap.objs.size := rfl
  have loop : codeAny (model X.prog X.w) X.A (.compLoop (.DictComp kx vx (⟨tg, ix, ifs, 0⟩ :: rest) scope pos) 0 (.ref it) (.ref D) (compEnvC scope cl t3.heap.objs.size X.env))
      (compPost (model X.prog X.w) X.A X.xe none (EP X pins σ Q) (.ref D) t3.heap.objs.size) { t3 with heap := pushCells (t3.heap.push { cls := .type "dict", data := .dict #[] }) scope.names } := by
    refine clause_runD (Y := X.blk t3 (upd H2 D (.dK [])) scope (compEnvC scope cl t3.heap.objs.size X.env) fp) hc (fun _ _ z => z) (heq _ _ _) pg pt pb hU I4 T st4 fb Tl fun t H' I' qq => ?_
    have Iz : Inv X pins σ H' t := I3.call' (ch := fp) I'.os I'.base I'.hok I'.bare fun b hb => ⟨(f3 b hb).1.2.2.2.1, (f3 b hb).1.2.1, (f3 b hb).1.2.2.2.2.1, (f3 b hb).1.2.2.2.2.2⟩
    have free : H' t3.heap.objs.size = none := I'.free
    obtain ⟨m, hn, _⟩ := I'.loc
    obtain ⟨k0, k1, k2, k3, k4, k5⟩ := I3.fpOk (Nat.le_refl _) free
    exact ⟨m, hn, fun h2 sb => ⟨.ref D, H', Iz.turned (t' := t.toks) (fun b o hb z => (sb.2 b hb).trans z) k0 k1 k3 k4 k5, rfl, qq⟩⟩
  subst hcl
  subst ht3
  subst hD
  exact codeAny_compStart_dict loop (T.self X.A 0 _ _ _ st4 loop)
end
end L2
namespace Z
open PySem L2
abbrev Dm := List (Key × D)
abbrev MDb := Env → Dm → Store → Option (Dm × Store)
section
variable {K : PySem.W.Frag} {B : Addr → Prop} {al al' al2 : List Addr} {H H' H2 : Hp} {p : Addr}
theorem ExD.toBd (x : ExD p al H al' H') (hb : B p) {vs : List (Key × V)} (h : H p = some (.dK vs)) : ExB B al H al' H' := ⟨x.pre, fun a o e n k => x.fr a o e n fun z => by
  subst z
  rcases k with k | ⟨us, rfl⟩
  · exact k hb
  · rw [h] at e; cases e⟩
end
/-- a body that puts things into the dict at p -/
def tDZ (K : PySem.W.Frag) (p : Addr) (mb : MDb) : TBd := fun σ H N => ∃ (B : Addr → Prop) (al : List Addr) (S : Store) (ρ : Env) (acc acc' : Dm) (S' : Store) (es : List (Key × V)),
  Rel K B al S H ∧ B p ∧ ER K B al H ρ σ ∧ H p = some (.dK es) ∧ acc.map (·.1) = es.map (·.1) ∧ RL K B al H (acc.map (·.2)) (es.map (·.2)) ∧ mb ρ acc S = some (acc', S') ∧
    ∀ (al' : List Addr) (H' : Hp) (es' : List (Key × V)), Rel K B al' S' H' → ExD p al H al' H' → H' p = some (.dK es') → acc'.map (·.1) = es'.map (·.1) → RL K B al' H' (acc'.map (·.2)) (es'.map (·.2)) → N H'
def mDOne (k e : ME) : MDb := fun ρ acc S => match k ρ S with
  | none => none
  | some (kd, S2) => match e ρ S2 with
    | none => none
    | some (v, S3) => match keyD kd with
      | none => none
      | some kk => if acc.length < lim then some (putD acc kk v, S3) else none
def mDvL (Vs : List Nat) (g : Tg) (ok : Store → Bool) (t : MT) (mb : MDb) (ρ : Env) : List D → Dm → Store → Option (Dm × Store)
  | [], acc, S => if ok S then some (acc, S) else none
  | d :: ds, acc, S => if ok S then match g.put d (wipeD ρ Vs) with
      | none => none
      | some ρ1 => match t ρ1 S with
        | none => none
        | some (true, S1) => match mb ρ1 acc S1 with
          | none => none
          | some (acc1, S2) => mDvL Vs g ok t mb ρ ds acc1 S2
        | some (false, S1) => mDvL Vs g ok t mb ρ ds acc S1
    else none
def mDv (Vs : List Nat) (g : Tg) (it : MI) (t : MT) (mb : MDb) : MDb := fun ρ acc S => match it ρ S with
  | some ((xs, ok), S1) => mDvL Vs g ok t mb ρ xs acc S1
  | none => none
def mDcN (Vs : List Nat) (g : Tg) (it : MI) (t : MT) (mb : MDb) : ME := fun ρ S => match mDv Vs g it t mb ρ [] S with
  | some (kvs, S2) => some (.ref S2.length, S2 ++ [.dct kvs])
  | none => none
theorem dvL_ok {Vs : List Nat} {g : Tg} {t : MT} {mb : MDb} {ok : Store → Bool} {ρ : Env} {ds : List D} {acc : Dm} {S : Store} {r} (h : mDvL Vs g ok t mb ρ ds acc S = some r) : ok S = true := by
  cases ds <;> unfold mDvL at h <;> (split at h; assumption; cases h)
section
variable {K : PySem.W.Frag} {p : Addr}
theorem tdz_elt {k e : ME} : ∀ σ H N, tDZ K p (mDOne k e) σ H N → tE K k σ H fun y H1 => tE K e σ H1 fun z H2 => ∃ kvs kk, y = kV kk ∧ H2 p = some (.dK kvs) ∧ kvs.length < sizeLine ∧ N (upd H2 p (.dK (putK kvs kk z))) := fun σ H N ⟨B, al, S, ρ, acc, acc', S', es, R, hb, er, hp, hks, ra, hm, q⟩ => by
  unfold mDOne at hm
  split at hm
  · cases hm
  · rename_i kd S5 h6
    split at hm
    · cases hm
    · rename_i v S6 h7
      split at hm
      · cases hm
      · rename_i kk hkk
        split at hm
        · rename_i hl
          cases hm
          have np := (R.bh p hb).1
          refine ⟨B, al, S, ρ, kd, S5, R, er, h6, fun yv al5 H5 R5 x5 r5 => ⟨B, al5, S5, ρ, v, S', R5, er.mono R x5, h7, fun zv al6 H6 R6 x6 r6 => ⟨es, kk, keyD_rep r5 hkk, ?_, ?_, ?_⟩⟩⟩
          · exact (x6.fr p _ (x5.fr p _ hp np).1 (x5.fr p _ hp np).2).1
          · have e1 := congrArg List.length hks
            simp only [List.length_map] at e1
            exact lim_lt (by omega)
          · have hd6 := (x6.fr p _ (x5.fr p _ hp np).1 (x5.fr p _ hp np).2).1
            have nt : ∀ vs, H6 p ≠ some (.tup vs) := fun vs z => by rw [hd6] at z; cases z
            obtain ⟨p1, p2⟩ := put_rl (k := kk) r6 hks ((ra.mono R x5).mono R5 x6)
            exact q al6 _ (putK es kk zv) (R6.pokeG hb nt) ((x5.trans x6).toD.poke) upd_same p1 (p2.pokeG hb nt)
        · cases hm
theorem dv_of {Vs : List Nat} {g : Tg} {t : MT} {mb : MDb} {ok : Store → Bool} {xs : List D} {J : It} (hv : ∀ i ∈ g.slots, i ∈ Vs) {B0 B : Addr → Prop} {al0 al : List Addr} {H0 H : Hp} {S S' : Store} {ρ : Env} {acc acc' : Dm} {es : List (Key × V)} {σ : L2.St} {N : Hp → Prop}
    (w : IsW K B0 xs ok J al0 H0) (hBB : ∀ a, B0 a → B a) (x0 : ExB B0 al0 H0 al H) (hp0 : B0 p ∨ H0 p = none) (hpt : ∀ vs, H0 p ≠ some (.tup vs)) (hrv : ∀ d v, RV K B0 al0 H0 d v → RV K B al H d v)
    (R : Rel K B al S H) (hb : B p) (er : ER K B al H ρ σ) (hp : H p = some (.dK es)) (hks : acc.map (·.1) = es.map (·.1)) (ra : RL K B al H (acc.map (·.2)) (es.map (·.2))) (hm : mDvL Vs g ok t mb ρ xs acc S = some (acc', S'))
    (q : ∀ (al' : List Addr) (H' : Hp) (es' : List (Key × V)), Rel K B al' S' H' → ExD p al H al' H' → H' p = some (.dK es') → acc'.map (·.1) = es'.map (·.1) → RL K B al' H' (acc'.map (·.2)) (es'.map (·.2)) → N H') :
    tLv J (tTg K g) (tT K t) (tDZ K p mb) Vs σ H N := by
  obtain ⟨G, Y, wk, hG, hY⟩ := w
  let Pv : Nat → Hp → Prop := fun i H2 => ∃ al2 S2 ac2 es2, Rel K B al2 S2 H2 ∧ ExD p al H al2 H2 ∧ H2 p = some (.dK es2) ∧ ac2.map (·.1) = es2.map (·.1) ∧ RL K B al2 H2 (ac2.map (·.2)) (es2.map (·.2)) ∧ mDvL Vs g ok t mb ρ (xs.drop i) ac2 S2 = some (acc', S')
  refine walk_gen (Step := fun x H' M => tTg K g x (wipe σ Vs) H' fun σ2 H2 => wipe σ2 Vs = wipe σ Vs ∧ tT K t σ2 H2 fun b H3 => if b = true then tDZ K p mb σ2 H3 M else M H3) wk Pv ⟨al, S, acc, es, R, .refl, hp, hks, ra, hm⟩ ?_ ?_ ?_
  · rintro i H2 hi ⟨al2, S2, ac2, es2, R2, x2, hp2, hk2, ra2, h3⟩
    exact hG _ al2 S2 H2 R2 (x0.transD x2 hp0 hpt) (dvL_ok h3)
  · rintro i x H2 H3 hi ⟨al2, S2, ac2, es2, R2, x2, hp2, hk2, ra2, h3⟩ hy
    rw [List.drop_eq_getElem_cons hi] at h3
    unfold mDvL at h3
    split at h3
    · rename_i hk
      split at h3
      · cases h3
      · rename_i ρ3 hput
        have xb := x2.toBd (B := B) hb hp
        obtain ⟨R3, x3, rv⟩ := hY B i al2 S2 H2 x H3 xs[i] hBB R2 (x0.transD x2 hp0 hpt) (fun d v r => (hrv d v r).monoB R.nt xb) (by simp [hi]) hk hy
        have n2 : p ∉ al2 := (R2.bh p hb).1
        refine ⟨B, al2, S2, wipeD ρ Vs, ρ3, xs[i], R3, ((er.monoB R.nt xb).wipe Vs).mono R2 x3, rv, hput, fun σ3 er3 hw => ⟨(hw Vs hv).trans wipe_wipe, ?_⟩⟩
        have hp3 := x3.fr p _ hp2 n2
        have ra3 := ra2.mono R2 x3
        split at h3
        · cases h3
        · rename_i S4 h5
          split at h3
          · cases h3
          · rename_i acc1 S5 h6
            refine ⟨B, al2, S2, ρ3, true, S4, R3, er3, h5, fun k al4 H4 R4 x4 ek => ?_⟩
            subst ek
            rw [if_pos rfl]
            have hp4 := x4.fr p _ hp3.1 hp3.2
            refine ⟨B, al4, S4, ρ3, ac2, acc1, S5, es2, R4, hb, er3.mono R3 x4, hp4.1, hk2, ra3.mono R3 x4, h6, fun al5 H5 es5 R5 x5 hp5 hk5 ra5 => ?_⟩
            exact ⟨al5, S5, acc1, es5, R5, ((x2.step x3).step x4).trans x5, hp5, hk5, ra5, h3⟩
        · rename_i S4 h5
          refine ⟨B, al2, S2, ρ3, false, S4, R3, er3, h5, fun k al4 H4 R4 x4 ek => ?_⟩
          subst ek
          exact ⟨al4, S4, ac2, es2, R4, (x2.step x3).step x4, (x4.fr p _ hp3.1 hp3.2).1, hk2, ra3.mono R3 x4, h3⟩
    · cases h3
  · rintro H2 ⟨al2, S2, ac2, es2, R2, x2, hp2, hk2, ra2, h3⟩
    rw [List.drop_length] at h3
    unfold mDvL at h3
    split at h3
    · cases h3
      exact q al2 H2 es2 R2 x2 hp2 hk2 ra2
    · cases h3
theorem tdz_dv {V : List Nat} {g : Tg} {it : MI} {t : MT} {mb : MDb} (hv : ∀ i ∈ g.slots, i ∈ V) : ∀ σ H N, tDZ K p (mDv V g it t mb) σ H N → tW K it σ H fun J H1 => tLv J (tTg K g) (tT K t) (tDZ K p mb) V σ H1 N := fun σ H N ⟨B, al, S, ρ, acc, acc', S', es, R, hb, er, hp, hks, ra, hm, q⟩ => by
  unfold mDv at hm
  split at hm
  · rename_i xs ok S1 h1
    refine ⟨B, al, S, ρ, xs, ok, S1, R, er, h1, fun J al1 H1 R1 x1 w => ?_⟩
    have np := (R.bh p hb).1
    have hp1 := (x1.fr p _ hp np).1
    exact dv_of hv w (fun _ z => z) Ex.refl.toB (.inl hb) (fun vs z => by rw [hp1] at z; cases z) (fun _ _ z => z) R1 hb (er.mono R x1) hp1 hks (ra.mono R x1) hm fun al' H' es' R' x' h' k' r' => q al' H' es' R' ((x1.toD (p := p)).trans x') h' k' r'
  · cases hm
theorem dcn_of {V : List Nat} {g : Tg} {it : MI} {t : MT} {mb : MDb} (hv : ∀ i ∈ g.slots, i ∈ V) : ∀ σ H Q, tE K (mDcN V g it t mb) σ H Q → tLnD (tW K it) (tTg K g) (tT K t) (fun D => tDZ K D mb) V σ H Q := fun σ H Q ⟨B, al, S, ρ, d, S', R, er, hm, q⟩ => by
  unfold mDcN at hm
  split at hm
  · rename_i kvs S2 h2
    cases hm
    unfold mDv at h2
    split at h2
    · rename_i xs ok S1 h1
      refine ⟨B, al, S, ρ, xs, ok, S1, R, er, h1, fun J al1 H1 R1 x1 w => fun Dl hD => ?_⟩
      have h0 : H Dl = none := fresh_al x1 (R1.fresh hD) hD
      obtain ⟨xb, Rb⟩ := R1.ban (o := .dK []) hD
      refine dv_of hv w bp_less xb.toB (.inr hD) (fun vs z => by rw [hD] at z; cases z) (fun d v r => (r.ban hD).monoN R1.nt xb) Rb (.inr rfl) (((er.mono R x1).ban hD).monoN R1.nt xb) upd_same rfl .nil h2 fun al' H' es' R' x' h' k' r' => ?_
      have x2 : Ex al1 H1 al' H' := xb.transD x' hD
      refine q (.ref Dl) (al' ++ [Dl]) H' (R'.gain ⟨es', h', k', r'⟩ (R1.freshB hD)) ((x1.trans x2).gain h0) (.ref _ Dl ?_)
      rw [← R'.len]
      simp
    · cases h2
  · cases hm
end
section
variable {X : Cx}
theorem sn_dc3 {kx vx tg iter tg1 iter1 tg2 iter2 : Expr} {ifs ifs1 ifs2 : List Expr} {scope : Scope} {own : List (Str × Nat)} {pos : Pos} {g g1 g2 : Tg} {it it1 it2 : MI} {t t1 t2 : MT} {k e : ME} (V1 V2 : List Nat) (hc : X.calm = true) (hN : X.N.Nodup) (hi : Si X tg iter it) (ok : BlkOk X.N X.env.scope scope own)
    (hw : ∀ i ∈ V1, i ∈ own.map (·.2)) (hw2 : ∀ i ∈ V2, i ∈ V1)
    (hg : ∀ (s : Shared) (H : Hp) (C : Addr) (cl : List (Str × Addr)) (fp : List Addr), Sg (X.blk s H scope (compEnvC scope cl C X.env) fp) tg g)
    (ht : ∀ (s : Shared) (H : Hp) (C : Addr) (cl : List (Str × Addr)) (fp : List Addr), PTs (X.blk s H scope (compEnvC scope cl C X.env) fp) ifs (tT X.K t))
    (hi1 : ∀ (s : Shared) (H : Hp) (C : Addr) (cl : List (Str × Addr)) (fp : List Addr), Si (X.blk s H scope (compEnvC scope cl C X.env) fp) tg1 iter1 it1)
    (hg1 : ∀ (s : Shared) (H : Hp) (C : Addr) (cl : List (Str × Addr)) (fp : List Addr), Sg (X.blk s H scope (compEnvC scope cl C X.env) fp) tg1 g1)
    (ht1 : ∀ (s : Shared) (H : Hp) (C : Addr) (cl : List (Str × Addr)) (fp : List Addr), PTs (X.blk s H scope (compEnvC scope cl C X.env) fp) ifs1 (tT X.K t1))
    (hi2 : ∀ (s : Shared) (H : Hp) (C : Addr) (cl : List (Str × Addr)) (fp : List Addr), Si (X.blk s H scope (compEnvC scope cl C X.env) fp) tg2 iter2 it2)
    (hg2 : ∀ (s : Shared) (H : Hp) (C : Addr) (cl : List (Str × Addr)) (fp : List Addr), Sg (X.blk s H scope (compEnvC scope cl C X.env) fp) tg2 g2)
    (ht2 : ∀ (s : Shared) (H : Hp) (C : Addr) (cl : List (Str × Addr)) (fp : List Addr), PTs (X.blk s H scope (compEnvC scope cl C X.env) fp) ifs2 (tT X.K t2))
    (hk : ∀ (s : Shared) (H : Hp) (C : Addr) (cl : List (Str × Addr)) (fp : List Addr), Sn (X.blk s H scope (compEnvC scope cl C X.env) fp) kx k)
    (he : ∀ (s : Shared) (H : Hp) (C : Addr) (cl : List (Str × Addr)) (fp : List Addr), Sn (X.blk s H scope (compEnvC scope cl C X.env) fp) vx e)
    (hv : ∀ i ∈ g.slots, i ∈ own.map (·.2)) (hv1 : ∀ i ∈ g1.slots, i ∈ V1) (hv2 : ∀ i ∈ g2.slots, i ∈ V2)
    (hs : ∀ x, foldedSetIterable iter X.env x = pure x := by intro _; rfl) (hs1 : ∀ env x, foldedSetIterable iter1 env x = pure x := by intro _ _; rfl) (hs2 : ∀ env x, foldedSetIterable iter2 env x = pure x := by intro _ _; rfl) :
    Sn X (.DictComp kx vx [⟨tg, iter, ifs, 0⟩, ⟨tg1, iter1, ifs1, 0⟩, ⟨tg2, iter2, ifs2, 0⟩] scope pos) (mDcN (own.map (·.2)) g it t (mDv V1 g1 it1 t1 (mDv V2 g2 it2 t2 (mDOne k e)))) := by
  have inner : ∀ (s : Shared) (H : Hp) (C : Addr) (cl : List (Str × Addr)) (fp : List Addr) (D : Addr), PB (X.blk s H scope (compEnvC scope cl C X.env) fp) (fun f => (do
        let kv ← eval kx (compEnvC scope cl C X.env)
        let vv ← holding [kv] (eval vx (compEnvC scope cl C X.env))
        standAt { kx.pos with endLine := vx.pos.endLine, endCol := vx.pos.endCol }
        holding [kv, vv] (dictSet D kv vv)) >>= fun _ => f) (tDZ X.K D (mDOne k e)) [] := fun s H C cl fp D =>
    pb_imp (pb_eltD (Y := X.blk s H scope (compEnvC scope cl C X.env) fp) (fun _ _ z => z) (hk s H C cl fp) (he s H C cl fp)) tdz_elt
  have mid := fun (s : Shared) (H : Hp) (C : Addr) (cl : List (Str × Addr)) (fp : List Addr) (D : Addr) => pb_imp (pb_clauseD (Y := X.blk s H scope (compEnvC scope cl C X.env) fp) (kx := kx) (vx := vx) (gs := [⟨tg, iter, ifs, 0⟩, ⟨tg1, iter1, ifs1, 0⟩, ⟨tg2, iter2, ifs2, 0⟩]) (scope := scope) (pos := pos) (d := 2) (acc := .ref D) (V := V2) hc (fun _ _ z => z) rfl (by intro _; rfl) (hi2 s H C cl fp) (hg2 s H C cl fp) (ht2 s H C cl fp) (inner s H C cl fp D) (fun i z => by cases z) (hs2 _)) (tdz_dv (it := it2) hv2)
  have outer := fun (s : Shared) (H : Hp) (C : Addr) (cl : List (Str × Addr)) (fp : List Addr) (D : Addr) => pb_imp (pb_clauseD (Y := X.blk s H scope (compEnvC scope cl C X.env) fp) (kx := kx) (vx := vx) (gs := [⟨tg, iter, ifs, 0⟩, ⟨tg1, iter1, ifs1, 0⟩, ⟨tg2, iter2, ifs2, 0⟩]) (scope := scope) (pos := pos) (d := 1) (acc := .ref D) (V := V1) hc (fun _ _ z => z) rfl (by intro _; rfl) (hi1 s H C cl fp) (hg1 s H C cl fp) (ht1 s H C cl fp) (mid s H C cl fp D) hw2 (hs1 _)) (tdz_dv (it := it1) hv1)
  exact pe_imp (pe_lcnD (kx := kx) (vx := vx) (rest := [⟨tg1, iter1, ifs1, 0⟩, ⟨tg2, iter2, ifs2, 0⟩]) (g := tTg X.K g) (tt := tT X.K t) (tb := fun D => tDZ X.K D (mDv V1 g1 it1 t1 (mDv V2 g2 it2 t2 (mDOne k e)))) (fun acc env f => do
      let x ← eval iter1 env
      standAt iter1.pos
      let x ← foldedSetIterable iter1 env x
      let _ ← runOwn (.compStart (.DictComp kx vx [⟨tg, iter, ifs, 0⟩, ⟨tg1, iter1, ifs1, 0⟩, ⟨tg2, iter2, ifs2, 0⟩] scope pos) 1 (← holding [x] (pyIter x)) acc env) env
      f) (by intro _ _ _; rfl) hc hN hi ok hg ht outer hw hs) (dcn_of hv)
end
@[simp] theorem wp_mDcN {Vs : List Nat} {g : Tg} {it : MI} {t : MT} {mb : MDb} {ρ : Env} {S : Store} {Q} : wp (mDcN Vs g it t mb ρ) S Q ↔ wp (mDv Vs g it t mb ρ []) S fun kvs S2 => Q (.ref S2.length) (S2 ++ [.dct kvs]) := by
  constructor
  · rintro ⟨o, S', h, q⟩
    unfold mDcN at h
    split at h
    · rename_i kvs S2 h2; cases h; exact ⟨_, _, h2, q⟩
    · cases h
  · rintro ⟨kvs, S2, h2, q⟩
    exact ⟨_, _, by simp only [mDcN, h2], q⟩
@[simp] theorem wp_mDv {Vs : List Nat} {g : Tg} {it : MI} {t : MT} {mb : MDb} {ρ : Env} {acc : Dm} {S : Store} {Q} : wp (mDv Vs g it t mb ρ acc) S Q ↔ wp (it ρ) S fun p S1 => wp (mDvL Vs g p.2 t mb ρ p.1 acc) S1 Q := by
  constructor
  · rintro ⟨o, S', h, q⟩
    unfold mDv at h
    split at h
    · rename_i xs ok S1 h1; exact ⟨_, _, h1, _, _, h, q⟩
    · cases h
  · rintro ⟨⟨xs, ok⟩, S1, h1, kvs, S2, h2, q⟩
    exact ⟨_, _, by simp only [mDv, h1]; exact h2, q⟩
theorem hu0 {A : Around} {k : Nat} (hr : Room k A) : A.units < cLine := by have := hr.un; omega
end Z
set_option Elab.async false
set_option linter.all false
set_option maxRecDepth 100000
set_option maxHeartbeats 4000000
namespace C
open PySem L2 Z

def top (i : Nat) : Stmt := PySem.Challenge.pw_carfax_k09_passing.main.body.getD i (.Pass ⟨0, 0, 0, 0⟩)
/-! legs -/
abbrev s_legs : Stmt := top 10
abbrev n_legs : List Str := ["state", "road", "lane", "row"]
theorem sc_legs : FnScope n_legs ["state"] (defScope s_legs) := ⟨rfl, rfl, rfl, by decide +kernel, rfl, by decide +kernel, by decide +kernel⟩
def b_legs : MS := (mRet (mDcN [1, 2, 3] (.nm 1) (mItS (mOp dIx (mVar 0) (mC (.int 1)))) mTrue (mDv [2, 3] (.nm 2) (mItS (mVar 1)) mTrue (mDv [3] (.nm 3) (mItS (mVar 2)) mTrue (mDOne (mOp dIx (mVar 3) (mC (.int 1))) (mTup (mCons (mOp dIx (mVar 3) (mC (.int 3))) (mCons (mOp dIx (mVar 3) (mC (.int 0))) mNil))))))))
def f_legs : List D → M D := mOpen 4 b_legs
/-! is_past -/
abbrev s_is_past : Stmt := top 11
abbrev n_is_past : List Str := ["state", "car", "leg", "cell", "found", "row"]
theorem sc_is_past : FnScope n_is_past ["state", "car", "leg", "cell"] (defScope s_is_past) := ⟨rfl, rfl, rfl, by decide +kernel, rfl, by decide +kernel, by decide +kernel⟩
def b_is_past : MS := (mSeq (mSet 4 (mDGet1 (mCallG f_legs (mCons (mVar 0) mNil)) (mVar 1)))
 (mSeq (mIfS (mB (mOp dIs (mVar 4) (mC .non))) (mRet (mOp (dInS false) (mVar 1) (mFz (mLc [5] (.nm 5) (mItS (mOp dIx (mVar 0) (mC (.int 2)))) mTrue (mOp dIx (mVar 5) (mC (.int 0))))))) mNext)
 (mRet (mOp dGeT (mVar 4) (mTup (mCons (mVar 2) (mCons (mVar 3) mNil)))))))
def f_is_past : List D → M D := mBody 6 b_is_past
/-! passed -/
abbrev s_passed : Stmt := top 12
abbrev n_passed : List Str := ["net", "cars", "states", "road", "cell", "found", "at", "car", "row", "leg"]
theorem sc_passed : FnScope n_passed ["net", "cars", "states", "road", "cell"] (defScope s_passed) := ⟨rfl, rfl, rfl, by decide +kernel, rfl, by decide +kernel, by decide +kernel⟩
def b_passed : MS := (mSeq (mSet 5 (mAd mNil))
 (mSeq (mFor (.nm 6) (mItR (mCons (mC (.int 1)) (mCons (mCB cLen (mCons (mVar 2) mNil)) mNil))) (mFor (.tp [7, 8]) (mItE (mVar 1)) (mIfS (mB (mOp (dInS false) (mVar 3) (mOp dIx (mVar 8) (mC (.int 1))))) (mSeq (mSet 9 (mTix (mOp dIx (mVar 8) (mC (.int 1))) (mVar 3)))
 (mIfS (mAnd (mTru (mCall 0 f_is_past (mCons (mOp dIx (mVar 2) (mVar 6)) (mCons (mVar 7) (mCons (mVar 9) (mCons (mVar 4) mNil)))))) (mNot (mTru (mCall 0 f_is_past (mCons (mOp dIx (mVar 2) (mOp dSub (mVar 6) (mC (.int 1)))) (mCons (mVar 7) (mCons (mVar 9) (mCons (mVar 4) mNil)))))))) (mDrop (mMth lApp (mVar 5) (mCons (mTup (mCons (mOp dIx (mOp dIx (mVar 2) (mVar 6)) (mC (.int 0))) (mCons (mVar 7) mNil))) mNil))) mNext)) mNext)))
 (mRet (mVar 5))))
def f_passed : List D → M D := mOpen 10 b_passed
/-! all_cars -/
abbrev s_all_cars : Stmt := top 6
abbrev n_all_cars : List Str := ["state", "road", "lane", "row"]
theorem sc_all_cars : FnScope n_all_cars ["state"] (defScope s_all_cars) := ⟨rfl, rfl, rfl, by decide +kernel, rfl, by decide +kernel, by decide +kernel⟩
def b_all_cars : MS := (mRet (mFz (mLcN [1, 2, 3] (.nm 1) (mItS (mOp dIx (mVar 0) (mC (.int 1)))) mTrue (mLv [2, 3] (.nm 2) (mItS (mVar 1)) mTrue (mLv [3] (.nm 3) (mItS (mVar 2)) mTrue (mOne (mOp dIx (mVar 3) (mC (.int 1)))))))))
def f_all_cars : List D → M D := mBody 4 b_all_cars
/-! outside -/
abbrev s_outside : Stmt := top 8
abbrev n_outside : List Str := ["cars", "state", "inside", "car", "row"]
theorem sc_outside : FnScope n_outside ["cars", "state"] (defScope s_outside) := ⟨rfl, rfl, rfl, by decide +kernel, rfl, by decide +kernel, by decide +kernel⟩
def b_outside : MS := (mSeq (mSet 2 (mOp dAdd (mCall 0 f_all_cars (mCons (mVar 1) mNil)) (mFz (mLc [4] (.nm 4) (mItS (mOp dIx (mVar 1) (mC (.int 2)))) mTrue (mOp dIx (mVar 4) (mC (.int 0)))))))
 (mRet (mFz (mLc [3] (.nm 3) (mItR (mCons (mCB cLen (mCons (mVar 0) mNil)) mNil)) (mB (mOp (dInS true) (mVar 3) (mVar 2))) (mVar 3)))))
def f_outside : List D → M D := mBody 5 b_outside
/-! room_in -/
abbrev s_room_in : Stmt := top 7
abbrev n_room_in : List Str := ["rows", "at", "cells"]
theorem sc_room_in : FnScope n_room_in ["rows", "at", "cells"] (defScope s_room_in) := ⟨rfl, rfl, rfl, by decide +kernel, rfl, by decide +kernel, by decide +kernel⟩
def b_room_in : MS := (mSeq (mIfS (mB (mOp dLt (mOp dAdd (mVar 1) (mC (.int 1))) (mCB cLen (mCons (mVar 0) mNil)))) (mRet (mOp dSub (mOp dSub (mOp dIx (mOp dIx (mVar 0) (mOp dAdd (mVar 1) (mC (.int 1)))) (mC (.int 0))) (mOp dIx (mOp dIx (mVar 0) (mVar 1)) (mC (.int 0)))) (mC (.int 1)))) mNext)
 (mRet (mOp dSub (mOp dSub (mVar 2) (mC (.int 1))) (mOp dIx (mOp dIx (mVar 0) (mVar 1)) (mC (.int 0))))))
def f_room_in : List D → M D := mBody 3 b_room_in
/-! wanted -/
abbrev s_wanted : Stmt := top 14
abbrev n_wanted : List Str := ["net", "road", "row"]
theorem sc_wanted : FnScope n_wanted ["net", "road", "row"] (defScope s_wanted) := ⟨rfl, rfl, rfl, by decide +kernel, rfl, by decide +kernel, by decide +kernel⟩
def b_wanted : MS := (mRet (mCB cMin2 (mCons (mOp dAdd (mOp dIx (mVar 2) (mC (.int 2))) (mC (.int 1))) (mCons (mOp dIx (mOp dIx (mOp dIx (mVar 0) (mC (.int 0))) (mVar 1)) (mC (.int 2))) mNil))))
def f_wanted : List D → M D := mBody 3 b_wanted
/-! gap_at -/
abbrev s_gap_at : Stmt := top 15
abbrev n_gap_at : List Str := ["rows", "cell", "cells", "ahead", "behind", "row"]
theorem sc_gap_at : FnScope n_gap_at ["rows", "cell", "cells"] (defScope s_gap_at) := ⟨rfl, rfl, rfl, by decide +kernel, rfl, by decide +kernel, by decide +kernel⟩
def b_gap_at : MS := (mSeq (mSet 3 (mVar 2))
 (mSeq (mSet 4 (mC .non))
 (mSeq (mFor (.nm 5) (mItS (mVar 0)) (mSeq (mIfS (mB (mOp dEq (mOp dIx (mVar 5) (mC (.int 0))) (mVar 1))) (mRet (mTup (mCons (mC (.bl false)) (mCons (mC (.int 0)) (mCons (mC .non) mNil))))) mNext)
 (mIfS (mB (mOp dLt (mOp dIx (mVar 5) (mC (.int 0))) (mVar 1))) (mSet 4 (mVar 5)) (mIfS (mB (mOp dLt (mOp dIx (mVar 5) (mC (.int 0))) (mVar 3))) (mSet 3 (mOp dIx (mVar 5) (mC (.int 0)))) mNext))))
 (mRet (mTup (mCons (mC (.bl true)) (mCons (mOp dSub (mOp dSub (mVar 3) (mVar 1)) (mC (.int 1))) (mCons (mVar 4) mNil))))))))
def f_gap_at : List D → M D := mBody 6 b_gap_at
/-! goes_over -/
abbrev s_goes_over : Stmt := top 16
abbrev n_goes_over : List Str := ["net", "road", "rows", "at", "other", "cells", "row", "here", "free", "there", "behind"]
theorem sc_goes_over : FnScope n_goes_over ["net", "road", "rows", "at", "other"] (defScope s_goes_over) := ⟨rfl, rfl, rfl, by decide +kernel, rfl, by decide +kernel, by decide +kernel⟩
def b_goes_over : MS := (mSeq (mSet 5 (mOp dIx (mOp dIx (mOp dIx (mVar 0) (mC (.int 0))) (mVar 1)) (mC (.int 1))))
 (mSeq (mSet 6 (mOp dIx (mVar 2) (mVar 3)))
 (mSeq (mSet 7 (mCall 0 f_room_in (mCons (mVar 2) (mCons (mVar 3) (mCons (mVar 5) mNil)))))
 (mSeq (mIfS (mB (mOp dGe (mVar 7) (mCall 0 f_wanted (mCons (mVar 0) (mCons (mVar 1) (mCons (mVar 6) mNil)))))) (mRet (mC (.bl false))) mNext)
 (mSeq (mAsg (.tp [8, 9, 10]) (mCall 0 f_gap_at (mCons (mVar 4) (mCons (mOp dIx (mVar 6) (mC (.int 0))) (mCons (mVar 5) mNil)))))
 (mSeq (mIfS (mOr (mNot (mTru (mVar 8))) (mB (mOp dLe (mVar 9) (mVar 7)))) (mRet (mC (.bl false))) mNext)
 (mRet (mOrV (mOp dIs (mVar 10) (mC .non)) (mOp dLe (mOp dIx (mVar 10) (mC (.int 2))) (mOp dSub (mOp dSub (mOp dIx (mVar 6) (mC (.int 0))) (mOp dIx (mVar 10) (mC (.int 0)))) (mC (.int 1))))))))))))
def f_goes_over : List D → M D := mBody 11 b_goes_over
/-! changed_road -/
abbrev s_changed_road : Stmt := top 17
abbrev n_changed_road : List Str := ["net", "road", "lanes", "time", "found", "lane", "rows", "to", "_", "at", "row"]
theorem sc_changed_road : FnScope n_changed_road ["net", "road", "lanes", "time"] (defScope s_changed_road) := ⟨rfl, rfl, rfl, by decide +kernel, rfl, by decide +kernel, by decide +kernel⟩
def b_changed_road : MS := (mSeq (mSet 4 (mAd (mLc [8] (.nm 8) (mItS (mVar 2)) mTrue (mAd mNil))))
 (mSeq (mFor (.tp [5, 6]) (mItE (mVar 2)) (mSeq (mSet 7 (mOp dSub (mVar 5) (mC (.int 1))))
 (mSeq (mIfS (mB (mOp dEq (mOp dMod (mVar 3) (mC (.int 2))) (mC (.int 1)))) (mSet 7 (mOp dAdd (mVar 5) (mC (.int 1)))) mNext)
 (mFor (.tp [9, 10]) (mItE (mVar 6)) (mIfS (mAnd (mB (mChain dLe dLt (mC (.int 0)) (mVar 7) (mCB cLen (mCons (mVar 2) mNil)))) (mTru (mCall 0 f_goes_over (mCons (mVar 0) (mCons (mVar 1) (mCons (mVar 6) (mCons (mVar 9) (mCons (mOp dIx (mVar 2) (mVar 7)) mNil)))))))) (mDrop (mMth lApp (mOp dIx (mVar 4) (mVar 7)) (mCons (mVar 10) mNil))) (mDrop (mMth lApp (mOp dIx (mVar 4) (mVar 5)) (mCons (mVar 10) mNil))))))))
 (mRet (mCB cTuple (mCons (mFz (mLc [6] (.nm 6) (mItS (mVar 4)) mTrue (mCB cTuple (mCons (mFz (mCF (cSortT 4 64) (mCons (mVar 6) mNil))) mNil)))) mNil)))))
def f_changed_road : List D → M D := mBody 11 b_changed_road
/-! changed -/
abbrev s_changed : Stmt := top 18
abbrev n_changed : List Str := ["net", "cars", "state", "time", "rows", "_", "road", "lanes"]
theorem sc_changed : FnScope n_changed ["net", "cars", "state"] (defScope s_changed) := ⟨rfl, rfl, rfl, by decide +kernel, rfl, by decide +kernel, by decide +kernel⟩
def b_changed : MS := (mSeq (mAsg (.tp [3, 4, 5]) (mVar 2))
 (mRet (mCB cTuple (mCons (mFz (mLc [6, 7] (.tp [6, 7]) (mItE (mVar 4)) mTrue (mCall 0 f_changed_road (mCons (mVar 0) (mCons (mVar 6) (mCons (mVar 7) (mCons (mVar 3) mNil))))))) mNil))))
def f_changed : List D → M D := mBody 8 b_changed
/-! front -/
abbrev s_front : Stmt := top 19
abbrev n_front : List Str := ["net", "road", "rows"]
theorem sc_front : FnScope n_front ["net", "road", "rows"] (defScope s_front) := ⟨rfl, rfl, rfl, by decide +kernel, rfl, by decide +kernel, by decide +kernel⟩
def b_front : MS := (mSeq (mIfS (mNot (mTru (mVar 2))) (mRet (mC .non)) mNext)
 (mSeq (mIfS (mB (mOp dLe (mCall 0 f_wanted (mCons (mVar 0) (mCons (mVar 1) (mCons (mOp dIx (mVar 2) (mNeg (mC (.int 1)))) mNil)))) (mOp dSub (mOp dSub (mOp dIx (mOp dIx (mOp dIx (mVar 0) (mC (.int 0))) (mVar 1)) (mC (.int 1))) (mC (.int 1))) (mOp dIx (mOp dIx (mVar 2) (mNeg (mC (.int 1)))) (mC (.int 0)))))) (mRet (mC .non)) mNext)
 (mRet (mOp dIx (mVar 2) (mNeg (mC (.int 1)))))))
def f_front : List D → M D := mBody 3 b_front
/-! greens -/
abbrev s_greens : Stmt := top 3
abbrev n_greens : List Str := ["net", "crossing", "time", "rest", "rule", "rows", "duration", "green", "row"]
theorem sc_greens : FnScope n_greens ["net", "crossing", "time"] (defScope s_greens) := ⟨rfl, rfl, rfl, by decide +kernel, rfl, by decide +kernel, by decide +kernel⟩
def b_greens : MS := (mSeq (mAsg (.tp [4, 5]) (mOp dIx (mOp dIx (mOp dIx (mVar 0) (mC (.int 1))) (mVar 1)) (mC (.int 0))))
 (mSeq (mIfS (mB (mOp dEq (mVar 4) (mC (.str (PySem.Str.ofString "order"))))) (mRet (mAd (mCF cSortQ (mCons (mVar 5) mNil)))) mNext)
 (mSeq (mSet 3 (mOp dMod (mVar 2) (mCB cSum (mCons (mFz (mLc [8] (.nm 8) (mItS (mVar 5)) mTrue (mOp dIx (mVar 8) (mC (.int 0))))) mNil))))
 (mSeq (mFor (.tp [6, 7]) (mItS (mVar 5)) (mSeq (mIfS (mB (mOp dLt (mVar 3) (mVar 6))) (mRet (mAd (mCF cList (mCons (mVar 7) mNil)))) mNext)
 (mAug 3 (fun i j => i - j) (mVar 6))))
 (mRet (mAd mNil))))))
def f_greens : List D → M D := mOpen 9 b_greens
/-! road_ends -/
abbrev s_road_ends : Stmt := top 1
abbrev n_road_ends : List Str := ["roads", "crossing", "at", "road"]
theorem sc_road_ends : FnScope n_road_ends ["roads", "crossing"] (defScope s_road_ends) := ⟨rfl, rfl, rfl, by decide +kernel, rfl, by decide +kernel, by decide +kernel⟩
def b_road_ends : MS := (mRet (mFz (mLc [2, 3] (.tp [2, 3]) (mItE (mVar 0)) (mB (mOp dEq (mOp dIx (mVar 3) (mC (.int 3))) (mVar 1))) (mVar 2))))
def f_road_ends : List D → M D := mBody 4 b_road_ends
/-! ends -/
abbrev s_ends : Stmt := top 2
abbrev n_ends : List Str := ["net", "at"]
theorem sc_ends : FnScope n_ends ["net"] (defScope s_ends) := ⟨rfl, rfl, rfl, by decide +kernel, rfl, by decide +kernel, by decide +kernel⟩
def b_ends : MS := (mRet (mFz (mLc [1] (.nm 1) (mItR (mCons (mCB cLen (mCons (mOp dIx (mVar 0) (mC (.int 1))) mNil)) mNil)) mTrue (mCall 0 f_road_ends (mCons (mOp dIx (mVar 0) (mC (.int 0))) (mCons (mVar 1) mNil))))))
def f_ends : List D → M D := mBody 2 b_ends
/-! road_order -/
abbrev s_road_order : Stmt := top 20
abbrev n_road_order : List Str := ["net", "crossing", "rule", "rows"]
theorem sc_road_order : FnScope n_road_order ["net", "crossing"] (defScope s_road_order) := ⟨rfl, rfl, rfl, by decide +kernel, rfl, by decide +kernel, by decide +kernel⟩
def b_road_order : MS := (mSeq (mAsg (.tp [2, 3]) (mOp dIx (mOp dIx (mOp dIx (mVar 0) (mC (.int 1))) (mVar 1)) (mC (.int 0))))
 (mSeq (mIfS (mB (mOp dEq (mVar 2) (mC (.str (PySem.Str.ofString "order"))))) (mRet (mFz (mCF cList (mCons (mVar 3) mNil)))) mNext)
 (mRet (mOp dIx (mCall 0 f_ends (mCons (mVar 0) mNil)) (mVar 1)))))
def f_road_order : List D → M D := mBody 4 b_road_order
/-! asking_at -/
abbrev s_asking_at : Stmt := top 21
abbrev n_asking_at : List Str := ["net", "cars", "rows", "crossing", "found", "road", "lane", "inside", "row", "to"]
theorem sc_asking_at : FnScope n_asking_at ["net", "cars", "rows", "crossing"] (defScope s_asking_at) := ⟨rfl, rfl, rfl, by decide +kernel, rfl, by decide +kernel, by decide +kernel⟩
def b_asking_at : MS := (mSeq (mSet 4 (mAd mNil))
 (mSeq (mFor (.nm 5) (mItS (mCall 0 f_road_order (mCons (mVar 0) (mCons (mVar 3) mNil)))) (mFor (.tp [6, 7]) (mItE (mOp dIx (mVar 2) (mVar 5))) (mSeq (mSet 8 (mCall 0 f_front (mCons (mVar 0) (mCons (mVar 5) (mCons (mVar 7) mNil)))))
 (mIfS (mAnd (mB (mOp dIsNot (mVar 8) (mC .non))) (mB (mOp dLt (mOp dAdd (mOp dIx (mVar 8) (mC (.int 3))) (mC (.int 1))) (mCB cLen (mCons (mOp dIx (mOp dIx (mVar 1) (mOp dIx (mVar 8) (mC (.int 1)))) (mC (.int 1))) mNil))))) (mSeq (mSet 9 (mOp dIx (mOp dIx (mOp dIx (mVar 1) (mOp dIx (mVar 8) (mC (.int 1)))) (mC (.int 1))) (mOp dAdd (mOp dIx (mVar 8) (mC (.int 3))) (mC (.int 1)))))
 (mDrop (mMth lApp (mVar 4) (mCons (mTup (mCons (mOp dIx (mVar 8) (mC (.int 1))) (mCons (mVar 5) (mCons (mVar 6) (mCons (mVar 9) (mCons (mCB cMin2 (mCons (mVar 6) (mCons (mOp dSub (mOp dIx (mOp dIx (mOp dIx (mVar 0) (mC (.int 0))) (mVar 9)) (mC (.int 0))) (mC (.int 1))) mNil))) mNil)))))) mNil)))) mNext))))
 (mRet (mVar 4))))
def f_asking_at : List D → M D := mBody 10 b_asking_at
/-! full_by -/
abbrev s_full_by : Stmt := top 22
abbrev n_full_by : List Str := ["rows", "one", "inside"]
theorem sc_full_by : FnScope n_full_by ["rows", "one"] (defScope s_full_by) := ⟨rfl, rfl, rfl, by decide +kernel, rfl, by decide +kernel, by decide +kernel⟩
def b_full_by : MS := (mSeq (mSet 2 (mOp dIx (mOp dIx (mVar 0) (mOp dIx (mVar 1) (mC (.int 3)))) (mOp dIx (mVar 1) (mC (.int 4)))))
 (mSeq (mIfS (mAnd (mTru (mVar 2)) (mB (mOp dEq (mOp dIx (mOp dIx (mVar 2) (mC (.int 0))) (mC (.int 0))) (mC (.int 0))))) (mRet (mOp dIx (mOp dIx (mVar 2) (mC (.int 0))) (mC (.int 1)))) mNext)
 (mRet (mC .non))))
def f_full_by : List D → M D := mBody 3 b_full_by
/-! cause_at -/
abbrev s_cause_at : Stmt := top 23
abbrev n_cause_at : List Str := ["net", "crossing", "asked", "one", "rows", "entered", "green", "full", "order", "other"]
theorem sc_cause_at : FnScope n_cause_at ["net", "crossing", "asked", "one", "rows", "entered", "green"] (defScope s_cause_at) := ⟨rfl, rfl, rfl, by decide +kernel, rfl, by decide +kernel, by decide +kernel⟩
def b_cause_at : MS := (mSeq (mIfS (mB (mOp (dInS true) (mOp dIx (mVar 3) (mC (.int 1))) (mVar 6))) (mRet (mTup (mCons (mC (.str (PySem.Str.ofString "light"))) (mCons (mVar 1) mNil)))) mNext)
 (mSeq (mSet 7 (mCall 0 f_full_by (mCons (mVar 4) (mCons (mVar 3) mNil))))
 (mSeq (mIfS (mB (mOp dIsNot (mVar 7) (mC .non))) (mRet (mTup (mCons (mC (.str (PySem.Str.ofString "full"))) (mCons (mVar 7) mNil)))) mNext)
 (mSeq (mIfS (mB (mOp dEq (mOp dIx (mOp dIx (mOp dIx (mOp dIx (mVar 0) (mC (.int 1))) (mVar 1)) (mC (.int 0))) (mC (.int 0))) (mC (.str (PySem.Str.ofString "order"))))) (mSeq (mSet 8 (mOp dIx (mOp dIx (mOp dIx (mOp dIx (mVar 0) (mC (.int 1))) (mVar 1)) (mC (.int 0))) (mC (.int 1))))
 (mFor (.nm 9) (mItS (mVar 2)) (mIfS (mAnd (mB (mOp dLt (mTix (mVar 8) (mOp dIx (mVar 9) (mC (.int 1)))) (mTix (mVar 8) (mOp dIx (mVar 3) (mC (.int 1)))))) (mAnd (mB (mOp dEq (mOp dIx (mVar 9) (mC (.int 3))) (mOp dIx (mVar 3) (mC (.int 3))))) (mB (mOp dIs (mCall 0 f_full_by (mCons (mVar 4) (mCons (mVar 9) mNil))) (mC .non))))) (mRet (mTup (mCons (mC (.str (PySem.Str.ofString "right"))) (mCons (mOp dIx (mVar 9) (mC (.int 0))) mNil)))) mNext))) mNext)
 (mSeq (mIfS (mB (mDIn false (mTup (mCons (mOp dIx (mVar 3) (mC (.int 3))) (mCons (mOp dIx (mVar 3) (mC (.int 4))) mNil))) (mVar 5))) (mRet (mTup (mCons (mC (.str (PySem.Str.ofString "lane"))) (mCons (mDGet (mVar 5) (mTup (mCons (mOp dIx (mVar 3) (mC (.int 3))) (mCons (mOp dIx (mVar 3) (mC (.int 4))) mNil)))) mNil)))) mNext)
 (mRet (mC .non)))))))
def f_cause_at : List D → M D := mOpen 10 b_cause_at
/-! let_through -/
abbrev s_let_through : Stmt := top 24
abbrev n_let_through : List Str := ["net", "cars", "time", "rows", "good", "causes", "crossing", "asked", "entered", "green", "one", "cause"]
theorem sc_let_through : FnScope n_let_through ["net", "cars", "time", "rows"] (defScope s_let_through) := ⟨rfl, rfl, rfl, by decide +kernel, rfl, by decide +kernel, by decide +kernel⟩
def b_let_through : MS := (mSeq (mSet 4 (mAd mNil))
 (mSeq (mSet 5 (mAd mNil))
 (mSeq (mFor (.nm 6) (mItR (mCons (mCB cLen (mCons (mOp dIx (mVar 0) (mC (.int 1))) mNil)) mNil)) (mSeq (mSet 7 (mCall 0 f_asking_at (mCons (mVar 0) (mCons (mVar 1) (mCons (mVar 3) (mCons (mVar 6) mNil))))))
 (mSeq (mSet 8 mNewT)
 (mSeq (mSet 9 (mCallG f_greens (mCons (mVar 0) (mCons (mVar 6) (mCons (mVar 2) mNil)))))
 (mFor (.nm 10) (mItS (mVar 7)) (mSeq (mSet 11 (mCallG f_cause_at (mCons (mVar 0) (mCons (mVar 6) (mCons (mVar 7) (mCons (mVar 10) (mCons (mVar 3) (mCons (mVar 8) (mCons (mVar 9) mNil)))))))))
 (mIfS (mB (mOp dIs (mVar 11) (mC .non))) (mSeq (mSetD (mVar 8) (mTup (mCons (mOp dIx (mVar 10) (mC (.int 3))) (mCons (mOp dIx (mVar 10) (mC (.int 4))) mNil))) (mOp dIx (mVar 10) (mC (.int 0))))
 (mDrop (mMth lApp (mVar 4) (mCons (mVar 10) mNil)))) (mDrop (mMth lApp (mVar 5) (mCons (mTup (mCons (mOp dIx (mVar 10) (mC (.int 0))) (mCons (mVar 11) mNil))) mNil))))))))))
 (mRet (mTup (mCons (mVar 4) (mCons (mVar 5) mNil)))))))
def f_let_through : List D → M D := mBody 12 b_let_through
/-! entry -/
abbrev s_entry : Stmt := top 25
abbrev n_entry : List Str := ["net", "rows", "one", "row", "here", "free", "cell", "car", "road", "lane", "to", "into"]
theorem sc_entry : FnScope n_entry ["net", "rows", "one"] (defScope s_entry) := ⟨rfl, rfl, rfl, by decide +kernel, rfl, by decide +kernel, by decide +kernel⟩
def b_entry : MS := (mSeq (mAsg (.tp [7, 8, 9, 10, 11]) (mVar 2))
 (mSeq (mSet 3 (mOp dIx (mOp dIx (mOp dIx (mVar 1) (mVar 8)) (mVar 9)) (mNeg (mC (.int 1)))))
 (mSeq (mSet 4 (mOp dSub (mOp dSub (mOp dIx (mOp dIx (mOp dIx (mVar 0) (mC (.int 0))) (mVar 8)) (mC (.int 1))) (mC (.int 1))) (mOp dIx (mVar 3) (mC (.int 0)))))
 (mSeq (mSet 5 (mOp dIx (mOp dIx (mOp dIx (mVar 0) (mC (.int 0))) (mVar 10)) (mC (.int 1))))
 (mSeq (mIfS (mTru (mOp dIx (mOp dIx (mVar 1) (mVar 10)) (mVar 11))) (mSet 5 (mOp dIx (mOp dIx (mOp dIx (mOp dIx (mVar 1) (mVar 10)) (mVar 11)) (mC (.int 0))) (mC (.int 0)))) mNext)
 (mSeq (mSet 6 (mCB cMin2 (mCons (mOp dSub (mOp dSub (mCall 0 f_wanted (mCons (mVar 0) (mCons (mVar 8) (mCons (mVar 3) mNil)))) (mVar 4)) (mC (.int 1))) (mCons (mOp dSub (mVar 5) (mC (.int 1))) mNil))))
 (mRet (mTup (mCons (mVar 6) (mCons (mVar 7) (mCons (mOp dAdd (mOp dAdd (mVar 4) (mC (.int 1))) (mVar 6)) (mCons (mOp dAdd (mOp dIx (mVar 3) (mC (.int 3))) (mC (.int 1))) mNil))))))))))))
def f_entry : List D → M D := mBody 12 b_entry
/-! moved -/
abbrev s_moved : Stmt := top 26
abbrev n_moved : List Str := ["net", "cars", "time", "rows", "through", "left", "found", "one", "good", "_", "road", "lanes", "new", "inside", "lane", "last", "at", "row", "length"]
theorem sc_moved : FnScope n_moved ["net", "cars", "time", "rows"] (defScope s_moved) := ⟨rfl, rfl, rfl, by decide +kernel, rfl, by decide +kernel, by decide +kernel⟩
def b_moved : MS := (mSeq (mAsg (.tp [8, 9]) (mCall 0 f_let_through (mCons (mVar 0) (mCons (mVar 1) (mCons (mVar 2) (mCons (mVar 3) mNil))))))
 (mSeq (mSet 4 (mDc [7] (.nm 7) (mItS (mVar 8)) mTrue (mOp dIx (mVar 7) (mC (.int 0))) (mC (.bl true))))
 (mSeq (mSet 5 (mAd mNil))
 (mSeq (mSet 6 (mAd mNil))
 (mSeq (mFor (.tp [10, 11]) (mItE (mVar 3)) (mSeq (mSet 12 (mAd mNil))
 (mSeq (mFor (.nm 13) (mItS (mVar 11)) (mSeq (mSet 14 (mAd mNil))
 (mSeq (mSet 15 (mCall 0 f_front (mCons (mVar 0) (mCons (mVar 10) (mCons (mVar 13) mNil)))))
 (mSeq (mFor (.tp [16, 17]) (mItE (mVar 13)) (mIfS (mAnd (mB (mOp dEq (mVar 17) (mVar 15))) (mB (mOp dEq (mOp dAdd (mOp dIx (mVar 17) (mC (.int 3))) (mC (.int 1))) (mCB cLen (mCons (mOp dIx (mOp dIx (mVar 1) (mOp dIx (mVar 17) (mC (.int 1)))) (mC (.int 1))) mNil))))) (mDrop (mMth lApp (mVar 5) (mCons (mOp dIx (mVar 17) (mC (.int 1))) mNil))) (mIfS (mB (mDIn true (mOp dIx (mVar 17) (mC (.int 1))) (mVar 4))) (mSeq (mSet 18 (mCB cMin2 (mCons (mCall 0 f_wanted (mCons (mVar 0) (mCons (mVar 10) (mCons (mVar 17) mNil)))) (mCons (mCall 0 f_room_in (mCons (mVar 13) (mCons (mVar 16) (mCons (mOp dIx (mOp dIx (mOp dIx (mVar 0) (mC (.int 0))) (mVar 10)) (mC (.int 1))) mNil)))) mNil))))
 (mDrop (mMth lApp (mVar 14) (mCons (mTup (mCons (mOp dAdd (mOp dIx (mVar 17) (mC (.int 0))) (mVar 18)) (mCons (mOp dIx (mVar 17) (mC (.int 1))) (mCons (mVar 18) (mCons (mOp dIx (mVar 17) (mC (.int 3))) mNil))))) mNil)))) mNext)))
 (mDrop (mMth lApp (mVar 12) (mCons (mVar 14) mNil)))))))
 (mDrop (mMth lApp (mVar 6) (mCons (mVar 12) mNil))))))
 (mSeq (mFor (.nm 7) (mItS (mVar 8)) (mDrop (mMth lApp (mOp dIx (mOp dIx (mVar 6) (mOp dIx (mVar 7) (mC (.int 3)))) (mOp dIx (mVar 7) (mC (.int 4)))) (mCons (mCall 0 f_entry (mCons (mVar 0) (mCons (mVar 3) (mCons (mVar 7) mNil)))) mNil))))
 (mRet (mTup (mCons (mCB cTuple (mCons (mFz (mLc [11] (.nm 11) (mItS (mVar 6)) mTrue (mCB cTuple (mCons (mFz (mLc [14] (.nm 14) (mItS (mVar 11)) mTrue (mCB cTuple (mCons (mFz (mCF (cSortT 4 64) (mCons (mVar 14) mNil))) mNil)))) mNil)))) mNil)) (mCons (mVar 5) mNil))))))))))
def f_moved : List D → M D := mBody 19 b_moved
/-! first_outside -/
abbrev s_first_outside : Stmt := top 27
abbrev n_first_outside : List Str := ["cars", "waiting", "time", "road", "found", "car"]
theorem sc_first_outside : FnScope n_first_outside ["cars", "waiting", "time", "road"] (defScope s_first_outside) := ⟨rfl, rfl, rfl, by decide +kernel, rfl, by decide +kernel, by decide +kernel⟩
def b_first_outside : MS := (mSeq (mSet 4 (mC .non))
 (mSeq (mFor (.nm 5) (mItS (mVar 1)) (mIfS (mAnd (mB (mOp dEq (mOp dIx (mOp dIx (mOp dIx (mVar 0) (mVar 5)) (mC (.int 1))) (mC (.int 0))) (mVar 3))) (mB (mOp dLe (mOp dIx (mOp dIx (mVar 0) (mVar 5)) (mC (.int 0))) (mVar 2)))) (mIfS (mOr (mB (mOp dIs (mVar 4) (mC .non))) (mB (mOp dLt (mOp dIx (mOp dIx (mVar 0) (mVar 5)) (mC (.int 0))) (mOp dIx (mOp dIx (mVar 0) (mVar 4)) (mC (.int 0)))))) (mSet 4 (mVar 5)) mNext) mNext))
 (mRet (mVar 4))))
def f_first_outside : List D → M D := mBody 6 b_first_outside
/-! free_lane -/
abbrev s_free_lane : Stmt := top 28
abbrev n_free_lane : List Str := ["lanes", "lane", "rows"]
theorem sc_free_lane : FnScope n_free_lane ["lanes"] (defScope s_free_lane) := ⟨rfl, rfl, rfl, by decide +kernel, rfl, by decide +kernel, by decide +kernel⟩
def b_free_lane : MS := (mSeq (mFor (.tp [1, 2]) (mItE (mVar 0)) (mIfS (mOr (mNot (mTru (mVar 2))) (mB (mOp dGt (mOp dIx (mOp dIx (mVar 2) (mC (.int 0))) (mC (.int 0))) (mC (.int 0))))) (mRet (mVar 1)) mNext))
 (mRet (mC .non)))
def f_free_lane : List D → M D := mBody 3 b_free_lane
/-! entered -/
abbrev s_entered : Stmt := top 29
abbrev n_entered : List Str := ["net", "cars", "waiting", "time", "rows", "found", "road", "lanes", "car", "lane", "row"]
theorem sc_entered : FnScope n_entered ["net", "cars", "waiting", "time", "rows"] (defScope s_entered) := ⟨rfl, rfl, rfl, by decide +kernel, rfl, by decide +kernel, by decide +kernel⟩
def b_entered : MS := (mSeq (mSet 5 (mAd mNil))
 (mSeq (mFor (.tp [6, 7]) (mItE (mVar 4)) (mSeq (mSet 8 (mCall 0 f_first_outside (mCons (mVar 1) (mCons (mVar 2) (mCons (mVar 3) (mCons (mVar 6) mNil))))))
 (mSeq (mSet 9 (mCall 0 f_free_lane (mCons (mVar 7) mNil)))
 (mSeq (mIfS (mAnd (mB (mOp dIsNot (mVar 8) (mC .non))) (mB (mOp dIsNot (mVar 9) (mC .non)))) (mSeq (mSet 10 (mOp dAdd (mTup (mCons (mTup (mCons (mC (.int 0)) (mCons (mVar 8) (mCons (mC (.int 0)) (mCons (mC (.int 0)) mNil))))) mNil)) (mOp dIx (mVar 7) (mVar 9))))
 (mSet 7 (mOp dAdd (mOp dAdd (mSl (mVar 7) mNoPart (mPart (mVar 9))) (mTup (mCons (mVar 10) mNil))) (mSl (mVar 7) (mPart (mOp dAdd (mVar 9) (mC (.int 1)))) mNoPart)))) mNext)
 (mDrop (mMth lApp (mVar 5) (mCons (mVar 7) mNil)))))))
 (mRet (mCB cTuple (mCons (mVar 5) mNil)))))
def f_entered : List D → M D := mBody 11 b_entered
/-! step -/
abbrev s_step : Stmt := top 30
abbrev n_step : List Str := ["net", "cars", "state", "time", "arrived", "rows", "left", "car"]
theorem sc_step : FnScope n_step ["net", "cars", "state"] (defScope s_step) := ⟨rfl, rfl, rfl, by decide +kernel, rfl, by decide +kernel, by decide +kernel⟩
def b_step : MS := (mSeq (mSet 3 (mOp dIx (mVar 2) (mC (.int 0))))
 (mSeq (mAsg (.tp [5, 6]) (mCall 0 f_moved (mCons (mVar 0) (mCons (mVar 1) (mCons (mVar 3) (mCons (mCall 0 f_changed (mCons (mVar 0) (mCons (mVar 1) (mCons (mVar 2) mNil)))) mNil))))))
 (mSeq (mSet 4 (mCB cTuple (mCons (mFz (mCF (cSortT 2 2097152) (mCons (mOp dAdd (mFz (mCF cList (mCons (mOp dIx (mVar 2) (mC (.int 2))) mNil))) (mFz (mLc [7] (.nm 7) (mItS (mVar 6)) mTrue (mTup (mCons (mVar 7) (mCons (mOp dAdd (mVar 3) (mC (.int 1))) mNil)))))) mNil))) mNil)))
 (mRet (mTup (mCons (mOp dAdd (mVar 3) (mC (.int 1))) (mCons (mCall 0 f_entered (mCons (mVar 0) (mCons (mVar 1) (mCons (mCall 0 f_outside (mCons (mVar 1) (mCons (mVar 2) mNil))) (mCons (mVar 3) (mCons (mVar 5) mNil)))))) (mCons (mVar 4) mNil))))))))
def f_step : List D → M D := mBody 8 b_step
/-! beginning -/
abbrev s_beginning : Stmt := top 5
abbrev n_beginning : List Str := ["net", "road"]
theorem sc_beginning : FnScope n_beginning ["net"] (defScope s_beginning) := ⟨rfl, rfl, rfl, by decide +kernel, rfl, by decide +kernel, by decide +kernel⟩
def b_beginning : MS := (mRet (mTup (mCons (mC (.int 0)) (mCons (mCB cTuple (mCons (mFz (mLc [1] (.nm 1) (mItS (mOp dIx (mVar 0) (mC (.int 0)))) mTrue (mOp dMul (mTup (mCons (mTup mNil) mNil)) (mOp dIx (mVar 1) (mC (.int 0)))))) mNil)) (mCons (mTup mNil) mNil)))))
def f_beginning : List D → M D := mBody 2 b_beginning
/-! run -/
abbrev s_run : Stmt := top 31
abbrev n_run : List Str := ["net", "cars", "until", "found", "_"]
theorem sc_run : FnScope n_run ["net", "cars", "until"] (defScope s_run) := ⟨rfl, rfl, rfl, by decide +kernel, rfl, by decide +kernel, by decide +kernel⟩
def b_run : MS := (mSeq (mSet 3 (mAd (mCons (mCall 0 f_beginning (mCons (mVar 0) mNil)) mNil)))
 (mSeq (mFor (.nm 4) (mItR (mCons (mVar 2) mNil)) (mDrop (mMth lApp (mVar 3) (mCons (mCall 0 f_step (mCons (mVar 0) (mCons (mVar 1) (mCons (mOp dIx (mVar 3) (mNeg (mC (.int 1)))) mNil)))) mNil))))
 (mRet (mVar 3))))
def f_run : List D → M D := mOpen 5 b_run
/-! _law_stream -/
abbrev s__law_stream : Stmt := top 33
abbrev n__law_stream : List Str := ["_law_script", "_law_mixed", "_law_cell"]
theorem sc__law_stream : FnScope n__law_stream ["_law_script"] (defScope s__law_stream) := ⟨rfl, rfl, rfl, by decide +kernel, rfl, by decide +kernel, by decide +kernel⟩
def b__law_stream : MS := (mSeq (mSet 1 (mC (.int 17)))
 (mSeq (mFor (.nm 2) (mItS (mVar 0)) (mSet 1 (mOp dMod (mCB cInt (mCons (mOp dAdd (mOp dAdd (mOp dMul (mVar 1) (mC (.int 48271))) (mOp dMod (mCB cInt (mCons (mVar 2) mNil)) (mC (.int 65521)))) (mC (.int 1))) mNil)) (mC (.int 2147483647)))))
 (mRet (mAd (mCons (mAd (mCF cList (mCons (mVar 0) mNil))) (mCons (mC (.int 0)) (mCons (mC (.int 0)) (mCons (mVar 1) mNil))))))))
def f__law_stream : List D → M D := mOpen 3 b__law_stream
/-! _law_draw -/
abbrev s__law_draw : Stmt := top 34
abbrev n__law_draw : List Str := ["_law_stream_here", "_law_many", "_law_value"]
theorem sc__law_draw : FnScope n__law_draw ["_law_stream_here", "_law_many"] (defScope s__law_draw) := ⟨rfl, rfl, rfl, by decide +kernel, rfl, by decide +kernel, by decide +kernel⟩
def b__law_draw : MS := (mSeq (mIfS (mAnd (mB (mOp dEq (mOp dIx (mVar 0) (mC (.int 1))) (mC (.int 0)))) (mB (mOp dLt (mOp dIx (mVar 0) (mC (.int 2))) (mCB cLen (mCons (mOp dIx (mVar 0) (mC (.int 0))) mNil))))) (mSeq (mSetL (mVar 0) (mC (.int 1)) (mCB cAbs (mCons (mCB cInt (mCons (mOp dIx (mOp dIx (mVar 0) (mC (.int 0))) (mOp dIx (mVar 0) (mC (.int 2)))) mNil)) mNil)))
 (mSetL (mVar 0) (mC (.int 2)) (mOp dAdd (mOp dIx (mVar 0) (mC (.int 2))) (mC (.int 1))))) mNext)
 (mSeq (mIfS (mB (mOp dEq (mOp dIx (mVar 0) (mC (.int 1))) (mC (.int 0)))) (mSeq (mSetL (mVar 0) (mC (.int 3)) (mOp dMod (mCB cInt (mCons (mOp dAdd (mOp dMul (mOp dIx (mVar 0) (mC (.int 3))) (mC (.int 48271))) (mC (.int 11))) mNil)) (mC (.int 2147483647))))
 (mRet (mOp dMod (mCB cInt (mCons (mOp dDiv (mOp dIx (mVar 0) (mC (.int 3))) (mC (.int 97))) mNil)) (mVar 1)))) mNext)
 (mSeq (mSet 2 (mOp dMod (mCB cInt (mCons (mOp dIx (mVar 0) (mC (.int 1))) mNil)) (mVar 1)))
 (mSeq (mSetL (mVar 0) (mC (.int 1)) (mOp dDiv (mOp dIx (mVar 0) (mC (.int 1))) (mVar 1)))
 (mRet (mVar 2))))))
def f__law_draw : List D → M D := mBody 3 b__law_draw
/-! _law_some -/
abbrev s__law_some : Stmt := top 35
abbrev n__law_some : List Str := ["_law_stream_here", "_law_rows", "_law_row"]
theorem sc__law_some : FnScope n__law_some ["_law_stream_here", "_law_rows"] (defScope s__law_some) := ⟨rfl, rfl, rfl, by decide +kernel, rfl, by decide +kernel, by decide +kernel⟩
def b__law_some : MS := (mRet (mCB cTuple (mCons (mFz (mLc [2] (.nm 2) (mItS (mVar 1)) (mB (mOp dEq (mCall 2 f__law_draw (mCons (mVar 0) (mCons (mC (.int 2)) mNil))) (mC (.int 0)))) (mVar 2))) mNil)))
def f__law_some : List D → M D := mBody 3 b__law_some
/-! _law_rule -/
abbrev s__law_rule : Stmt := top 36
abbrev n__law_rule : List Str := ["_law_stream_here", "_law_closing", "_law_rows", "_law_at", "_law_phases", "_law_other", "_law_k"]
theorem sc__law_rule : FnScope n__law_rule ["_law_stream_here", "_law_closing"] (defScope s__law_rule) := ⟨rfl, rfl, rfl, by decide +kernel, rfl, by decide +kernel, by decide +kernel⟩
def b__law_rule : MS := (mSeq (mIfS (mB (mOp dEq (mCall 2 f__law_draw (mCons (mVar 0) (mCons (mC (.int 2)) mNil))) (mC (.int 0)))) (mSeq (mSet 4 (mFz (mLc [6] (.nm 6) (mItR (mCons (mOp dAdd (mC (.int 1)) (mCall 2 f__law_draw (mCons (mVar 0) (mCons (mC (.int 4)) mNil)))) mNil)) mTrue (mTup (mCons (mOp dAdd (mC (.int 1)) (mCall 2 f__law_draw (mCons (mVar 0) (mCons (mC (.int 9)) mNil)))) (mCons (mCall 2 f__law_some (mCons (mVar 0) (mCons (mVar 1) mNil))) mNil))))))
 (mRet (mTup (mCons (mC (.str (PySem.Str.ofString "lights"))) (mCons (mCB cTuple (mCons (mVar 4) mNil)) mNil))))) mNext)
 (mSeq (mSet 2 (mAd (mCF cList (mCons (mVar 1) mNil))))
 (mSeq (mFor (.nm 3) (mItR (mCons (mCB cLen (mCons (mVar 2) mNil)) mNil)) (mSeq (mSet 5 (mCall 2 f__law_draw (mCons (mVar 0) (mCons (mCB cLen (mCons (mVar 2) mNil)) mNil))))
 (mSwap (mVar 2) (mVar 3) (mVar 2) (mVar 5) (mTup (mCons (mOp dIx (mVar 2) (mVar 5)) (mCons (mOp dIx (mVar 2) (mVar 3)) mNil))))))
 (mRet (mTup (mCons (mC (.str (PySem.Str.ofString "order"))) (mCons (mCB cTupX (mCons (mVar 2) mNil)) mNil)))))))
def f__law_rule : List D → M D := mBody 7 b__law_rule
/-! _law_net -/
abbrev s__law_net : Stmt := top 37
abbrev n__law_net : List Str := ["_law_stream_here", "_law_many", "_law_count", "_law_roads", "_law_outs", "_law_road", "_law_crossings", "_law_at", "_law_cells", "_law_end", "_law_begin", "_law_closing", "_law_k"]
theorem sc__law_net : FnScope n__law_net ["_law_stream_here"] (defScope s__law_net) := ⟨rfl, rfl, rfl, by decide +kernel, rfl, by decide +kernel, by decide +kernel⟩
def b__law_net : MS := (mSeq (mSet 1 (mOp dAdd (mC (.int 1)) (mCall 2 f__law_draw (mCons (mVar 0) (mCons (mOp dIx (mFz (mCons (mC (.int 6)) (mCons (mC (.int 6)) (mCons (mC (.int 12)) mNil)))) (mCall 2 f__law_draw (mCons (mVar 0) (mCons (mC (.int 3)) mNil)))) mNil)))))
 (mSeq (mSet 2 (mCall 2 f__law_draw (mCons (mVar 0) (mCons (mOp dIx (mFz (mCons (mC (.int 4)) (mCons (mC (.int 9)) mNil))) (mCB cInt (mCons (mOp dEq (mCall 2 f__law_draw (mCons (mVar 0) (mCons (mC (.int 4)) mNil))) (mC (.int 0))) mNil))) mNil))))
 (mSeq (mSet 3 (mAd mNil))
 (mSeq (mSet 4 (mAd (mLc [12] (.nm 12) (mItR (mCons (mVar 2) mNil)) mTrue (mAd mNil))))
 (mSeq (mFor (.nm 5) (mItR (mCons (mVar 1) mNil)) (mSeq (mSet 8 (mOp dAdd (mC (.int 2)) (mCall 2 f__law_draw (mCons (mVar 0) (mCons (mOp dIx (mFz (mCons (mC (.int 5)) (mCons (mC (.int 5)) (mCons (mC (.int 19)) mNil)))) (mCall 2 f__law_draw (mCons (mVar 0) (mCons (mC (.int 3)) mNil)))) mNil)))))
 (mSeq (mSet 9 (mOp dSub (mCall 2 f__law_draw (mCons (mVar 0) (mCons (mOp dAdd (mVar 2) (mC (.int 1))) mNil))) (mC (.int 1))))
 (mSeq (mDrop (mMth lApp (mVar 3) (mCons (mTup (mCons (mOp dAdd (mC (.int 1)) (mCall 2 f__law_draw (mCons (mVar 0) (mCons (mC (.int 3)) mNil)))) (mCons (mVar 8) (mCons (mOp dAdd (mC (.int 1)) (mCall 2 f__law_draw (mCons (mVar 0) (mCons (mC (.int 5)) mNil)))) (mCons (mVar 9) mNil))))) mNil)))
 (mSeq (mSet 10 (mOp dSub (mCall 2 f__law_draw (mCons (mVar 0) (mCons (mOp dAdd (mVar 2) (mC (.int 1))) mNil))) (mC (.int 1))))
 (mIfS (mAnd (mB (mOp dGe (mVar 10) (mC (.int 0)))) (mB (mOp dLt (mCB cLen (mCons (mOp dIx (mVar 4) (mVar 10)) mNil)) (mC (.int 4))))) (mDrop (mMth lApp (mOp dIx (mVar 4) (mVar 10)) (mCons (mVar 5) mNil))) mNext))))))
 (mSeq (mSet 6 (mAd mNil))
 (mSeq (mFor (.nm 7) (mItR (mCons (mVar 2) mNil)) (mSeq (mSet 11 (mFz (mLc [5] (.nm 5) (mItR (mCons (mVar 1) mNil)) (mB (mOp dEq (mOp dIx (mOp dIx (mVar 3) (mVar 5)) (mC (.int 3))) (mVar 7))) (mVar 5))))
 (mDrop (mMth lApp (mVar 6) (mCons (mTup (mCons (mCall 2 f__law_rule (mCons (mVar 0) (mCons (mVar 11) mNil))) (mCons (mCB cTuple (mCons (mOp dIx (mVar 4) (mVar 7)) mNil)) mNil))) mNil)))))
 (mRet (mTup (mCons (mCB cTuple (mCons (mVar 3) mNil)) (mCons (mCB cTuple (mCons (mVar 6) mNil)) mNil)))))))))))
def f__law_net : List D → M D := mBody 13 b__law_net
/-! _law_way -/
abbrev s__law_way : Stmt := top 38
abbrev n__law_way : List Str := ["_law_stream_here", "_law_net_here", "_law_way_here", "_law_k", "_law_crossing"]
theorem sc__law_way : FnScope n__law_way ["_law_stream_here", "_law_net_here"] (defScope s__law_way) := ⟨rfl, rfl, rfl, by decide +kernel, rfl, by decide +kernel, by decide +kernel⟩
def b__law_way : MS := (mSeq (mSet 2 (mAd (mCons (mCall 2 f__law_draw (mCons (mVar 0) (mCons (mCB cLen (mCons (mOp dIx (mVar 1) (mC (.int 0))) mNil)) mNil))) mNil)))
 (mSeq (mFor (.nm 3) (mItR (mCons (mCall 2 f__law_draw (mCons (mVar 0) (mCons (mC (.int 6)) mNil))) mNil)) (mSeq (mSet 4 (mOp dIx (mOp dIx (mOp dIx (mVar 1) (mC (.int 0))) (mOp dIx (mVar 2) (mNeg (mC (.int 1))))) (mC (.int 3))))
 (mSeq (mIfS (mOr (mB (mOp dLt (mVar 4) (mC (.int 0)))) (mNot (mTru (mOp dIx (mOp dIx (mOp dIx (mVar 1) (mC (.int 1))) (mVar 4)) (mC (.int 1)))))) mBrk mNext)
 (mDrop (mMth lApp (mVar 2) (mCons (mOp dIx (mOp dIx (mOp dIx (mOp dIx (mVar 1) (mC (.int 1))) (mVar 4)) (mC (.int 1))) (mCall 2 f__law_draw (mCons (mVar 0) (mCons (mCB cLen (mCons (mOp dIx (mOp dIx (mOp dIx (mVar 1) (mC (.int 1))) (mVar 4)) (mC (.int 1))) mNil)) mNil)))) mNil))))))
 (mRet (mCB cTupX (mCons (mVar 2) mNil)))))
def f__law_way : List D → M D := mBody 5 b__law_way
/-! _law_cars -/
abbrev s__law_cars : Stmt := top 39
abbrev n__law_cars : List Str := ["_law_stream_here", "_law_net_here", "_law_rows", "_law_k"]
theorem sc__law_cars : FnScope n__law_cars ["_law_stream_here", "_law_net_here"] (defScope s__law_cars) := ⟨rfl, rfl, rfl, by decide +kernel, rfl, by decide +kernel, by decide +kernel⟩
def b__law_cars : MS := (mSeq (mSet 2 (mAd mNil))
 (mSeq (mFor (.nm 3) (mItR (mCons (mCall 2 f__law_draw (mCons (mVar 0) (mCons (mOp dIx (mFz (mCons (mC (.int 8)) (mCons (mC (.int 31)) mNil))) (mCall 2 f__law_draw (mCons (mVar 0) (mCons (mC (.int 2)) mNil)))) mNil))) mNil)) (mDrop (mMth lApp (mVar 2) (mCons (mTup (mCons (mCall 2 f__law_draw (mCons (mVar 0) (mCons (mOp dIx (mFz (mCons (mC (.int 4)) (mCons (mC (.int 51)) mNil))) (mCall 2 f__law_draw (mCons (mVar 0) (mCons (mC (.int 2)) mNil)))) mNil))) (mCons (mCall 2 f__law_way (mCons (mVar 0) (mCons (mVar 1) mNil))) mNil))) mNil))))
 (mRet (mCB cTuple (mCons (mVar 2) mNil)))))
def f__law_cars : List D → M D := mBody 4 b__law_cars
/-! _law_is_there -/
abbrev s__law_is_there : Stmt := top 40
abbrev n__law_is_there : List Str := ["_law_state_here", "_law_cars_here", "_law_car", "_law_road", "_law_cell", "_law_leg", "_law_lanes", "_law_lane", "_law_row", "_law_at"]
theorem sc__law_is_there : FnScope n__law_is_there ["_law_state_here", "_law_cars_here", "_law_car", "_law_road", "_law_cell"] (defScope s__law_is_there) := ⟨rfl, rfl, rfl, by decide +kernel, rfl, by decide +kernel, by decide +kernel⟩
def b__law_is_there : MS := (mSeq (mIfS (mB (mOp (dInS false) (mVar 2) (mFz (mLc [8] (.nm 8) (mItS (mOp dIx (mVar 0) (mC (.int 2)))) mTrue (mOp dIx (mVar 8) (mC (.int 0))))))) (mRet (mC (.bl true))) mNext)
 (mSeq (mSet 5 (mOp dIx (mFz (mLc [9] (.nm 9) (mItR (mCons (mCB cLen (mCons (mOp dIx (mOp dIx (mVar 1) (mVar 2)) (mC (.int 1))) mNil)) mNil)) (mB (mOp dEq (mOp dIx (mOp dIx (mOp dIx (mVar 1) (mVar 2)) (mC (.int 1))) (mVar 9)) (mVar 3))) (mVar 9))) (mC (.int 0))))
 (mSeq (mFor (.nm 6) (mItS (mOp dIx (mVar 0) (mC (.int 1)))) (mFor (.nm 7) (mItS (mVar 6)) (mFor (.nm 8) (mItS (mVar 7)) (mIfS (mB (mOp dEq (mOp dIx (mVar 8) (mC (.int 1))) (mVar 2))) (mRet (mOrV (mOp dGt (mOp dIx (mVar 8) (mC (.int 3))) (mVar 5)) (mAndV (mOp dEq (mOp dIx (mVar 8) (mC (.int 3))) (mVar 5)) (mOp dGe (mOp dIx (mVar 8) (mC (.int 0))) (mVar 4))))) mNext))))
 (mRet (mC (.bl false))))))
def f__law_is_there : List D → M D := mBody 10 b__law_is_there
/-! _law_due -/
abbrev s__law_due : Stmt := top 41
abbrev n__law_due : List Str := ["_law_cars_here", "_law_states", "_law_road", "_law_cell", "_law_found", "_law_at", "_law_car"]
theorem sc__law_due : FnScope n__law_due ["_law_cars_here", "_law_states", "_law_road", "_law_cell"] (defScope s__law_due) := ⟨rfl, rfl, rfl, by decide +kernel, rfl, by decide +kernel, by decide +kernel⟩
def b__law_due : MS := (mSeq (mSet 4 (mAd mNil))
 (mSeq (mFor (.nm 5) (mItR (mCons (mC (.int 1)) (mCons (mCB cLen (mCons (mVar 1) mNil)) mNil))) (mFor (.nm 6) (mItR (mCons (mCB cLen (mCons (mVar 0) mNil)) mNil)) (mIfS (mAnd (mB (mOp (dInS false) (mVar 2) (mOp dIx (mOp dIx (mVar 0) (mVar 6)) (mC (.int 1))))) (mTru (mCall 0 f__law_is_there (mCons (mOp dIx (mVar 1) (mVar 5)) (mCons (mVar 0) (mCons (mVar 6) (mCons (mVar 2) (mCons (mVar 3) mNil)))))))) (mIfS (mNot (mTru (mCall 0 f__law_is_there (mCons (mOp dIx (mVar 1) (mOp dSub (mVar 5) (mC (.int 1)))) (mCons (mVar 0) (mCons (mVar 6) (mCons (mVar 2) (mCons (mVar 3) mNil)))))))) (mDrop (mMth lApp (mVar 4) (mCons (mTup (mCons (mOp dIx (mOp dIx (mVar 1) (mVar 5)) (mC (.int 0))) (mCons (mVar 6) mNil))) mNil))) mNext) mNext)))
 (mRet (mVar 4))))
def f__law_due : List D → M D := mOpen 7 b__law_due
/-! _law_state -/
abbrev s__law_state : Stmt := top 42
abbrev n__law_state : List Str := ["_law_stream_here", "_law_net_here", "_law_cars_here", "_law_time", "_law_rows", "_law_arrived", "_law_car", "_law_found", "_law_road", "_law_way_here", "_law_pick", "_law_lane", "_law_leg", "_law_cell"]
theorem sc__law_state : FnScope n__law_state ["_law_stream_here", "_law_net_here", "_law_cars_here"] (defScope s__law_state) := ⟨rfl, rfl, rfl, by decide +kernel, rfl, by decide +kernel, by decide +kernel⟩
def b__law_state : MS := (mSeq (mSet 3 (mCall 2 f__law_draw (mCons (mVar 0) (mCons (mOp dIx (mFz (mCons (mC (.int 9)) (mCons (mC (.int 100)) mNil))) (mCall 2 f__law_draw (mCons (mVar 0) (mCons (mC (.int 2)) mNil)))) mNil))))
 (mSeq (mSet 4 (mFz (mLc [8] (.nm 8) (mItS (mOp dIx (mVar 1) (mC (.int 0)))) mTrue (mFz (mLc [11] (.nm 11) (mItR (mCons (mOp dIx (mVar 8) (mC (.int 0))) mNil)) mTrue mNewK)))))
 (mSeq (mSet 5 (mAd mNil))
 (mSeq (mFor (.nm 6) (mItR (mCons (mCB cLen (mCons (mVar 2) mNil)) mNil)) (mSeq (mSet 9 (mOp dIx (mOp dIx (mVar 2) (mVar 6)) (mC (.int 1))))
 (mSeq (mSet 10 (mCall 2 f__law_draw (mCons (mVar 0) (mCons (mC (.int 6)) mNil))))
 (mIfS (mB (mOp dEq (mVar 10) (mC (.int 0)))) (mDrop (mMth lApp (mVar 5) (mCons (mTup (mCons (mVar 6) (mCons (mCall 2 f__law_draw (mCons (mVar 0) (mCons (mOp dAdd (mVar 3) (mC (.int 1))) mNil))) mNil))) mNil))) (mIfS (mB (mOp dLt (mVar 10) (mC (.int 5)))) (mSeq (mSet 12 (mCall 2 f__law_draw (mCons (mVar 0) (mCons (mCB cLen (mCons (mVar 9) mNil)) mNil))))
 (mSeq (mSet 8 (mOp dIx (mVar 9) (mVar 12)))
 (mSeq (mSet 11 (mOp dIx (mOp dIx (mVar 4) (mVar 8)) (mCall 2 f__law_draw (mCons (mVar 0) (mCons (mOp dIx (mOp dIx (mOp dIx (mVar 1) (mC (.int 0))) (mVar 8)) (mC (.int 0))) mNil)))))
 (mSeq (mSet 13 (mCall 2 f__law_draw (mCons (mVar 0) (mCons (mOp dIx (mOp dIx (mOp dIx (mVar 1) (mC (.int 0))) (mVar 8)) (mC (.int 1))) mNil))))
 (mIfS (mB (mDIn true (mVar 13) (mVar 11))) (mSetD (mVar 11) (mVar 13) (mTup (mCons (mVar 13) (mCons (mVar 6) (mCons (mCall 2 f__law_draw (mCons (mVar 0) (mCons (mC (.int 6)) mNil))) (mCons (mVar 12) mNil)))))) mNext))))) mNext)))))
 (mSeq (mSet 7 (mAd mNil))
 (mSeq (mFor (.nm 8) (mItS (mVar 4)) (mDrop (mMth lApp (mVar 7) (mCons (mCB cTuple (mCons (mFz (mLc [11] (.nm 11) (mItS (mVar 8)) mTrue (mCB cTuple (mCons (mFz (mLc [13] (.nm 13) (mItS (mFz (mCF cSortD (mCons (mVar 11) mNil)))) mTrue (mDGet (mVar 11) (mVar 13)))) mNil)))) mNil)) mNil))))
 (mRet (mTup (mCons (mVar 3) (mCons (mCB cTuple (mCons (mVar 7) mNil)) (mCons (mCB cTuple (mCons (mVar 5) mNil)) mNil)))))))))))
def f__law_state : List D → M D := mBody 14 b__law_state
/-! _law_alike -/
abbrev s__law_alike : Stmt := top 43
abbrev n__law_alike : List Str := ["_law_a", "_law_b", "_law_k"]
theorem sc__law_alike : FnScope n__law_alike ["_law_a", "_law_b"] (defScope s__law_alike) := ⟨rfl, rfl, rfl, by decide +kernel, rfl, by decide +kernel, by decide +kernel⟩
def b__law_alike (again : List D → M D) : MS := (mSeq (mIfS (mTru (mIsi2 "tuple" "list" (mVar 1))) (mSeq (mIfS (mOr (mB (mOp dNe (mIsi "tuple" (mVar 0)) (mIsi "tuple" (mVar 1)))) (mOr (mNot (mTru (mIsi2 "tuple" "list" (mVar 0)))) (mB (mOp dNe (mCB cLen (mCons (mVar 0) mNil)) (mCB cLen (mCons (mVar 1) mNil)))))) (mRet (mC (.bl false))) mNext)
 (mRet (mCB cAll (mCons (mFz (mLc [2] (.nm 2) (mItR (mCons (mCB cLen (mCons (mVar 1) mNil)) mNil)) mTrue (mCall 0 again (mCons (mOp dIx (mVar 0) (mVar 2)) (mCons (mOp dIx (mVar 1) (mVar 2)) mNil))))) mNil)))) mNext)
 (mRet (mAndV (mOp dEq (mVar 0) (mVar 1)) (mAndV (mOp dEq (mIsi "bool" (mVar 0)) (mIsi "bool" (mVar 1))) (mOp dEq (mIsi "int" (mVar 0)) (mIsi "int" (mVar 1)))))))
def f__law_alike : Nat → List D → M D
  | 0 => fun _ _ => none
  | n + 1 => mBody 3 (b__law_alike (f__law_alike n))
/-! law -/
abbrev s_law : Stmt := top 44
abbrev n_law : List Str := ["_law_script", "_law_stream_here", "_law_net_here", "_law_cars_here", "_law_states", "_law_pick", "_law_kept", "_law_k", "_law_road", "_law_cell", "_law_actual", "_law_first", "_law_time", "_law_car", "_law_row"]
theorem sc_law : FnScope n_law ["_law_script"] (defScope s_law) := ⟨rfl, rfl, rfl, by decide +kernel, rfl, by decide +kernel, by decide +kernel⟩
def b_law : MS := (mSeq (mSet 1 (mCallG f__law_stream (mCons (mVar 0) mNil)))
 (mSeq (mSet 2 (mCall 2 f__law_net (mCons (mVar 1) mNil)))
 (mSeq (mSet 3 (mCall 2 f__law_cars (mCons (mVar 1) (mCons (mVar 2) mNil))))
 (mSeq (mSet 4 (mCallG f_run (mCons (mVar 2) (mCons (mVar 3) (mCons (mCall 2 f__law_draw (mCons (mVar 1) (mCons (mOp dIx (mFz (mCons (mC (.int 20)) (mCons (mC (.int 61)) mNil))) (mCall 2 f__law_draw (mCons (mVar 1) (mCons (mC (.int 2)) mNil)))) mNil))) mNil)))))
 (mSeq (mSet 5 (mCall 2 f__law_draw (mCons (mVar 1) (mCons (mC (.int 4)) mNil))))
 (mSeq (mIfS (mB (mOp dEq (mVar 5) (mC (.int 0)))) (mSet 4 (mSl (mVar 4) (mPart (mCall 2 f__law_draw (mCons (mVar 1) (mCons (mCB cLen (mCons (mVar 4) mNil)) mNil)))) mNoPart)) mNext)
 (mSeq (mIfS (mB (mOp dEq (mVar 5) (mC (.int 1)))) (mSeq (mSet 4 (mAd (mCons (mCall 2 f__law_state (mCons (mVar 1) (mCons (mVar 2) (mCons (mVar 3) mNil)))) mNil)))
 (mFor (.nm 7) (mItR (mCons (mCall 2 f__law_draw (mCons (mVar 1) (mCons (mC (.int 20)) mNil))) mNil)) (mDrop (mMth lApp (mVar 4) (mCons (mCall 0 f_step (mCons (mVar 2) (mCons (mVar 3) (mCons (mOp dIx (mVar 4) (mNeg (mC (.int 1)))) mNil)))) mNil))))) mNext)
 (mSeq (mSet 6 (mFz (mCF cList (mCons (mVar 4) mNil))))
 (mSeq (mIfS (mB (mOp dNe (mCallG f_passed (mCons (mVar 2) (mCons (mVar 3) (mCons (mFz mNil) (mCons (mC (.int 0)) (mCons (mC (.int 0)) mNil)))))) (mFz mNil))) (mRet (mC (.bl false))) mNext)
 (mSeq (mFor (.nm 7) (mItR (mCons (mC (.int 3)) mNil)) (mSeq (mSet 8 (mCall 2 f__law_draw (mCons (mVar 1) (mCons (mCB cLen (mCons (mOp dIx (mVar 2) (mC (.int 0))) mNil)) mNil))))
 (mSeq (mSet 9 (mCall 2 f__law_draw (mCons (mVar 1) (mCons (mOp dIx (mOp dIx (mOp dIx (mVar 2) (mC (.int 0))) (mVar 8)) (mC (.int 1))) mNil))))
 (mSeq (mSet 10 (mCallG f_passed (mCons (mVar 2) (mCons (mVar 3) (mCons (mVar 4) (mCons (mVar 8) (mCons (mVar 9) mNil)))))))
 (mSeq (mIfS (mOr (mNot (mTru (mCall 0 (f__law_alike 4) (mCons (mVar 10) (mCons (mCallG f__law_due (mCons (mVar 3) (mCons (mVar 4) (mCons (mVar 8) (mCons (mVar 9) mNil))))) mNil))))) (mB (mOp dNe (mVar 4) (mVar 6)))) (mRet (mC (.bl false))) mNext)
 (mSeq (mIfS (mTru (mCB cAny (mCons (mFz (mLc [13] (.nm 13) (mItR (mCons (mCB cLen (mCons (mVar 3) mNil)) mNil)) mTrue (mOp dGt (mMth lCnt (mFz (mLc [14] (.nm 14) (mItS (mVar 10)) mTrue (mOp dIx (mVar 14) (mC (.int 1))))) (mCons (mVar 13) mNil)) (mC (.int 1))))) mNil))) (mRet (mC (.bl false))) mNext)
 (mSeq (mSet 11 mNewK)
 (mSeq (mFor (.tp [12, 13]) (mItS (mVar 10)) (mSetD (mVar 11) (mVar 13) (mVar 12)))
 (mSeq (mFor (.tp [12, 13]) (mItS (mCallG f_passed (mCons (mVar 2) (mCons (mVar 3) (mCons (mVar 4) (mCons (mVar 8) (mCons (mOp dSub (mOp dIx (mOp dIx (mOp dIx (mVar 2) (mC (.int 0))) (mVar 8)) (mC (.int 1))) (mC (.int 1))) mNil))))))) (mIfS (mAnd (mB (mOp dGt (mVar 5) (mC (.int 1)))) (mOr (mB (mDIn true (mVar 13) (mVar 11))) (mB (mOp dGt (mDGet (mVar 11) (mVar 13)) (mVar 12))))) (mRet (mC (.bl false))) mNext))
 (mSeq (mDrop (mMth lApp (mVar 10) (mCons (mC (.int 99)) mNil)))
 (mIfS (mOr (mB (mOp dNe (mCallG f_passed (mCons (mVar 2) (mCons (mVar 3) (mCons (mVar 4) (mCons (mVar 8) (mCons (mVar 9) mNil)))))) (mCallG f__law_due (mCons (mVar 3) (mCons (mVar 4) (mCons (mVar 8) (mCons (mVar 9) mNil))))))) (mB (mOp dNe (mSl (mVar 10) (mPart (mNeg (mC (.int 1)))) mNoPart) (mFz (mCons (mC (.int 99)) mNil))))) (mRet (mC (.bl false))) mNext)))))))))))
 (mRet (mC (.bl true)))))))))))))
def f_law : List D → M D := mOpen 15 b_law
structure Txt (mg : Str → Option Value) : Prop where
  n_abs : mg "abs" = none
  n_all : mg "all" = none
  n_any : mg "any" = none
  n_bool : mg "bool" = none
  n_enumerate : mg "enumerate" = none
  n_int : mg "int" = none
  n_isinstance : mg "isinstance" = none
  n_len : mg "len" = none
  n_list : mg "list" = none
  n_min : mg "min" = none
  n_range : mg "range" = none
  n_sorted : mg "sorted" = none
  n_sum : mg "sum" = none
  n_tuple : mg "tuple" = none
section
variable {P : Program} {w : World} {K : PySem.W.Frag} {mg : Str → Option Value} {base : Heap}
theorem ok_legs {f : Addr} {fd : FuncData} (F : L2.Fun K "legs" "legs" s_legs f fd) (T : Txt mg) : FnOk P w K mg base CX0 1 f fd ["state"] (spG K 1 f_legs) :=
  fn_G F sc_legs (fun cdv A outer s H E hr =>
 (sb_one (ss_ret (sn_dc3 (own := [("road", 1), ("lane", 2), ("row", 3)]) [2, 3] [3] rfl sc_legs.nd (si_seq (sn_ix b_ix r_ix (sn_var 0 (pv 0)) (sn_c pe_int rfl) (fun _ _ => rfl))) (blkOk_by (own := [("road", 1), ("lane", 2), ("row", 3)]) (N := n_legs) (sc := defScope s_legs) (by decide +kernel)) (by decide) (by decide) (fun _ _ _ _ _ => (sg_name (pg_name (i := 1) sc_legs.nd rfl (by first | exact Or.inl rfl | exact Or.inr rfl)))) (fun _ _ _ _ _ => pts_true) (fun _ _ _ _ _ => (si_seq (sn_var 1 (pv 1)))) (fun _ _ _ _ _ => (sg_name (pg_name (i := 2) sc_legs.nd rfl (by first | exact Or.inl rfl | exact Or.inr rfl)))) (fun _ _ _ _ _ => pts_true) (fun _ _ _ _ _ => (si_seq (sn_var 2 (pv 2)))) (fun _ _ _ _ _ => (sg_name (pg_name (i := 3) sc_legs.nd rfl (by first | exact Or.inl rfl | exact Or.inr rfl)))) (fun _ _ _ _ _ => pts_true) (fun _ _ _ _ _ => (sn_ix b_ix r_ix (sn_var 3 (pv 3)) (sn_c pe_int rfl) (fun _ _ => rfl))) (fun _ _ _ _ _ => (sn_tup (sa_cons (sn_ix b_ix r_ix (sn_var 3 (pv 3)) (sn_c pe_int rfl) (fun _ _ => rfl)) (sa_cons (sn_ix b_ix r_ix (sn_var 3 (pv 3)) (sn_c pe_int rfl) (fun _ _ => rfl)) sa_nil)))) (by decide) (by decide) (by decide)))))
theorem ok_is_past {f : Addr} {fd : FuncData} (F : L2.Fun K "is_past" "is_past" s_is_past f fd) (T : Txt mg) (c_legs : Cal P w K mg base 1 "legs" (spG K 1 f_legs)) : FnOk P w K mg base CX0 2 f fd ["state", "car", "leg", "cell"] (spF K 4 f_is_past) :=
  fn_F F sc_is_past (fun cdv A outer s H E hr =>
 (sb_cons (ss_set (i := 4) sc_is_past.nd rfl (by first | exact Or.inl rfl | exact Or.inr rfl) (sn_dget1 (hu_of hr) (sn_callG c_legs hr (by decide) (by rfl) (sa_cons (sn_var 0 (pv 0)) sa_nil)) (sn_var 1 (pv 1)) ⟨rfl, rfl, rfl, rfl⟩))
 (sb_cons (ss_if (st_cmp op_isN r_is (sn_var 4 (pv 4)) (sn_c pe_non rfl) (nomark _)) (sb_one (ss_ret (sn_cmp op_in_seq (r_inS (neg := false)) (sn_var 1 (pv 1)) (sn_fz (sn_lc (own := [("row", 5)]) rfl sc_is_past.nd (si_seq (sn_ix b_ix r_ix (sn_var 0 (pv 0)) (sn_c pe_int rfl) (fun _ _ => rfl))) (blkOk_by (own := [("row", 5)]) (N := n_is_past) (sc := defScope s_is_past) (by decide +kernel)) (fun _ _ _ _ _ => (sg_name (pg_name (i := 5) sc_is_past.nd rfl (by first | exact Or.inl rfl | exact Or.inr rfl)))) (fun _ _ _ _ _ => pts_true) (fun _ _ _ _ _ => (sn_ix b_ix r_ix (sn_var 5 (pv 5)) (sn_c pe_int rfl) (fun _ _ => rfl))) (by decide))) rfl))) sb_nil)
 (sb_one (ss_ret (sn_cmp (op_geT (hu0 hr)) r_geT (sn_var 4 (pv 4)) (sn_tup (sa_cons (sn_var 2 (pv 2)) (sa_cons (sn_var 3 (pv 3)) sa_nil))) (nomark _)))))))
theorem ok_passed {f : Addr} {fd : FuncData} (F : L2.Fun K "passed" "passed" s_passed f fd) (T : Txt mg) (c_is_past : Cal P w K mg base 2 "is_past" (spF K 4 f_is_past)) : FnOk P w K mg base CX0 3 f fd ["net", "cars", "states", "road", "cell"] (spG K 5 f_passed) :=
  fn_G F sc_passed (fun cdv A outer s H E hr =>
 (sb_cons (ss_set (i := 5) sc_passed.nd rfl (by first | exact Or.inl rfl | exact Or.inr rfl) (sn_ad (sn_lst sa_nil)))
 (sb_cons (ss_for PassesOwn.never rfl (si_rng2 (by rfl) T.n_range (sa_cons (sn_c pe_int rfl) (sa_cons (sn_cb c_len (pe_callB call_len_seq (by rfl) T.n_len (by decide +kernel) (sa_cons (sn_var 2 (pv 2)) sa_nil).run)) sa_nil)) (pi_range2 (by rfl) T.n_range (sa_cons (sn_c pe_int rfl) (sa_cons (sn_cb c_len (pe_callB call_len_seq (by rfl) T.n_len (by decide +kernel) (sa_cons (sn_var 2 (pv 2)) sa_nil).run)) sa_nil)).run)) (sg_name (pg_name (i := 6) sc_passed.nd rfl (by first | exact Or.inl rfl | exact Or.inr rfl))) (sb_one (ss_for PassesOwn.never rfl (si_enum (by rfl) T.n_enumerate (sn_var 1 (pv 1))) (sg_tup rfl (sgs_cons (pg_name (i := 7) sc_passed.nd rfl (by first | exact Or.inl rfl | exact Or.inr rfl)) (sgs_cons (pg_name (i := 8) sc_passed.nd rfl (by first | exact Or.inl rfl | exact Or.inr rfl)) sgs_nil))) (sb_one (ss_if (st_cmp op_in_seq (r_inS (neg := false)) (sn_var 3 (pv 3)) (sn_ix b_ix r_ix (sn_var 8 (pv 8)) (sn_c pe_int rfl) (fun _ _ => rfl)) rfl) (sb_cons (ss_set (i := 9) sc_passed.nd rfl (by first | exact Or.inl rfl | exact Or.inr rfl) (sn_tix (sn_ix b_ix r_ix (sn_var 8 (pv 8)) (sn_c pe_int rfl) (fun _ _ => rfl)) (sn_var 3 (pv 3)) (pe_bmX PySem.F.plainAttrs_tuple PySem.F.slot_tuple_index PySem.F.type_tuple_index mt_tix (sn_ix b_ix r_ix (sn_var 8 (pv 8)) (sn_c pe_int rfl) (fun _ _ => rfl)) (sa_cons (sn_var 3 (pv 3)) sa_nil).run)))
 (sb_one (ss_if (st_w (sw_and (st_tru (sn_call c_is_past hr (by decide) (by rfl) (sa_cons (sn_ix b_ix r_ix (sn_var 2 (pv 2)) (sn_var 6 (pv 6)) (fun _ _ => rfl)) (sa_cons (sn_var 7 (pv 7)) (sa_cons (sn_var 9 (pv 9)) (sa_cons (sn_var 4 (pv 4)) sa_nil)))) 0)) (sw_and1 (st_not (st_tru (sn_call c_is_past hr (by decide) (by rfl) (sa_cons (sn_ix b_ix r_ix (sn_var 2 (pv 2)) (sn_bin op_sub r_sub (sn_var 6 (pv 6)) (sn_c pe_int rfl)) (fun _ _ => rfl)) (sa_cons (sn_var 7 (pv 7)) (sa_cons (sn_var 9 (pv 9)) (sa_cons (sn_var 4 (pv 4)) sa_nil)))) 0)))))) (sb_one (ss_expr (sn_mth l_app (pe_bm PySem.F.plainAttrs_list PySem.F.slot_list_append PySem.F.type_list_append mt_append (sn_var 5 (pv 5)) (sa_cons (sn_tup (sa_cons (sn_ix b_ix r_ix (sn_ix b_ix r_ix (sn_var 2 (pv 2)) (sn_var 6 (pv 6)) (fun _ _ => rfl)) (sn_c pe_int rfl) (fun _ _ => rfl)) (sa_cons (sn_var 7 (pv 7)) sa_nil))) sa_nil).run)))) sb_nil))) sb_nil)))))
 (sb_one (ss_ret (sn_var 5 (pv 5)))))))
theorem ok_all_cars {f : Addr} {fd : FuncData} (F : L2.Fun K "all_cars" "all_cars" s_all_cars f fd) (T : Txt mg) : FnOk P w K mg base CX0 1 f fd ["state"] (spF K 1 f_all_cars) :=
  fn_F F sc_all_cars (fun cdv A outer s H E hr =>
 (sb_one (ss_ret (sn_fz (sn_lc3 (own := [("road", 1), ("lane", 2), ("row", 3)]) [2, 3] [3] rfl sc_all_cars.nd (si_seq (sn_ix b_ix r_ix (sn_var 0 (pv 0)) (sn_c pe_int rfl) (fun _ _ => rfl))) (blkOk_by (own := [("road", 1), ("lane", 2), ("row", 3)]) (N := n_all_cars) (sc := defScope s_all_cars) (by decide +kernel)) (by decide) (by decide) (fun _ _ _ _ _ => (sg_name (pg_name (i := 1) sc_all_cars.nd rfl (by first | exact Or.inl rfl | exact Or.inr rfl)))) (fun _ _ _ _ _ => pts_true) (fun _ _ _ _ _ => (si_seq (sn_var 1 (pv 1)))) (fun _ _ _ _ _ => (sg_name (pg_name (i := 2) sc_all_cars.nd rfl (by first | exact Or.inl rfl | exact Or.inr rfl)))) (fun _ _ _ _ _ => pts_true) (fun _ _ _ _ _ => (si_seq (sn_var 2 (pv 2)))) (fun _ _ _ _ _ => (sg_name (pg_name (i := 3) sc_all_cars.nd rfl (by first | exact Or.inl rfl | exact Or.inr rfl)))) (fun _ _ _ _ _ => pts_true) (fun _ _ _ _ _ => (sn_ix b_ix r_ix (sn_var 3 (pv 3)) (sn_c pe_int rfl) (fun _ _ => rfl))) (by decide) (by decide) (by decide))))))
theorem ok_outside {f : Addr} {fd : FuncData} (F : L2.Fun K "outside" "outside" s_outside f fd) (T : Txt mg) (c_all_cars : Cal P w K mg base 1 "all_cars" (spF K 1 f_all_cars)) : FnOk P w K mg base CX0 2 f fd ["cars", "state"] (spF K 2 f_outside) :=
  fn_F F sc_outside (fun cdv A outer s H E hr =>
 (sb_cons (ss_set (i := 2) sc_outside.nd rfl (by first | exact Or.inl rfl | exact Or.inr rfl) (sn_bin b_add r_add (sn_call c_all_cars hr (by decide) (by rfl) (sa_cons (sn_var 1 (pv 1)) sa_nil) 0) (sn_fz (sn_lc (own := [("row", 4)]) rfl sc_outside.nd (si_seq (sn_ix b_ix r_ix (sn_var 1 (pv 1)) (sn_c pe_int rfl) (fun _ _ => rfl))) (blkOk_by (own := [("row", 4)]) (N := n_outside) (sc := defScope s_outside) (by decide +kernel)) (fun _ _ _ _ _ => (sg_name (pg_name (i := 4) sc_outside.nd rfl (by first | exact Or.inl rfl | exact Or.inr rfl)))) (fun _ _ _ _ _ => pts_true) (fun _ _ _ _ _ => (sn_ix b_ix r_ix (sn_var 4 (pv 4)) (sn_c pe_int rfl) (fun _ _ => rfl))) (by decide)))))
 (sb_one (ss_ret (sn_fz (sn_lc (own := [("car", 3)]) rfl sc_outside.nd (si_rng1 (by rfl) T.n_range (sa_cons (sn_cb c_len (pe_callB call_len_seq (by rfl) T.n_len (by decide +kernel) (sa_cons (sn_var 0 (pv 0)) sa_nil).run)) sa_nil) (pi_range1 (by rfl) T.n_range (sa_cons (sn_cb c_len (pe_callB call_len_seq (by rfl) T.n_len (by decide +kernel) (sa_cons (sn_var 0 (pv 0)) sa_nil).run)) sa_nil).run)) (blkOk_by (own := [("car", 3)]) (N := n_outside) (sc := defScope s_outside) (by decide +kernel)) (fun _ _ _ _ _ => (sg_name (pg_name (i := 3) sc_outside.nd rfl (by first | exact Or.inl rfl | exact Or.inr rfl)))) (fun _ _ _ _ _ => (pts_test (st_cmp op_notIn_seq (r_inS (neg := true)) (sn_var 3 (pv 3)) (sn_var 2 (pv 2)) rfl))) (fun _ _ _ _ _ => (sn_var 3 (pv 3))) (by decide)))))))
theorem ok_room_in {f : Addr} {fd : FuncData} (F : L2.Fun K "room_in" "room_in" s_room_in f fd) (T : Txt mg) : FnOk P w K mg base CX0 1 f fd ["rows", "at", "cells"] (spF K 3 f_room_in) :=
  fn_F F sc_room_in (fun cdv A outer s H E hr =>
 (sb_cons (ss_if (st_cmp op_lt r_lt (sn_bin b_add r_add (sn_var 1 (pv 1)) (sn_c pe_int rfl)) (sn_cb c_len (pe_callB call_len_seq (by rfl) T.n_len (by decide +kernel) (sa_cons (sn_var 0 (pv 0)) sa_nil).run)) (nomark _)) (sb_one (ss_ret (sn_bin op_sub r_sub (sn_bin op_sub r_sub (sn_ix b_ix r_ix (sn_ix b_ix r_ix (sn_var 0 (pv 0)) (sn_bin b_add r_add (sn_var 1 (pv 1)) (sn_c pe_int rfl)) (fun _ _ => rfl)) (sn_c pe_int rfl) (fun _ _ => rfl)) (sn_ix b_ix r_ix (sn_ix b_ix r_ix (sn_var 0 (pv 0)) (sn_var 1 (pv 1)) (fun _ _ => rfl)) (sn_c pe_int rfl) (fun _ _ => rfl))) (sn_c pe_int rfl)))) sb_nil)
 (sb_one (ss_ret (sn_bin op_sub r_sub (sn_bin op_sub r_sub (sn_var 2 (pv 2)) (sn_c pe_int rfl)) (sn_ix b_ix r_ix (sn_ix b_ix r_ix (sn_var 0 (pv 0)) (sn_var 1 (pv 1)) (fun _ _ => rfl)) (sn_c pe_int rfl) (fun _ _ => rfl)))))))
theorem ok_wanted {f : Addr} {fd : FuncData} (F : L2.Fun K "wanted" "wanted" s_wanted f fd) (T : Txt mg) : FnOk P w K mg base CX0 1 f fd ["net", "road", "row"] (spF K 3 f_wanted) :=
  fn_F F sc_wanted (fun cdv A outer s H E hr =>
 (sb_one (ss_ret (sn_cb c_2I (pe_callB (call_min2 rfl) (by rfl) T.n_min (by decide +kernel) (sa_cons (sn_bin b_add r_add (sn_ix b_ix r_ix (sn_var 2 (pv 2)) (sn_c pe_int rfl) (fun _ _ => rfl)) (sn_c pe_int rfl)) (sa_cons (sn_ix b_ix r_ix (sn_ix b_ix r_ix (sn_ix b_ix r_ix (sn_var 0 (pv 0)) (sn_c pe_int rfl) (fun _ _ => rfl)) (sn_var 1 (pv 1)) (fun _ _ => rfl)) (sn_c pe_int rfl) (fun _ _ => rfl)) sa_nil)).run)))))
theorem ok_gap_at {f : Addr} {fd : FuncData} (F : L2.Fun K "gap_at" "gap_at" s_gap_at f fd) (T : Txt mg) : FnOk P w K mg base CX0 1 f fd ["rows", "cell", "cells"] (spF K 3 f_gap_at) :=
  fn_F F sc_gap_at (fun cdv A outer s H E hr =>
 (sb_cons (ss_set (i := 3) sc_gap_at.nd rfl (by first | exact Or.inl rfl | exact Or.inr rfl) (sn_var 2 (pv 2)))
 (sb_cons (ss_set (i := 4) sc_gap_at.nd rfl (by first | exact Or.inl rfl | exact Or.inr rfl) (sn_c pe_non rfl))
 (sb_cons (ss_for PassesOwn.never rfl (si_seq (sn_var 0 (pv 0))) (sg_name (pg_name (i := 5) sc_gap_at.nd rfl (by first | exact Or.inl rfl | exact Or.inr rfl))) (sb_cons (ss_if (st_cmp (op_eqD hr.units) r_eq (sn_ix b_ix r_ix (sn_var 5 (pv 5)) (sn_c pe_int rfl) (fun _ _ => rfl)) (sn_var 1 (pv 1)) (nomark _)) (sb_one (ss_ret (sn_tup (sa_cons (sn_c pe_bl rfl) (sa_cons (sn_c pe_int rfl) (sa_cons (sn_c pe_non rfl) sa_nil)))))) sb_nil)
 (sb_one (ss_if (st_cmp op_lt r_lt (sn_ix b_ix r_ix (sn_var 5 (pv 5)) (sn_c pe_int rfl) (fun _ _ => rfl)) (sn_var 1 (pv 1)) (nomark _)) (sb_one (ss_set (i := 4) sc_gap_at.nd rfl (by first | exact Or.inl rfl | exact Or.inr rfl) (sn_var 5 (pv 5)))) (sb_one (ss_if (st_cmp op_lt r_lt (sn_ix b_ix r_ix (sn_var 5 (pv 5)) (sn_c pe_int rfl) (fun _ _ => rfl)) (sn_var 3 (pv 3)) (nomark _)) (sb_one (ss_set (i := 3) sc_gap_at.nd rfl (by first | exact Or.inl rfl | exact Or.inr rfl) (sn_ix b_ix r_ix (sn_var 5 (pv 5)) (sn_c pe_int rfl) (fun _ _ => rfl)))) sb_nil))))))
 (sb_one (ss_ret (sn_tup (sa_cons (sn_c pe_bl rfl) (sa_cons (sn_bin op_sub r_sub (sn_bin op_sub r_sub (sn_var 3 (pv 3)) (sn_var 1 (pv 1))) (sn_c pe_int rfl)) (sa_cons (sn_var 4 (pv 4)) sa_nil))))))))))
theorem ok_goes_over {f : Addr} {fd : FuncData} (F : L2.Fun K "goes_over" "goes_over" s_goes_over f fd) (T : Txt mg) (c_room_in : Cal P w K mg base 1 "room_in" (spF K 3 f_room_in)) (c_wanted : Cal P w K mg base 1 "wanted" (spF K 3 f_wanted)) (c_gap_at : Cal P w K mg base 1 "gap_at" (spF K 3 f_gap_at)) : FnOk P w K mg base CX0 2 f fd ["net", "road", "rows", "at", "other"] (spF K 5 f_goes_over) :=
  fn_F F sc_goes_over (fun cdv A outer s H E hr =>
 (sb_cons (ss_set (i := 5) sc_goes_over.nd rfl (by first | exact Or.inl rfl | exact Or.inr rfl) (sn_ix b_ix r_ix (sn_ix b_ix r_ix (sn_ix b_ix r_ix (sn_var 0 (pv 0)) (sn_c pe_int rfl) (fun _ _ => rfl)) (sn_var 1 (pv 1)) (fun _ _ => rfl)) (sn_c pe_int rfl) (fun _ _ => rfl)))
 (sb_cons (ss_set (i := 6) sc_goes_over.nd rfl (by first | exact Or.inl rfl | exact Or.inr rfl) (sn_ix b_ix r_ix (sn_var 2 (pv 2)) (sn_var 3 (pv 3)) (fun _ _ => rfl)))
 (sb_cons (ss_set (i := 7) sc_goes_over.nd rfl (by first | exact Or.inl rfl | exact Or.inr rfl) (sn_call c_room_in hr (by decide) (by rfl) (sa_cons (sn_var 2 (pv 2)) (sa_cons (sn_var 3 (pv 3)) (sa_cons (sn_var 5 (pv 5)) sa_nil))) 0))
 (sb_cons (ss_if (st_cmp op_ge r_ge (sn_var 7 (pv 7)) (sn_call c_wanted hr (by decide) (by rfl) (sa_cons (sn_var 0 (pv 0)) (sa_cons (sn_var 1 (pv 1)) (sa_cons (sn_var 6 (pv 6)) sa_nil))) 0) (nomark _)) (sb_one (ss_ret (sn_c pe_bl rfl))) sb_nil)
 (sb_cons (ss_asg (sn_call c_gap_at hr (by decide) (by rfl) (sa_cons (sn_var 4 (pv 4)) (sa_cons (sn_ix b_ix r_ix (sn_var 6 (pv 6)) (sn_c pe_int rfl) (fun _ _ => rfl)) (sa_cons (sn_var 5 (pv 5)) sa_nil))) 0) (sg_tup rfl (sgs_cons (pg_name (i := 8) sc_goes_over.nd rfl (by first | exact Or.inl rfl | exact Or.inr rfl)) (sgs_cons (pg_name (i := 9) sc_goes_over.nd rfl (by first | exact Or.inl rfl | exact Or.inr rfl)) (sgs_cons (pg_name (i := 10) sc_goes_over.nd rfl (by first | exact Or.inl rfl | exact Or.inr rfl)) sgs_nil)))))
 (sb_cons (ss_if (st_w (sw_or (st_not (st_tru (sn_var 8 (pv 8)))) (sw_or1 (st_cmp op_le r_le (sn_var 9 (pv 9)) (sn_var 7 (pv 7)) (nomark _))))) (sb_one (ss_ret (sn_c pe_bl rfl))) sb_nil)
 (sb_one (ss_ret (sn_or (sn_cmp op_isN r_is (sn_var 10 (pv 10)) (sn_c pe_non rfl) (nomark _)) (sn_one (sn_cmp op_le r_le (sn_ix b_ix r_ix (sn_var 10 (pv 10)) (sn_c pe_int rfl) (fun _ _ => rfl)) (sn_bin op_sub r_sub (sn_bin op_sub r_sub (sn_ix b_ix r_ix (sn_var 6 (pv 6)) (sn_c pe_int rfl) (fun _ _ => rfl)) (sn_ix b_ix r_ix (sn_var 10 (pv 10)) (sn_c pe_int rfl) (fun _ _ => rfl))) (sn_c pe_int rfl)) (nomark _)))))))))))))
theorem ok_changed_road {f : Addr} {fd : FuncData} (F : L2.Fun K "changed_road" "changed_road" s_changed_road f fd) (T : Txt mg) (c_goes_over : Cal P w K mg base 2 "goes_over" (spF K 5 f_goes_over)) : FnOk P w K mg base CX0 3 f fd ["net", "road", "lanes", "time"] (spF K 4 f_changed_road) :=
  fn_F F sc_changed_road (fun cdv A outer s H E hr =>
 (sb_cons (ss_setLc (ps_setLc (i := 4) (own := [("_", 8)]) (g := tTg _ (.nm 8)) (tt := tT _ mTrue) (te := tE _ (mAd mNil)) rfl sc_changed_road.nd rfl rfl (sw_true rfl rfl rfl (by decide +kernel)) (si_seq (sn_var 2 (pv 2))) (blkOk_by (own := [("_", 8)]) (N := n_changed_road) (sc := defScope s_changed_road) (by decide +kernel)) (fun _ _ _ _ _ => (sg_name (pg_name (i := 8) sc_changed_road.nd rfl (by first | exact Or.inl rfl | exact Or.inr rfl)))) (fun _ _ _ _ _ => pts_true) (fun _ _ _ _ _ => (sn_ad (sn_lst sa_nil)))) (ad_of (lc_of (by decide))))
 (sb_cons (ss_for PassesOwn.never rfl (si_enum (by rfl) T.n_enumerate (sn_var 2 (pv 2))) (sg_tup rfl (sgs_cons (pg_name (i := 5) sc_changed_road.nd rfl (by first | exact Or.inl rfl | exact Or.inr rfl)) (sgs_cons (pg_name (i := 6) sc_changed_road.nd rfl (by first | exact Or.inl rfl | exact Or.inr rfl)) sgs_nil))) (sb_cons (ss_set (i := 7) sc_changed_road.nd rfl (by first | exact Or.inl rfl | exact Or.inr rfl) (sn_bin op_sub r_sub (sn_var 5 (pv 5)) (sn_c pe_int rfl)))
 (sb_cons (ss_if (st_cmp (op_eqD hr.units) r_eq (sn_bin op_mod r_mod (sn_var 3 (pv 3)) (sn_c pe_int rfl)) (sn_c pe_int rfl) (nomark _)) (sb_one (ss_set (i := 7) sc_changed_road.nd rfl (by first | exact Or.inl rfl | exact Or.inr rfl) (sn_bin b_add r_add (sn_var 5 (pv 5)) (sn_c pe_int rfl)))) sb_nil)
 (sb_one (ss_for PassesOwn.never rfl (si_enum (by rfl) T.n_enumerate (sn_var 6 (pv 6))) (sg_tup rfl (sgs_cons (pg_name (i := 9) sc_changed_road.nd rfl (by first | exact Or.inl rfl | exact Or.inr rfl)) (sgs_cons (pg_name (i := 10) sc_changed_road.nd rfl (by first | exact Or.inl rfl | exact Or.inr rfl)) sgs_nil))) (sb_one (ss_if (st_w (sw_and (st_chain op_le op_lt r_le r_lt (sn_c pe_int rfl) (sn_var 7 (pv 7)) (sn_cb c_len (pe_callB call_len_seq (by rfl) T.n_len (by decide +kernel) (sa_cons (sn_var 2 (pv 2)) sa_nil).run)) rfl) (sw_and1 (st_tru (sn_call c_goes_over hr (by decide) (by rfl) (sa_cons (sn_var 0 (pv 0)) (sa_cons (sn_var 1 (pv 1)) (sa_cons (sn_var 6 (pv 6)) (sa_cons (sn_var 9 (pv 9)) (sa_cons (sn_ix b_ix r_ix (sn_var 2 (pv 2)) (sn_var 7 (pv 7)) (fun _ _ => rfl)) sa_nil))))) 0))))) (sb_one (ss_expr (sn_mth l_app (pe_bm PySem.F.plainAttrs_list PySem.F.slot_list_append PySem.F.type_list_append mt_append (sn_ix b_ix r_ix (sn_var 4 (pv 4)) (sn_var 7 (pv 7)) (fun _ _ => rfl)) (sa_cons (sn_var 10 (pv 10)) sa_nil).run)))) (sb_one (ss_expr (sn_mth l_app (pe_bm PySem.F.plainAttrs_list PySem.F.slot_list_append PySem.F.type_list_append mt_append (sn_ix b_ix r_ix (sn_var 4 (pv 4)) (sn_var 5 (pv 5)) (fun _ _ => rfl)) (sa_cons (sn_var 10 (pv 10)) sa_nil).run)))))))))))
 (sb_one (ss_ret (sn_cb c_tuple (pe_callTy call_tuple_of (by rfl) T.n_tuple (by decide +kernel) (sa_cons (sn_fz (sn_lc (own := [("rows", 6)]) rfl sc_changed_road.nd (si_seq (sn_var 4 (pv 4))) (blkOk_by (own := [("rows", 6)]) (N := n_changed_road) (sc := defScope s_changed_road) (by decide +kernel)) (fun _ _ _ _ _ => (sg_name (pg_name (i := 6) sc_changed_road.nd rfl (by first | exact Or.inl rfl | exact Or.inr rfl)))) (fun _ _ _ _ _ => pts_true) (fun _ _ _ _ _ => (sn_cb c_tuple (pe_callTy call_tuple_of (by rfl) T.n_tuple (by decide +kernel) (sa_cons (sn_fz (sn_cf (c_sortT (d := 4) (C := 64)) (pe_callB (cr_sortT (by decide)) (by rfl) T.n_sorted (by decide +kernel) (sa_cons (sn_var 6 (pv 6)) sa_nil).run))) sa_nil).run))) (by decide))) sa_nil).run)))))))
theorem ok_changed {f : Addr} {fd : FuncData} (F : L2.Fun K "changed" "changed" s_changed f fd) (T : Txt mg) (c_changed_road : Cal P w K mg base 3 "changed_road" (spF K 4 f_changed_road)) : FnOk P w K mg base CX0 4 f fd ["net", "cars", "state"] (spF K 3 f_changed) :=
  fn_F F sc_changed (fun cdv A outer s H E hr =>
 (sb_cons (ss_asg (sn_var 2 (pv 2)) (sg_tup rfl (sgs_cons (pg_name (i := 3) sc_changed.nd rfl (by first | exact Or.inl rfl | exact Or.inr rfl)) (sgs_cons (pg_name (i := 4) sc_changed.nd rfl (by first | exact Or.inl rfl | exact Or.inr rfl)) (sgs_cons (pg_name (i := 5) sc_changed.nd rfl (by first | exact Or.inl rfl | exact Or.inr rfl)) sgs_nil)))))
 (sb_one (ss_ret (sn_cb c_tuple (pe_callTy call_tuple_of (by rfl) T.n_tuple (by decide +kernel) (sa_cons (sn_fz (sn_lc (own := [("road", 6), ("lanes", 7)]) rfl sc_changed.nd (si_enum (by rfl) T.n_enumerate (sn_var 4 (pv 4))) (blkOk_by (own := [("road", 6), ("lanes", 7)]) (N := n_changed) (sc := defScope s_changed) (by decide +kernel)) (fun _ _ _ _ _ => (sg_tup rfl (sgs_cons (pg_name (i := 6) sc_changed.nd rfl (by first | exact Or.inl rfl | exact Or.inr rfl)) (sgs_cons (pg_name (i := 7) sc_changed.nd rfl (by first | exact Or.inl rfl | exact Or.inr rfl)) sgs_nil)))) (fun _ _ _ _ _ => pts_true) (fun _ _ _ _ _ => (sn_call c_changed_road hr (by decide) (by rfl) (sa_cons (sn_var 0 (pv 0)) (sa_cons (sn_var 6 (pv 6)) (sa_cons (sn_var 7 (pv 7)) (sa_cons (sn_var 3 (pv 3)) sa_nil)))) 0)) (by decide))) sa_nil).run))))))
theorem ok_front {f : Addr} {fd : FuncData} (F : L2.Fun K "front" "front" s_front f fd) (T : Txt mg) (c_wanted : Cal P w K mg base 1 "wanted" (spF K 3 f_wanted)) : FnOk P w K mg base CX0 2 f fd ["net", "road", "rows"] (spF K 3 f_front) :=
  fn_F F sc_front (fun cdv A outer s H E hr =>
 (sb_cons (ss_if (st_not (st_tru (sn_var 2 (pv 2)))) (sb_one (ss_ret (sn_c pe_non rfl))) sb_nil)
 (sb_cons (ss_if (st_cmp op_le r_le (sn_call c_wanted hr (by decide) (by rfl) (sa_cons (sn_var 0 (pv 0)) (sa_cons (sn_var 1 (pv 1)) (sa_cons (sn_ix b_ix r_ix (sn_var 2 (pv 2)) (sn_neg (sn_c pe_int rfl)) (fun _ _ => rfl)) sa_nil))) 0) (sn_bin op_sub r_sub (sn_bin op_sub r_sub (sn_ix b_ix r_ix (sn_ix b_ix r_ix (sn_ix b_ix r_ix (sn_var 0 (pv 0)) (sn_c pe_int rfl) (fun _ _ => rfl)) (sn_var 1 (pv 1)) (fun _ _ => rfl)) (sn_c pe_int rfl) (fun _ _ => rfl)) (sn_c pe_int rfl)) (sn_ix b_ix r_ix (sn_ix b_ix r_ix (sn_var 2 (pv 2)) (sn_neg (sn_c pe_int rfl)) (fun _ _ => rfl)) (sn_c pe_int rfl) (fun _ _ => rfl))) (nomark _)) (sb_one (ss_ret (sn_c pe_non rfl))) sb_nil)
 (sb_one (ss_ret (sn_ix b_ix r_ix (sn_var 2 (pv 2)) (sn_neg (sn_c pe_int rfl)) (fun _ _ => rfl)))))))
theorem ok_greens {f : Addr} {fd : FuncData} (F : L2.Fun K "greens" "greens" s_greens f fd) (T : Txt mg) : FnOk P w K mg base CX0 1 f fd ["net", "crossing", "time"] (spG K 3 f_greens) :=
  fn_G F sc_greens (fun cdv A outer s H E hr =>
 (sb_cons (ss_asg (sn_ix b_ix r_ix (sn_ix b_ix r_ix (sn_ix b_ix r_ix (sn_var 0 (pv 0)) (sn_c pe_int rfl) (fun _ _ => rfl)) (sn_var 1 (pv 1)) (fun _ _ => rfl)) (sn_c pe_int rfl) (fun _ _ => rfl)) (sg_tup rfl (sgs_cons (pg_name (i := 4) sc_greens.nd rfl (by first | exact Or.inl rfl | exact Or.inr rfl)) (sgs_cons (pg_name (i := 5) sc_greens.nd rfl (by first | exact Or.inl rfl | exact Or.inr rfl)) sgs_nil))))
 (sb_cons (ss_if (st_cmp (op_eqD hr.units) r_eq (sn_var 4 (pv 4)) (sn_c pe_str rfl) (nomark _)) (sb_one (ss_ret (sn_ad (sn_cf c_sortQ (pe_callB cr_sortedQ (by rfl) T.n_sorted (by decide +kernel) (sa_cons (sn_var 5 (pv 5)) sa_nil).run))))) sb_nil)
 (sb_cons (ss_set (i := 3) sc_greens.nd rfl (by first | exact Or.inl rfl | exact Or.inr rfl) (sn_bin op_mod r_mod (sn_var 2 (pv 2)) (sn_cb c_sum (pe_callB (cr_sum rfl) (by rfl) T.n_sum (by decide +kernel) (sa_cons (sn_fz (sn_lc (own := [("row", 8)]) rfl sc_greens.nd (si_seq (sn_var 5 (pv 5))) (blkOk_by (own := [("row", 8)]) (N := n_greens) (sc := defScope s_greens) (by decide +kernel)) (fun _ _ _ _ _ => (sg_name (pg_name (i := 8) sc_greens.nd rfl (by first | exact Or.inl rfl | exact Or.inr rfl)))) (fun _ _ _ _ _ => pts_true) (fun _ _ _ _ _ => (sn_ix b_ix r_ix (sn_var 8 (pv 8)) (sn_c pe_int rfl) (fun _ _ => rfl))) (by decide))) sa_nil).run))))
 (sb_cons (ss_for PassesOwn.never rfl (si_seq (sn_var 5 (pv 5))) (sg_tup rfl (sgs_cons (pg_name (i := 6) sc_greens.nd rfl (by first | exact Or.inl rfl | exact Or.inr rfl)) (sgs_cons (pg_name (i := 7) sc_greens.nd rfl (by first | exact Or.inl rfl | exact Or.inr rfl)) sgs_nil))) (sb_cons (ss_if (st_cmp op_lt r_lt (sn_var 3 (pv 3)) (sn_var 6 (pv 6)) (nomark _)) (sb_one (ss_ret (sn_ad (sn_cf c_list (pe_callTy call_list_of (by rfl) T.n_list (by decide +kernel) (sa_cons (sn_var 7 (pv 7)) sa_nil).run))))) sb_nil)
 (sb_one (ss_aug (ps_aug (i := 3) sc_greens.nd rfl (by first | exact Or.inl rfl | exact Or.inr rfl) (sn_var 6 (pv 6)) ip_sub)))))
 (sb_one (ss_ret (sn_ad (sn_lst sa_nil)))))))))
theorem ok_road_ends {f : Addr} {fd : FuncData} (F : L2.Fun K "road_ends" "road_ends" s_road_ends f fd) (T : Txt mg) : FnOk P w K mg base CX0 1 f fd ["roads", "crossing"] (spF K 2 f_road_ends) :=
  fn_F F sc_road_ends (fun cdv A outer s H E hr =>
 (sb_one (ss_ret (sn_fz (sn_lc (own := [("at", 2), ("road", 3)]) rfl sc_road_ends.nd (si_enum (by rfl) T.n_enumerate (sn_var 0 (pv 0))) (blkOk_by (own := [("at", 2), ("road", 3)]) (N := n_road_ends) (sc := defScope s_road_ends) (by decide +kernel)) (fun _ _ _ _ _ => (sg_tup rfl (sgs_cons (pg_name (i := 2) sc_road_ends.nd rfl (by first | exact Or.inl rfl | exact Or.inr rfl)) (sgs_cons (pg_name (i := 3) sc_road_ends.nd rfl (by first | exact Or.inl rfl | exact Or.inr rfl)) sgs_nil)))) (fun _ _ _ _ _ => (pts_test (st_cmp (op_eqD hr.units) r_eq (sn_ix b_ix r_ix (sn_var 3 (pv 3)) (sn_c pe_int rfl) (fun _ _ => rfl)) (sn_var 1 (pv 1)) (nomark _)))) (fun _ _ _ _ _ => (sn_var 2 (pv 2))) (by decide))))))
theorem ok_ends {f : Addr} {fd : FuncData} (F : L2.Fun K "ends" "ends" s_ends f fd) (T : Txt mg) (c_road_ends : Cal P w K mg base 1 "road_ends" (spF K 2 f_road_ends)) : FnOk P w K mg base CX0 2 f fd ["net"] (spF K 1 f_ends) :=
  fn_F F sc_ends (fun cdv A outer s H E hr =>
 (sb_one (ss_ret (sn_fz (sn_lc (own := [("at", 1)]) rfl sc_ends.nd (si_rng1 (by rfl) T.n_range (sa_cons (sn_cb c_len (pe_callB call_len_seq (by rfl) T.n_len (by decide +kernel) (sa_cons (sn_ix b_ix r_ix (sn_var 0 (pv 0)) (sn_c pe_int rfl) (fun _ _ => rfl)) sa_nil).run)) sa_nil) (pi_range1 (by rfl) T.n_range (sa_cons (sn_cb c_len (pe_callB call_len_seq (by rfl) T.n_len (by decide +kernel) (sa_cons (sn_ix b_ix r_ix (sn_var 0 (pv 0)) (sn_c pe_int rfl) (fun _ _ => rfl)) sa_nil).run)) sa_nil).run)) (blkOk_by (own := [("at", 1)]) (N := n_ends) (sc := defScope s_ends) (by decide +kernel)) (fun _ _ _ _ _ => (sg_name (pg_name (i := 1) sc_ends.nd rfl (by first | exact Or.inl rfl | exact Or.inr rfl)))) (fun _ _ _ _ _ => pts_true) (fun _ _ _ _ _ => (sn_call c_road_ends hr (by decide) (by rfl) (sa_cons (sn_ix b_ix r_ix (sn_var 0 (pv 0)) (sn_c pe_int rfl) (fun _ _ => rfl)) (sa_cons (sn_var 1 (pv 1)) sa_nil)) 0)) (by decide))))))
theorem ok_road_order {f : Addr} {fd : FuncData} (F : L2.Fun K "road_order" "road_order" s_road_order f fd) (T : Txt mg) (c_ends : Cal P w K mg base 2 "ends" (spF K 1 f_ends)) : FnOk P w K mg base CX0 3 f fd ["net", "crossing"] (spF K 2 f_road_order) :=
  fn_F F sc_road_order (fun cdv A outer s H E hr =>
 (sb_cons (ss_asg (sn_ix b_ix r_ix (sn_ix b_ix r_ix (sn_ix b_ix r_ix (sn_var 0 (pv 0)) (sn_c pe_int rfl) (fun _ _ => rfl)) (sn_var 1 (pv 1)) (fun _ _ => rfl)) (sn_c pe_int rfl) (fun _ _ => rfl)) (sg_tup rfl (sgs_cons (pg_name (i := 2) sc_road_order.nd rfl (by first | exact Or.inl rfl | exact Or.inr rfl)) (sgs_cons (pg_name (i := 3) sc_road_order.nd rfl (by first | exact Or.inl rfl | exact Or.inr rfl)) sgs_nil))))
 (sb_cons (ss_if (st_cmp (op_eqD hr.units) r_eq (sn_var 2 (pv 2)) (sn_c pe_str rfl) (nomark _)) (sb_one (ss_ret (sn_fz (sn_cf c_list (pe_callTy call_list_of (by rfl) T.n_list (by decide +kernel) (sa_cons (sn_var 3 (pv 3)) sa_nil).run))))) sb_nil)
 (sb_one (ss_ret (sn_ix b_ix r_ix (sn_call c_ends hr (by decide) (by rfl) (sa_cons (sn_var 0 (pv 0)) sa_nil) 0) (sn_var 1 (pv 1)) (fun _ _ => rfl)))))))
theorem ok_asking_at {f : Addr} {fd : FuncData} (F : L2.Fun K "asking_at" "asking_at" s_asking_at f fd) (T : Txt mg) (c_front : Cal P w K mg base 2 "front" (spF K 3 f_front)) (c_road_order : Cal P w K mg base 3 "road_order" (spF K 2 f_road_order)) : FnOk P w K mg base CX0 4 f fd ["net", "cars", "rows", "crossing"] (spF K 4 f_asking_at) :=
  fn_F F sc_asking_at (fun cdv A outer s H E hr =>
 (sb_cons (ss_set (i := 4) sc_asking_at.nd rfl (by first | exact Or.inl rfl | exact Or.inr rfl) (sn_ad (sn_lst sa_nil)))
 (sb_cons (ss_for PassesOwn.never rfl (si_seq (sn_call c_road_order hr (by decide) (by rfl) (sa_cons (sn_var 0 (pv 0)) (sa_cons (sn_var 3 (pv 3)) sa_nil)) 0)) (sg_name (pg_name (i := 5) sc_asking_at.nd rfl (by first | exact Or.inl rfl | exact Or.inr rfl))) (sb_one (ss_for PassesOwn.never rfl (si_enum (by rfl) T.n_enumerate (sn_ix b_ix r_ix (sn_var 2 (pv 2)) (sn_var 5 (pv 5)) (fun _ _ => rfl))) (sg_tup rfl (sgs_cons (pg_name (i := 6) sc_asking_at.nd rfl (by first | exact Or.inl rfl | exact Or.inr rfl)) (sgs_cons (pg_name (i := 7) sc_asking_at.nd rfl (by first | exact Or.inl rfl | exact Or.inr rfl)) sgs_nil))) (sb_cons (ss_set (i := 8) sc_asking_at.nd rfl (by first | exact Or.inl rfl | exact Or.inr rfl) (sn_call c_front hr (by decide) (by rfl) (sa_cons (sn_var 0 (pv 0)) (sa_cons (sn_var 5 (pv 5)) (sa_cons (sn_var 7 (pv 7)) sa_nil))) 0))
 (sb_one (ss_if (st_w (sw_and (st_cmp op_notN r_isNot (sn_var 8 (pv 8)) (sn_c pe_non rfl) (nomark _)) (sw_and1 (st_cmp op_lt r_lt (sn_bin b_add r_add (sn_ix b_ix r_ix (sn_var 8 (pv 8)) (sn_c pe_int rfl) (fun _ _ => rfl)) (sn_c pe_int rfl)) (sn_cb c_len (pe_callB call_len_seq (by rfl) T.n_len (by decide +kernel) (sa_cons (sn_ix b_ix r_ix (sn_ix b_ix r_ix (sn_var 1 (pv 1)) (sn_ix b_ix r_ix (sn_var 8 (pv 8)) (sn_c pe_int rfl) (fun _ _ => rfl)) (fun _ _ => rfl)) (sn_c pe_int rfl) (fun _ _ => rfl)) sa_nil).run)) (nomark _))))) (sb_cons (ss_set (i := 9) sc_asking_at.nd rfl (by first | exact Or.inl rfl | exact Or.inr rfl) (sn_ix b_ix r_ix (sn_ix b_ix r_ix (sn_ix b_ix r_ix (sn_var 1 (pv 1)) (sn_ix b_ix r_ix (sn_var 8 (pv 8)) (sn_c pe_int rfl) (fun _ _ => rfl)) (fun _ _ => rfl)) (sn_c pe_int rfl) (fun _ _ => rfl)) (sn_bin b_add r_add (sn_ix b_ix r_ix (sn_var 8 (pv 8)) (sn_c pe_int rfl) (fun _ _ => rfl)) (sn_c pe_int rfl)) (fun _ _ => rfl)))
 (sb_one (ss_expr (sn_mth l_app (pe_bm PySem.F.plainAttrs_list PySem.F.slot_list_append PySem.F.type_list_append mt_append (sn_var 4 (pv 4)) (sa_cons (sn_tup (sa_cons (sn_ix b_ix r_ix (sn_var 8 (pv 8)) (sn_c pe_int rfl) (fun _ _ => rfl)) (sa_cons (sn_var 5 (pv 5)) (sa_cons (sn_var 6 (pv 6)) (sa_cons (sn_var 9 (pv 9)) (sa_cons (sn_cb c_2I (pe_callB (call_min2 rfl) (by rfl) T.n_min (by decide +kernel) (sa_cons (sn_var 6 (pv 6)) (sa_cons (sn_bin op_sub r_sub (sn_ix b_ix r_ix (sn_ix b_ix r_ix (sn_ix b_ix r_ix (sn_var 0 (pv 0)) (sn_c pe_int rfl) (fun _ _ => rfl)) (sn_var 9 (pv 9)) (fun _ _ => rfl)) (sn_c pe_int rfl) (fun _ _ => rfl)) (sn_c pe_int rfl)) sa_nil)).run)) sa_nil)))))) sa_nil).run))))) sb_nil))))))
 (sb_one (ss_ret (sn_var 4 (pv 4)))))))
theorem ok_full_by {f : Addr} {fd : FuncData} (F : L2.Fun K "full_by" "full_by" s_full_by f fd) (T : Txt mg) : FnOk P w K mg base CX0 1 f fd ["rows", "one"] (spF K 2 f_full_by) :=
  fn_F F sc_full_by (fun cdv A outer s H E hr =>
 (sb_cons (ss_set (i := 2) sc_full_by.nd rfl (by first | exact Or.inl rfl | exact Or.inr rfl) (sn_ix b_ix r_ix (sn_ix b_ix r_ix (sn_var 0 (pv 0)) (sn_ix b_ix r_ix (sn_var 1 (pv 1)) (sn_c pe_int rfl) (fun _ _ => rfl)) (fun _ _ => rfl)) (sn_ix b_ix r_ix (sn_var 1 (pv 1)) (sn_c pe_int rfl) (fun _ _ => rfl)) (fun _ _ => rfl)))
 (sb_cons (ss_if (st_w (sw_and (st_tru (sn_var 2 (pv 2))) (sw_and1 (st_cmp (op_eqD hr.units) r_eq (sn_ix b_ix r_ix (sn_ix b_ix r_ix (sn_var 2 (pv 2)) (sn_c pe_int rfl) (fun _ _ => rfl)) (sn_c pe_int rfl) (fun _ _ => rfl)) (sn_c pe_int rfl) (nomark _))))) (sb_one (ss_ret (sn_ix b_ix r_ix (sn_ix b_ix r_ix (sn_var 2 (pv 2)) (sn_c pe_int rfl) (fun _ _ => rfl)) (sn_c pe_int rfl) (fun _ _ => rfl)))) sb_nil)
 (sb_one (ss_ret (sn_c pe_non rfl))))))
theorem ok_cause_at {f : Addr} {fd : FuncData} (F : L2.Fun K "cause_at" "cause_at" s_cause_at f fd) (T : Txt mg) (c_full_by : Cal P w K mg base 1 "full_by" (spF K 2 f_full_by)) : FnOk P w K mg base CX0 2 f fd ["net", "crossing", "asked", "one", "rows", "entered", "green"] (spG K 7 f_cause_at) :=
  fn_G F sc_cause_at (fun cdv A outer s H E hr =>
 (sb_cons (ss_if (st_cmp op_notIn_seq (r_inS (neg := true)) (sn_ix b_ix r_ix (sn_var 3 (pv 3)) (sn_c pe_int rfl) (fun _ _ => rfl)) (sn_var 6 (pv 6)) rfl) (sb_one (ss_ret (sn_tup (sa_cons (sn_c pe_str rfl) (sa_cons (sn_var 1 (pv 1)) sa_nil))))) sb_nil)
 (sb_cons (ss_set (i := 7) sc_cause_at.nd rfl (by first | exact Or.inl rfl | exact Or.inr rfl) (sn_call c_full_by hr (by decide) (by rfl) (sa_cons (sn_var 4 (pv 4)) (sa_cons (sn_var 3 (pv 3)) sa_nil)) 0))
 (sb_cons (ss_if (st_cmp op_notN r_isNot (sn_var 7 (pv 7)) (sn_c pe_non rfl) (nomark _)) (sb_one (ss_ret (sn_tup (sa_cons (sn_c pe_str rfl) (sa_cons (sn_var 7 (pv 7)) sa_nil))))) sb_nil)
 (sb_cons (ss_if (st_cmp (op_eqD hr.units) r_eq (sn_ix b_ix r_ix (sn_ix b_ix r_ix (sn_ix b_ix r_ix (sn_ix b_ix r_ix (sn_var 0 (pv 0)) (sn_c pe_int rfl) (fun _ _ => rfl)) (sn_var 1 (pv 1)) (fun _ _ => rfl)) (sn_c pe_int rfl) (fun _ _ => rfl)) (sn_c pe_int rfl) (fun _ _ => rfl)) (sn_c pe_str rfl) (nomark _)) (sb_cons (ss_set (i := 8) sc_cause_at.nd rfl (by first | exact Or.inl rfl | exact Or.inr rfl) (sn_ix b_ix r_ix (sn_ix b_ix r_ix (sn_ix b_ix r_ix (sn_ix b_ix r_ix (sn_var 0 (pv 0)) (sn_c pe_int rfl) (fun _ _ => rfl)) (sn_var 1 (pv 1)) (fun _ _ => rfl)) (sn_c pe_int rfl) (fun _ _ => rfl)) (sn_c pe_int rfl) (fun _ _ => rfl)))
 (sb_one (ss_for PassesOwn.never rfl (si_seq (sn_var 2 (pv 2))) (sg_name (pg_name (i := 9) sc_cause_at.nd rfl (by first | exact Or.inl rfl | exact Or.inr rfl))) (sb_one (ss_if (st_w (sw_and (st_cmp op_lt r_lt (sn_tix (sn_var 8 (pv 8)) (sn_ix b_ix r_ix (sn_var 9 (pv 9)) (sn_c pe_int rfl) (fun _ _ => rfl)) (pe_bmX PySem.F.plainAttrs_tuple PySem.F.slot_tuple_index PySem.F.type_tuple_index mt_tix (sn_var 8 (pv 8)) (sa_cons (sn_ix b_ix r_ix (sn_var 9 (pv 9)) (sn_c pe_int rfl) (fun _ _ => rfl)) sa_nil).run)) (sn_tix (sn_var 8 (pv 8)) (sn_ix b_ix r_ix (sn_var 3 (pv 3)) (sn_c pe_int rfl) (fun _ _ => rfl)) (pe_bmX PySem.F.plainAttrs_tuple PySem.F.slot_tuple_index PySem.F.type_tuple_index mt_tix (sn_var 8 (pv 8)) (sa_cons (sn_ix b_ix r_ix (sn_var 3 (pv 3)) (sn_c pe_int rfl) (fun _ _ => rfl)) sa_nil).run)) (nomark _)) (sw_and (st_cmp (op_eqD hr.units) r_eq (sn_ix b_ix r_ix (sn_var 9 (pv 9)) (sn_c pe_int rfl) (fun _ _ => rfl)) (sn_ix b_ix r_ix (sn_var 3 (pv 3)) (sn_c pe_int rfl) (fun _ _ => rfl)) (nomark _)) (sw_and1 (st_cmp op_isN r_is (sn_call c_full_by hr (by decide) (by rfl) (sa_cons (sn_var 4 (pv 4)) (sa_cons (sn_var 9 (pv 9)) sa_nil)) 0) (sn_c pe_non rfl) (nomark _)))))) (sb_one (ss_ret (sn_tup (sa_cons (sn_c pe_str rfl) (sa_cons (sn_ix b_ix r_ix (sn_var 9 (pv 9)) (sn_c pe_int rfl) (fun _ _ => rfl)) sa_nil))))) sb_nil))))) sb_nil)
 (sb_cons (ss_if (st_din (hu_of hr) (sn_tup (sa_cons (sn_ix b_ix r_ix (sn_var 3 (pv 3)) (sn_c pe_int rfl) (fun _ _ => rfl)) (sa_cons (sn_ix b_ix r_ix (sn_var 3 (pv 3)) (sn_c pe_int rfl) (fun _ _ => rfl)) sa_nil))) (sn_var 5 (pv 5)) rfl) (sb_one (ss_ret (sn_tup (sa_cons (sn_c pe_str rfl) (sa_cons (sn_dget (hu_of hr) (sn_var 5 (pv 5)) (sn_tup (sa_cons (sn_ix b_ix r_ix (sn_var 3 (pv 3)) (sn_c pe_int rfl) (fun _ _ => rfl)) (sa_cons (sn_ix b_ix r_ix (sn_var 3 (pv 3)) (sn_c pe_int rfl) (fun _ _ => rfl)) sa_nil))) (fun _ _ => rfl)) sa_nil))))) sb_nil)
 (sb_one (ss_ret (sn_c pe_non rfl)))))))))
theorem ok_let_through {f : Addr} {fd : FuncData} (F : L2.Fun K "let_through" "let_through" s_let_through f fd) (T : Txt mg) (c_greens : Cal P w K mg base 1 "greens" (spG K 3 f_greens)) (c_asking_at : Cal P w K mg base 4 "asking_at" (spF K 4 f_asking_at)) (c_cause_at : Cal P w K mg base 2 "cause_at" (spG K 7 f_cause_at)) : FnOk P w K mg base CX0 5 f fd ["net", "cars", "time", "rows"] (spF K 4 f_let_through) :=
  fn_F F sc_let_through (fun cdv A outer s H E hr =>
 (sb_cons (ss_set (i := 4) sc_let_through.nd rfl (by first | exact Or.inl rfl | exact Or.inr rfl) (sn_ad (sn_lst sa_nil)))
 (sb_cons (ss_set (i := 5) sc_let_through.nd rfl (by first | exact Or.inl rfl | exact Or.inr rfl) (sn_ad (sn_lst sa_nil)))
 (sb_cons (ss_for PassesOwn.never rfl (si_rng1 (by rfl) T.n_range (sa_cons (sn_cb c_len (pe_callB call_len_seq (by rfl) T.n_len (by decide +kernel) (sa_cons (sn_ix b_ix r_ix (sn_var 0 (pv 0)) (sn_c pe_int rfl) (fun _ _ => rfl)) sa_nil).run)) sa_nil) (pi_range1 (by rfl) T.n_range (sa_cons (sn_cb c_len (pe_callB call_len_seq (by rfl) T.n_len (by decide +kernel) (sa_cons (sn_ix b_ix r_ix (sn_var 0 (pv 0)) (sn_c pe_int rfl) (fun _ _ => rfl)) sa_nil).run)) sa_nil).run)) (sg_name (pg_name (i := 6) sc_let_through.nd rfl (by first | exact Or.inl rfl | exact Or.inr rfl))) (sb_cons (ss_set (i := 7) sc_let_through.nd rfl (by first | exact Or.inl rfl | exact Or.inr rfl) (sn_call c_asking_at hr (by decide) (by rfl) (sa_cons (sn_var 0 (pv 0)) (sa_cons (sn_var 1 (pv 1)) (sa_cons (sn_var 3 (pv 3)) (sa_cons (sn_var 6 (pv 6)) sa_nil)))) 0))
 (sb_cons (ss_set (i := 8) sc_let_through.nd rfl (by first | exact Or.inl rfl | exact Or.inr rfl) sn_newT)
 (sb_cons (ss_set (i := 9) sc_let_through.nd rfl (by first | exact Or.inl rfl | exact Or.inr rfl) (sn_callG c_greens hr (by decide) (by rfl) (sa_cons (sn_var 0 (pv 0)) (sa_cons (sn_var 6 (pv 6)) (sa_cons (sn_var 2 (pv 2)) sa_nil)))))
 (sb_one (ss_for PassesOwn.never rfl (si_seq (sn_var 7 (pv 7))) (sg_name (pg_name (i := 10) sc_let_through.nd rfl (by first | exact Or.inl rfl | exact Or.inr rfl))) (sb_cons (ss_set (i := 11) sc_let_through.nd rfl (by first | exact Or.inl rfl | exact Or.inr rfl) (sn_callG c_cause_at hr (by decide) (by rfl) (sa_cons (sn_var 0 (pv 0)) (sa_cons (sn_var 6 (pv 6)) (sa_cons (sn_var 7 (pv 7)) (sa_cons (sn_var 10 (pv 10)) (sa_cons (sn_var 3 (pv 3)) (sa_cons (sn_var 8 (pv 8)) (sa_cons (sn_var 9 (pv 9)) sa_nil)))))))))
 (sb_one (ss_if (st_cmp op_isN r_is (sn_var 11 (pv 11)) (sn_c pe_non rfl) (nomark _)) (sb_cons (ss_setD (hu_of hr) (sn_ix b_ix r_ix (sn_var 10 (pv 10)) (sn_c pe_int rfl) (fun _ _ => rfl)) (sn_var 8 (pv 8)) (sn_tup (sa_cons (sn_ix b_ix r_ix (sn_var 10 (pv 10)) (sn_c pe_int rfl) (fun _ _ => rfl)) (sa_cons (sn_ix b_ix r_ix (sn_var 10 (pv 10)) (sn_c pe_int rfl) (fun _ _ => rfl)) sa_nil))))
 (sb_one (ss_expr (sn_mth l_app (pe_bm PySem.F.plainAttrs_list PySem.F.slot_list_append PySem.F.type_list_append mt_append (sn_var 4 (pv 4)) (sa_cons (sn_var 10 (pv 10)) sa_nil).run))))) (sb_one (ss_expr (sn_mth l_app (pe_bm PySem.F.plainAttrs_list PySem.F.slot_list_append PySem.F.type_list_append mt_append (sn_var 5 (pv 5)) (sa_cons (sn_tup (sa_cons (sn_ix b_ix r_ix (sn_var 10 (pv 10)) (sn_c pe_int rfl) (fun _ _ => rfl)) (sa_cons (sn_var 11 (pv 11)) sa_nil))) sa_nil).run)))))))))))))
 (sb_one (ss_ret (sn_tup (sa_cons (sn_var 4 (pv 4)) (sa_cons (sn_var 5 (pv 5)) sa_nil)))))))))
theorem ok_entry {f : Addr} {fd : FuncData} (F : L2.Fun K "entry" "entry" s_entry f fd) (T : Txt mg) (c_wanted : Cal P w K mg base 1 "wanted" (spF K 3 f_wanted)) : FnOk P w K mg base CX0 2 f fd ["net", "rows", "one"] (spF K 3 f_entry) :=
  fn_F F sc_entry (fun cdv A outer s H E hr =>
 (sb_cons (ss_asg (sn_var 2 (pv 2)) (sg_tup rfl (sgs_cons (pg_name (i := 7) sc_entry.nd rfl (by first | exact Or.inl rfl | exact Or.inr rfl)) (sgs_cons (pg_name (i := 8) sc_entry.nd rfl (by first | exact Or.inl rfl | exact Or.inr rfl)) (sgs_cons (pg_name (i := 9) sc_entry.nd rfl (by first | exact Or.inl rfl | exact Or.inr rfl)) (sgs_cons (pg_name (i := 10) sc_entry.nd rfl (by first | exact Or.inl rfl | exact Or.inr rfl)) (sgs_cons (pg_name (i := 11) sc_entry.nd rfl (by first | exact Or.inl rfl | exact Or.inr rfl)) sgs_nil)))))))
 (sb_cons (ss_set (i := 3) sc_entry.nd rfl (by first | exact Or.inl rfl | exact Or.inr rfl) (sn_ix b_ix r_ix (sn_ix b_ix r_ix (sn_ix b_ix r_ix (sn_var 1 (pv 1)) (sn_var 8 (pv 8)) (fun _ _ => rfl)) (sn_var 9 (pv 9)) (fun _ _ => rfl)) (sn_neg (sn_c pe_int rfl)) (fun _ _ => rfl)))
 (sb_cons (ss_set (i := 4) sc_entry.nd rfl (by first | exact Or.inl rfl | exact Or.inr rfl) (sn_bin op_sub r_sub (sn_bin op_sub r_sub (sn_ix b_ix r_ix (sn_ix b_ix r_ix (sn_ix b_ix r_ix (sn_var 0 (pv 0)) (sn_c pe_int rfl) (fun _ _ => rfl)) (sn_var 8 (pv 8)) (fun _ _ => rfl)) (sn_c pe_int rfl) (fun _ _ => rfl)) (sn_c pe_int rfl)) (sn_ix b_ix r_ix (sn_var 3 (pv 3)) (sn_c pe_int rfl) (fun _ _ => rfl))))
 (sb_cons (ss_set (i := 5) sc_entry.nd rfl (by first | exact Or.inl rfl | exact Or.inr rfl) (sn_ix b_ix r_ix (sn_ix b_ix r_ix (sn_ix b_ix r_ix (sn_var 0 (pv 0)) (sn_c pe_int rfl) (fun _ _ => rfl)) (sn_var 10 (pv 10)) (fun _ _ => rfl)) (sn_c pe_int rfl) (fun _ _ => rfl)))
 (sb_cons (ss_if (st_tru (sn_ix b_ix r_ix (sn_ix b_ix r_ix (sn_var 1 (pv 1)) (sn_var 10 (pv 10)) (fun _ _ => rfl)) (sn_var 11 (pv 11)) (fun _ _ => rfl))) (sb_one (ss_set (i := 5) sc_entry.nd rfl (by first | exact Or.inl rfl | exact Or.inr rfl) (sn_ix b_ix r_ix (sn_ix b_ix r_ix (sn_ix b_ix r_ix (sn_ix b_ix r_ix (sn_var 1 (pv 1)) (sn_var 10 (pv 10)) (fun _ _ => rfl)) (sn_var 11 (pv 11)) (fun _ _ => rfl)) (sn_c pe_int rfl) (fun _ _ => rfl)) (sn_c pe_int rfl) (fun _ _ => rfl)))) sb_nil)
 (sb_cons (ss_set (i := 6) sc_entry.nd rfl (by first | exact Or.inl rfl | exact Or.inr rfl) (sn_cb c_2I (pe_callB (call_min2 rfl) (by rfl) T.n_min (by decide +kernel) (sa_cons (sn_bin op_sub r_sub (sn_bin op_sub r_sub (sn_call c_wanted hr (by decide) (by rfl) (sa_cons (sn_var 0 (pv 0)) (sa_cons (sn_var 8 (pv 8)) (sa_cons (sn_var 3 (pv 3)) sa_nil))) 0) (sn_var 4 (pv 4))) (sn_c pe_int rfl)) (sa_cons (sn_bin op_sub r_sub (sn_var 5 (pv 5)) (sn_c pe_int rfl)) sa_nil)).run)))
 (sb_one (ss_ret (sn_tup (sa_cons (sn_var 6 (pv 6)) (sa_cons (sn_var 7 (pv 7)) (sa_cons (sn_bin b_add r_add (sn_bin b_add r_add (sn_var 4 (pv 4)) (sn_c pe_int rfl)) (sn_var 6 (pv 6))) (sa_cons (sn_bin b_add r_add (sn_ix b_ix r_ix (sn_var 3 (pv 3)) (sn_c pe_int rfl) (fun _ _ => rfl)) (sn_c pe_int rfl)) sa_nil))))))))))))))
theorem ok_moved {f : Addr} {fd : FuncData} (F : L2.Fun K "moved" "moved" s_moved f fd) (T : Txt mg) (c_room_in : Cal P w K mg base 1 "room_in" (spF K 3 f_room_in)) (c_wanted : Cal P w K mg base 1 "wanted" (spF K 3 f_wanted)) (c_front : Cal P w K mg base 2 "front" (spF K 3 f_front)) (c_let_through : Cal P w K mg base 5 "let_through" (spF K 4 f_let_through)) (c_entry : Cal P w K mg base 2 "entry" (spF K 3 f_entry)) : FnOk P w K mg base CX0 6 f fd ["net", "cars", "time", "rows"] (spF K 4 f_moved) :=
  fn_F F sc_moved (fun cdv A outer s H E hr =>
 (sb_cons (ss_asg (sn_call c_let_through hr (by decide) (by rfl) (sa_cons (sn_var 0 (pv 0)) (sa_cons (sn_var 1 (pv 1)) (sa_cons (sn_var 2 (pv 2)) (sa_cons (sn_var 3 (pv 3)) sa_nil)))) 0) (sg_tup rfl (sgs_cons (pg_name (i := 8) sc_moved.nd rfl (by first | exact Or.inl rfl | exact Or.inr rfl)) (sgs_cons (pg_name (i := 9) sc_moved.nd rfl (by first | exact Or.inl rfl | exact Or.inr rfl)) sgs_nil))))
 (sb_cons (ss_setLc (ps_putDc (i := 4) (own := [("one", 7)]) (g := tTg _ (.nm 7)) (tt := tT _ mTrue) (tk := tE _ (mOp dIx (mVar 7) (mC (.int 0)))) (tv := tE _ (mC (.bl true))) rfl sc_moved.nd rfl rfl (swD_true rfl rfl rfl (by decide +kernel)) (si_seq (sn_var 8 (pv 8))) (blkOk_by (own := [("one", 7)]) (N := n_moved) (sc := defScope s_moved) (by decide +kernel)) (fun _ _ _ _ _ => (sg_name (pg_name (i := 7) sc_moved.nd rfl (by first | exact Or.inl rfl | exact Or.inr rfl)))) (fun _ _ _ _ _ => pts_true) (fun _ _ _ _ _ => (sn_ix b_ix r_ix (sn_var 7 (pv 7)) (sn_c pe_int rfl) (fun _ _ => rfl))) (fun _ _ _ _ _ => (sn_c pe_bl rfl))) (dc_of (by decide)))
 (sb_cons (ss_set (i := 5) sc_moved.nd rfl (by first | exact Or.inl rfl | exact Or.inr rfl) (sn_ad (sn_lst sa_nil)))
 (sb_cons (ss_set (i := 6) sc_moved.nd rfl (by first | exact Or.inl rfl | exact Or.inr rfl) (sn_ad (sn_lst sa_nil)))
 (sb_cons (ss_for PassesOwn.never rfl (si_enum (by rfl) T.n_enumerate (sn_var 3 (pv 3))) (sg_tup rfl (sgs_cons (pg_name (i := 10) sc_moved.nd rfl (by first | exact Or.inl rfl | exact Or.inr rfl)) (sgs_cons (pg_name (i := 11) sc_moved.nd rfl (by first | exact Or.inl rfl | exact Or.inr rfl)) sgs_nil))) (sb_cons (ss_set (i := 12) sc_moved.nd rfl (by first | exact Or.inl rfl | exact Or.inr rfl) (sn_ad (sn_lst sa_nil)))
 (sb_cons (ss_for PassesOwn.never rfl (si_seq (sn_var 11 (pv 11))) (sg_name (pg_name (i := 13) sc_moved.nd rfl (by first | exact Or.inl rfl | exact Or.inr rfl))) (sb_cons (ss_set (i := 14) sc_moved.nd rfl (by first | exact Or.inl rfl | exact Or.inr rfl) (sn_ad (sn_lst sa_nil)))
 (sb_cons (ss_set (i := 15) sc_moved.nd rfl (by first | exact Or.inl rfl | exact Or.inr rfl) (sn_call c_front hr (by decide) (by rfl) (sa_cons (sn_var 0 (pv 0)) (sa_cons (sn_var 10 (pv 10)) (sa_cons (sn_var 13 (pv 13)) sa_nil))) 0))
 (sb_cons (ss_for PassesOwn.never rfl (si_enum (by rfl) T.n_enumerate (sn_var 13 (pv 13))) (sg_tup rfl (sgs_cons (pg_name (i := 16) sc_moved.nd rfl (by first | exact Or.inl rfl | exact Or.inr rfl)) (sgs_cons (pg_name (i := 17) sc_moved.nd rfl (by first | exact Or.inl rfl | exact Or.inr rfl)) sgs_nil))) (sb_one (ss_if (st_w (sw_and (st_cmp (op_eqD hr.units) r_eq (sn_var 17 (pv 17)) (sn_var 15 (pv 15)) (nomark _)) (sw_and1 (st_cmp (op_eqD hr.units) r_eq (sn_bin b_add r_add (sn_ix b_ix r_ix (sn_var 17 (pv 17)) (sn_c pe_int rfl) (fun _ _ => rfl)) (sn_c pe_int rfl)) (sn_cb c_len (pe_callB call_len_seq (by rfl) T.n_len (by decide +kernel) (sa_cons (sn_ix b_ix r_ix (sn_ix b_ix r_ix (sn_var 1 (pv 1)) (sn_ix b_ix r_ix (sn_var 17 (pv 17)) (sn_c pe_int rfl) (fun _ _ => rfl)) (fun _ _ => rfl)) (sn_c pe_int rfl) (fun _ _ => rfl)) sa_nil).run)) (nomark _))))) (sb_one (ss_expr (sn_mth l_app (pe_bm PySem.F.plainAttrs_list PySem.F.slot_list_append PySem.F.type_list_append mt_append (sn_var 5 (pv 5)) (sa_cons (sn_ix b_ix r_ix (sn_var 17 (pv 17)) (sn_c pe_int rfl) (fun _ _ => rfl)) sa_nil).run)))) (sb_one (ss_if (st_dnotin (hu_of hr) (sn_ix b_ix r_ix (sn_var 17 (pv 17)) (sn_c pe_int rfl) (fun _ _ => rfl)) (sn_var 4 (pv 4)) rfl) (sb_cons (ss_set (i := 18) sc_moved.nd rfl (by first | exact Or.inl rfl | exact Or.inr rfl) (sn_cb c_2I (pe_callB (call_min2 rfl) (by rfl) T.n_min (by decide +kernel) (sa_cons (sn_call c_wanted hr (by decide) (by rfl) (sa_cons (sn_var 0 (pv 0)) (sa_cons (sn_var 10 (pv 10)) (sa_cons (sn_var 17 (pv 17)) sa_nil))) 0) (sa_cons (sn_call c_room_in hr (by decide) (by rfl) (sa_cons (sn_var 13 (pv 13)) (sa_cons (sn_var 16 (pv 16)) (sa_cons (sn_ix b_ix r_ix (sn_ix b_ix r_ix (sn_ix b_ix r_ix (sn_var 0 (pv 0)) (sn_c pe_int rfl) (fun _ _ => rfl)) (sn_var 10 (pv 10)) (fun _ _ => rfl)) (sn_c pe_int rfl) (fun _ _ => rfl)) sa_nil))) 0) sa_nil)).run)))
 (sb_one (ss_expr (sn_mth l_app (pe_bm PySem.F.plainAttrs_list PySem.F.slot_list_append PySem.F.type_list_append mt_append (sn_var 14 (pv 14)) (sa_cons (sn_tup (sa_cons (sn_bin b_add r_add (sn_ix b_ix r_ix (sn_var 17 (pv 17)) (sn_c pe_int rfl) (fun _ _ => rfl)) (sn_var 18 (pv 18))) (sa_cons (sn_ix b_ix r_ix (sn_var 17 (pv 17)) (sn_c pe_int rfl) (fun _ _ => rfl)) (sa_cons (sn_var 18 (pv 18)) (sa_cons (sn_ix b_ix r_ix (sn_var 17 (pv 17)) (sn_c pe_int rfl) (fun _ _ => rfl)) sa_nil))))) sa_nil).run))))) sb_nil)))))
 (sb_one (ss_expr (sn_mth l_app (pe_bm PySem.F.plainAttrs_list PySem.F.slot_list_append PySem.F.type_list_append mt_append (sn_var 12 (pv 12)) (sa_cons (sn_var 14 (pv 14)) sa_nil).run))))))))
 (sb_one (ss_expr (sn_mth l_app (pe_bm PySem.F.plainAttrs_list PySem.F.slot_list_append PySem.F.type_list_append mt_append (sn_var 6 (pv 6)) (sa_cons (sn_var 12 (pv 12)) sa_nil).run)))))))
 (sb_cons (ss_for PassesOwn.never rfl (si_seq (sn_var 8 (pv 8))) (sg_name (pg_name (i := 7) sc_moved.nd rfl (by first | exact Or.inl rfl | exact Or.inr rfl))) (sb_one (ss_expr (sn_mth l_app (pe_bm PySem.F.plainAttrs_list PySem.F.slot_list_append PySem.F.type_list_append mt_append (sn_ix b_ix r_ix (sn_ix b_ix r_ix (sn_var 6 (pv 6)) (sn_ix b_ix r_ix (sn_var 7 (pv 7)) (sn_c pe_int rfl) (fun _ _ => rfl)) (fun _ _ => rfl)) (sn_ix b_ix r_ix (sn_var 7 (pv 7)) (sn_c pe_int rfl) (fun _ _ => rfl)) (fun _ _ => rfl)) (sa_cons (sn_call c_entry hr (by decide) (by rfl) (sa_cons (sn_var 0 (pv 0)) (sa_cons (sn_var 3 (pv 3)) (sa_cons (sn_var 7 (pv 7)) sa_nil))) 0) sa_nil).run)))))
 (sb_one (ss_ret (sn_tup (sa_cons (sn_cb c_tuple (pe_callTy call_tuple_of (by rfl) T.n_tuple (by decide +kernel) (sa_cons (sn_fz (sn_lc (own := [("lanes", 11)]) rfl sc_moved.nd (si_seq (sn_var 6 (pv 6))) (blkOk_by (own := [("lanes", 11)]) (N := n_moved) (sc := defScope s_moved) (by decide +kernel)) (fun _ _ _ _ _ => (sg_name (pg_name (i := 11) sc_moved.nd rfl (by first | exact Or.inl rfl | exact Or.inr rfl)))) (fun _ _ _ _ _ => pts_true) (fun _ _ _ _ _ => (sn_cb c_tuple (pe_callTy call_tuple_of (by rfl) T.n_tuple (by decide +kernel) (sa_cons (sn_fz (sn_lc (own := [("lane", 14)]) rfl sc_moved.nd (si_seq (sn_var 11 (pv 11))) (blkOk_by (own := [("lane", 14)]) (N := n_moved) (sc := relS _ (defScope s_moved)) (by decide +kernel)) (fun _ _ _ _ _ => (sg_name (pg_name (i := 14) sc_moved.nd rfl (by first | exact Or.inl rfl | exact Or.inr rfl)))) (fun _ _ _ _ _ => pts_true) (fun _ _ _ _ _ => (sn_cb c_tuple (pe_callTy call_tuple_of (by rfl) T.n_tuple (by decide +kernel) (sa_cons (sn_fz (sn_cf (c_sortT (d := 4) (C := 64)) (pe_callB (cr_sortT (by decide)) (by rfl) T.n_sorted (by decide +kernel) (sa_cons (sn_var 14 (pv 14)) sa_nil).run))) sa_nil).run))) (by decide))) sa_nil).run))) (by decide))) sa_nil).run)) (sa_cons (sn_var 5 (pv 5)) sa_nil))))))))))))
theorem ok_first_outside {f : Addr} {fd : FuncData} (F : L2.Fun K "first_outside" "first_outside" s_first_outside f fd) (T : Txt mg) : FnOk P w K mg base CX0 1 f fd ["cars", "waiting", "time", "road"] (spF K 4 f_first_outside) :=
  fn_F F sc_first_outside (fun cdv A outer s H E hr =>
 (sb_cons (ss_set (i := 4) sc_first_outside.nd rfl (by first | exact Or.inl rfl | exact Or.inr rfl) (sn_c pe_non rfl))
 (sb_cons (ss_for PassesOwn.never rfl (si_seq (sn_var 1 (pv 1))) (sg_name (pg_name (i := 5) sc_first_outside.nd rfl (by first | exact Or.inl rfl | exact Or.inr rfl))) (sb_one (ss_if (st_w (sw_and (st_cmp (op_eqD hr.units) r_eq (sn_ix b_ix r_ix (sn_ix b_ix r_ix (sn_ix b_ix r_ix (sn_var 0 (pv 0)) (sn_var 5 (pv 5)) (fun _ _ => rfl)) (sn_c pe_int rfl) (fun _ _ => rfl)) (sn_c pe_int rfl) (fun _ _ => rfl)) (sn_var 3 (pv 3)) (nomark _)) (sw_and1 (st_cmp op_le r_le (sn_ix b_ix r_ix (sn_ix b_ix r_ix (sn_var 0 (pv 0)) (sn_var 5 (pv 5)) (fun _ _ => rfl)) (sn_c pe_int rfl) (fun _ _ => rfl)) (sn_var 2 (pv 2)) (nomark _))))) (sb_one (ss_if (st_w (sw_or (st_cmp op_isN r_is (sn_var 4 (pv 4)) (sn_c pe_non rfl) (nomark _)) (sw_or1 (st_cmp op_lt r_lt (sn_ix b_ix r_ix (sn_ix b_ix r_ix (sn_var 0 (pv 0)) (sn_var 5 (pv 5)) (fun _ _ => rfl)) (sn_c pe_int rfl) (fun _ _ => rfl)) (sn_ix b_ix r_ix (sn_ix b_ix r_ix (sn_var 0 (pv 0)) (sn_var 4 (pv 4)) (fun _ _ => rfl)) (sn_c pe_int rfl) (fun _ _ => rfl)) (nomark _))))) (sb_one (ss_set (i := 4) sc_first_outside.nd rfl (by first | exact Or.inl rfl | exact Or.inr rfl) (sn_var 5 (pv 5)))) sb_nil)) sb_nil)))
 (sb_one (ss_ret (sn_var 4 (pv 4)))))))
theorem ok_free_lane {f : Addr} {fd : FuncData} (F : L2.Fun K "free_lane" "free_lane" s_free_lane f fd) (T : Txt mg) : FnOk P w K mg base CX0 1 f fd ["lanes"] (spF K 1 f_free_lane) :=
  fn_F F sc_free_lane (fun cdv A outer s H E hr =>
 (sb_cons (ss_for PassesOwn.never rfl (si_enum (by rfl) T.n_enumerate (sn_var 0 (pv 0))) (sg_tup rfl (sgs_cons (pg_name (i := 1) sc_free_lane.nd rfl (by first | exact Or.inl rfl | exact Or.inr rfl)) (sgs_cons (pg_name (i := 2) sc_free_lane.nd rfl (by first | exact Or.inl rfl | exact Or.inr rfl)) sgs_nil))) (sb_one (ss_if (st_w (sw_or (st_not (st_tru (sn_var 2 (pv 2)))) (sw_or1 (st_cmp op_gt r_gt (sn_ix b_ix r_ix (sn_ix b_ix r_ix (sn_var 2 (pv 2)) (sn_c pe_int rfl) (fun _ _ => rfl)) (sn_c pe_int rfl) (fun _ _ => rfl)) (sn_c pe_int rfl) (nomark _))))) (sb_one (ss_ret (sn_var 1 (pv 1)))) sb_nil)))
 (sb_one (ss_ret (sn_c pe_non rfl)))))
theorem ok_entered {f : Addr} {fd : FuncData} (F : L2.Fun K "entered" "entered" s_entered f fd) (T : Txt mg) (c_first_outside : Cal P w K mg base 1 "first_outside" (spF K 4 f_first_outside)) (c_free_lane : Cal P w K mg base 1 "free_lane" (spF K 1 f_free_lane)) : FnOk P w K mg base CX0 2 f fd ["net", "cars", "waiting", "time", "rows"] (spF K 5 f_entered) :=
  fn_F F sc_entered (fun cdv A outer s H E hr =>
 (sb_cons (ss_set (i := 5) sc_entered.nd rfl (by first | exact Or.inl rfl | exact Or.inr rfl) (sn_ad (sn_lst sa_nil)))
 (sb_cons (ss_for PassesOwn.never rfl (si_enum (by rfl) T.n_enumerate (sn_var 4 (pv 4))) (sg_tup rfl (sgs_cons (pg_name (i := 6) sc_entered.nd rfl (by first | exact Or.inl rfl | exact Or.inr rfl)) (sgs_cons (pg_name (i := 7) sc_entered.nd rfl (by first | exact Or.inl rfl | exact Or.inr rfl)) sgs_nil))) (sb_cons (ss_set (i := 8) sc_entered.nd rfl (by first | exact Or.inl rfl | exact Or.inr rfl) (sn_call c_first_outside hr (by decide) (by rfl) (sa_cons (sn_var 1 (pv 1)) (sa_cons (sn_var 2 (pv 2)) (sa_cons (sn_var 3 (pv 3)) (sa_cons (sn_var 6 (pv 6)) sa_nil)))) 0))
 (sb_cons (ss_set (i := 9) sc_entered.nd rfl (by first | exact Or.inl rfl | exact Or.inr rfl) (sn_call c_free_lane hr (by decide) (by rfl) (sa_cons (sn_var 7 (pv 7)) sa_nil) 0))
 (sb_cons (ss_if (st_w (sw_and (st_cmp op_notN r_isNot (sn_var 8 (pv 8)) (sn_c pe_non rfl) (nomark _)) (sw_and1 (st_cmp op_notN r_isNot (sn_var 9 (pv 9)) (sn_c pe_non rfl) (nomark _))))) (sb_cons (ss_set (i := 10) sc_entered.nd rfl (by first | exact Or.inl rfl | exact Or.inr rfl) (sn_bin b_add r_add (sn_tup (sa_cons (sn_tup (sa_cons (sn_c pe_int rfl) (sa_cons (sn_var 8 (pv 8)) (sa_cons (sn_c pe_int rfl) (sa_cons (sn_c pe_int rfl) sa_nil))))) sa_nil)) (sn_ix b_ix r_ix (sn_var 7 (pv 7)) (sn_var 9 (pv 9)) (fun _ _ => rfl))))
 (sb_one (ss_set (i := 7) sc_entered.nd rfl (by first | exact Or.inl rfl | exact Or.inr rfl) (sn_bin b_add r_add (sn_bin b_add r_add (sn_sl (sn_var 7 (pv 7)) so_none (so_some (sn_var 9 (pv 9)))) (sn_tup (sa_cons (sn_var 10 (pv 10)) sa_nil))) (sn_sl (sn_var 7 (pv 7)) (so_some (sn_bin b_add r_add (sn_var 9 (pv 9)) (sn_c pe_int rfl))) so_none))))) sb_nil)
 (sb_one (ss_expr (sn_mth l_app (pe_bm PySem.F.plainAttrs_list PySem.F.slot_list_append PySem.F.type_list_append mt_append (sn_var 5 (pv 5)) (sa_cons (sn_var 7 (pv 7)) sa_nil).run))))))))
 (sb_one (ss_ret (sn_cb c_tuple (pe_callTy call_tuple_of (by rfl) T.n_tuple (by decide +kernel) (sa_cons (sn_var 5 (pv 5)) sa_nil).run)))))))
theorem ok_step {f : Addr} {fd : FuncData} (F : L2.Fun K "step" "step" s_step f fd) (T : Txt mg) (c_outside : Cal P w K mg base 2 "outside" (spF K 2 f_outside)) (c_changed : Cal P w K mg base 4 "changed" (spF K 3 f_changed)) (c_moved : Cal P w K mg base 6 "moved" (spF K 4 f_moved)) (c_entered : Cal P w K mg base 2 "entered" (spF K 5 f_entered)) : FnOk P w K mg base CX0 7 f fd ["net", "cars", "state"] (spF K 3 f_step) :=
  fn_F F sc_step (fun cdv A outer s H E hr =>
 (sb_cons (ss_set (i := 3) sc_step.nd rfl (by first | exact Or.inl rfl | exact Or.inr rfl) (sn_ix b_ix r_ix (sn_var 2 (pv 2)) (sn_c pe_int rfl) (fun _ _ => rfl)))
 (sb_cons (ss_asg (sn_call c_moved hr (by decide) (by rfl) (sa_cons (sn_var 0 (pv 0)) (sa_cons (sn_var 1 (pv 1)) (sa_cons (sn_var 3 (pv 3)) (sa_cons (sn_call c_changed hr (by decide) (by rfl) (sa_cons (sn_var 0 (pv 0)) (sa_cons (sn_var 1 (pv 1)) (sa_cons (sn_var 2 (pv 2)) sa_nil))) 0) sa_nil)))) 0) (sg_tup rfl (sgs_cons (pg_name (i := 5) sc_step.nd rfl (by first | exact Or.inl rfl | exact Or.inr rfl)) (sgs_cons (pg_name (i := 6) sc_step.nd rfl (by first | exact Or.inl rfl | exact Or.inr rfl)) sgs_nil))))
 (sb_cons (ss_set (i := 4) sc_step.nd rfl (by first | exact Or.inl rfl | exact Or.inr rfl) (sn_cb c_tuple (pe_callTy call_tuple_of (by rfl) T.n_tuple (by decide +kernel) (sa_cons (sn_fz (sn_cf (c_sortT (d := 2) (C := 2097152)) (pe_callB (cr_sortT (by decide)) (by rfl) T.n_sorted (by decide +kernel) (sa_cons (sn_bin b_add r_add (sn_fz (sn_cf c_list (pe_callTy call_list_of (by rfl) T.n_list (by decide +kernel) (sa_cons (sn_ix b_ix r_ix (sn_var 2 (pv 2)) (sn_c pe_int rfl) (fun _ _ => rfl)) sa_nil).run))) (sn_fz (sn_lc (own := [("car", 7)]) rfl sc_step.nd (si_seq (sn_var 6 (pv 6))) (blkOk_by (own := [("car", 7)]) (N := n_step) (sc := defScope s_step) (by decide +kernel)) (fun _ _ _ _ _ => (sg_name (pg_name (i := 7) sc_step.nd rfl (by first | exact Or.inl rfl | exact Or.inr rfl)))) (fun _ _ _ _ _ => pts_true) (fun _ _ _ _ _ => (sn_tup (sa_cons (sn_var 7 (pv 7)) (sa_cons (sn_bin b_add r_add (sn_var 3 (pv 3)) (sn_c pe_int rfl)) sa_nil)))) (by decide)))) sa_nil).run))) sa_nil).run)))
 (sb_one (ss_ret (sn_tup (sa_cons (sn_bin b_add r_add (sn_var 3 (pv 3)) (sn_c pe_int rfl)) (sa_cons (sn_call c_entered hr (by decide) (by rfl) (sa_cons (sn_var 0 (pv 0)) (sa_cons (sn_var 1 (pv 1)) (sa_cons (sn_call c_outside hr (by decide) (by rfl) (sa_cons (sn_var 1 (pv 1)) (sa_cons (sn_var 2 (pv 2)) sa_nil)) 0) (sa_cons (sn_var 3 (pv 3)) (sa_cons (sn_var 5 (pv 5)) sa_nil))))) 0) (sa_cons (sn_var 4 (pv 4)) sa_nil))))))))))
theorem ok_beginning {f : Addr} {fd : FuncData} (F : L2.Fun K "beginning" "beginning" s_beginning f fd) (T : Txt mg) : FnOk P w K mg base CX0 1 f fd ["net"] (spF K 1 f_beginning) :=
  fn_F F sc_beginning (fun cdv A outer s H E hr =>
 (sb_one (ss_ret (sn_tup (sa_cons (sn_c pe_int rfl) (sa_cons (sn_cb c_tuple (pe_callTy call_tuple_of (by rfl) T.n_tuple (by decide +kernel) (sa_cons (sn_fz (sn_lc (own := [("road", 1)]) rfl sc_beginning.nd (si_seq (sn_ix b_ix r_ix (sn_var 0 (pv 0)) (sn_c pe_int rfl) (fun _ _ => rfl))) (blkOk_by (own := [("road", 1)]) (N := n_beginning) (sc := defScope s_beginning) (by decide +kernel)) (fun _ _ _ _ _ => (sg_name (pg_name (i := 1) sc_beginning.nd rfl (by first | exact Or.inl rfl | exact Or.inr rfl)))) (fun _ _ _ _ _ => pts_true) (fun _ _ _ _ _ => (sn_bin b_mul r_mul (sn_tup (sa_cons (sn_tup sa_nil) sa_nil)) (sn_ix b_ix r_ix (sn_var 1 (pv 1)) (sn_c pe_int rfl) (fun _ _ => rfl)))) (by decide))) sa_nil).run)) (sa_cons (sn_tup sa_nil) sa_nil)))))))
theorem ok_run {f : Addr} {fd : FuncData} (F : L2.Fun K "run" "run" s_run f fd) (T : Txt mg) (c_beginning : Cal P w K mg base 1 "beginning" (spF K 1 f_beginning)) (c_step : Cal P w K mg base 7 "step" (spF K 3 f_step)) : FnOk P w K mg base CX0 8 f fd ["net", "cars", "until"] (spG K 3 f_run) :=
  fn_G F sc_run (fun cdv A outer s H E hr =>
 (sb_cons (ss_set (i := 3) sc_run.nd rfl (by first | exact Or.inl rfl | exact Or.inr rfl) (sn_ad (sn_lst (sa_cons (sn_call c_beginning hr (by decide) (by rfl) (sa_cons (sn_var 0 (pv 0)) sa_nil) 0) sa_nil))))
 (sb_cons (ss_for PassesOwn.never rfl (si_rng1 (by rfl) T.n_range (sa_cons (sn_var 2 (pv 2)) sa_nil) (pi_range1 (by rfl) T.n_range (sa_cons (sn_var 2 (pv 2)) sa_nil).run)) (sg_name (pg_name (i := 4) sc_run.nd rfl (by first | exact Or.inl rfl | exact Or.inr rfl))) (sb_one (ss_expr (sn_mth l_app (pe_bm PySem.F.plainAttrs_list PySem.F.slot_list_append PySem.F.type_list_append mt_append (sn_var 3 (pv 3)) (sa_cons (sn_call c_step hr (by decide) (by rfl) (sa_cons (sn_var 0 (pv 0)) (sa_cons (sn_var 1 (pv 1)) (sa_cons (sn_ix b_ix r_ix (sn_var 3 (pv 3)) (sn_neg (sn_c pe_int rfl)) (fun _ _ => rfl)) sa_nil))) 0) sa_nil).run)))))
 (sb_one (ss_ret (sn_var 3 (pv 3)))))))
theorem ok__law_stream {f : Addr} {fd : FuncData} (F : L2.Fun K "_law_stream" "_law_stream" s__law_stream f fd) (T : Txt mg) : FnOk P w K mg base CX0 1 f fd ["_law_script"] (spG K 1 f__law_stream) :=
  fn_G F sc__law_stream (fun cdv A outer s H E hr =>
 (sb_cons (ss_set (i := 1) sc__law_stream.nd rfl (by first | exact Or.inl rfl | exact Or.inr rfl) (sn_c pe_int rfl))
 (sb_cons (ss_for PassesOwn.never rfl (si_seq (sn_var 0 (pv 0))) (sg_name (pg_name (i := 2) sc__law_stream.nd rfl (by first | exact Or.inl rfl | exact Or.inr rfl))) (sb_one (ss_set (i := 1) sc__law_stream.nd rfl (by first | exact Or.inl rfl | exact Or.inr rfl) (sn_bin op_mod r_mod (sn_cb c_int (pe_callTy call_int1 (by rfl) T.n_int (by decide +kernel) (sa_cons (sn_bin b_add r_add (sn_bin b_add r_add (sn_bin b_mul r_mul (sn_var 1 (pv 1)) (sn_c pe_int rfl)) (sn_bin op_mod r_mod (sn_cb c_int (pe_callTy call_int1 (by rfl) T.n_int (by decide +kernel) (sa_cons (sn_var 2 (pv 2)) sa_nil).run)) (sn_c pe_int rfl))) (sn_c pe_int rfl)) sa_nil).run)) (sn_c pe_int rfl)))))
 (sb_one (ss_ret (sn_ad (sn_lst (sa_cons (sn_ad (sn_cf c_list (pe_callTy call_list_of (by rfl) T.n_list (by decide +kernel) (sa_cons (sn_var 0 (pv 0)) sa_nil).run))) (sa_cons (sn_c pe_int rfl) (sa_cons (sn_c pe_int rfl) (sa_cons (sn_var 1 (pv 1)) sa_nil)))))))))))
theorem ok__law_draw {f : Addr} {fd : FuncData} (F : L2.Fun K "_law_draw" "_law_draw" s__law_draw f fd) (T : Txt mg) : FnOk P w K mg base CX0 1 f fd ["_law_stream_here", "_law_many"] (spF K 2 f__law_draw) :=
  fn_F F sc__law_draw (fun cdv A outer s H E hr =>
 (sb_cons (ss_if (st_w (sw_and (st_cmp (op_eqD hr.units) r_eq (sn_ix b_ix r_ix (sn_var 0 (pv 0)) (sn_c pe_int rfl) (fun _ _ => rfl)) (sn_c pe_int rfl) (nomark _)) (sw_and1 (st_cmp op_lt r_lt (sn_ix b_ix r_ix (sn_var 0 (pv 0)) (sn_c pe_int rfl) (fun _ _ => rfl)) (sn_cb c_len (pe_callB call_len_seq (by rfl) T.n_len (by decide +kernel) (sa_cons (sn_ix b_ix r_ix (sn_var 0 (pv 0)) (sn_c pe_int rfl) (fun _ _ => rfl)) sa_nil).run)) (nomark _))))) (sb_cons (ss_setL (sn_cb c_1I (pe_callB call_abs (by rfl) T.n_abs (by decide +kernel) (sa_cons (sn_cb c_int (pe_callTy call_int1 (by rfl) T.n_int (by decide +kernel) (sa_cons (sn_ix b_ix r_ix (sn_ix b_ix r_ix (sn_var 0 (pv 0)) (sn_c pe_int rfl) (fun _ _ => rfl)) (sn_ix b_ix r_ix (sn_var 0 (pv 0)) (sn_c pe_int rfl) (fun _ _ => rfl)) (fun _ _ => rfl)) sa_nil).run)) sa_nil).run)) (sn_var 0 (pv 0)) (sn_c pe_int rfl))
 (sb_one (ss_setL (sn_bin b_add r_add (sn_ix b_ix r_ix (sn_var 0 (pv 0)) (sn_c pe_int rfl) (fun _ _ => rfl)) (sn_c pe_int rfl)) (sn_var 0 (pv 0)) (sn_c pe_int rfl)))) sb_nil)
 (sb_cons (ss_if (st_cmp (op_eqD hr.units) r_eq (sn_ix b_ix r_ix (sn_var 0 (pv 0)) (sn_c pe_int rfl) (fun _ _ => rfl)) (sn_c pe_int rfl) (nomark _)) (sb_cons (ss_setL (sn_bin op_mod r_mod (sn_cb c_int (pe_callTy call_int1 (by rfl) T.n_int (by decide +kernel) (sa_cons (sn_bin b_add r_add (sn_bin b_mul r_mul (sn_ix b_ix r_ix (sn_var 0 (pv 0)) (sn_c pe_int rfl) (fun _ _ => rfl)) (sn_c pe_int rfl)) (sn_c pe_int rfl)) sa_nil).run)) (sn_c pe_int rfl)) (sn_var 0 (pv 0)) (sn_c pe_int rfl))
 (sb_one (ss_ret (sn_bin op_mod r_mod (sn_cb c_int (pe_callTy call_int1 (by rfl) T.n_int (by decide +kernel) (sa_cons (sn_bin op_fdiv r_div (sn_ix b_ix r_ix (sn_var 0 (pv 0)) (sn_c pe_int rfl) (fun _ _ => rfl)) (sn_c pe_int rfl)) sa_nil).run)) (sn_var 1 (pv 1)))))) sb_nil)
 (sb_cons (ss_set (i := 2) sc__law_draw.nd rfl (by first | exact Or.inl rfl | exact Or.inr rfl) (sn_bin op_mod r_mod (sn_cb c_int (pe_callTy call_int1 (by rfl) T.n_int (by decide +kernel) (sa_cons (sn_ix b_ix r_ix (sn_var 0 (pv 0)) (sn_c pe_int rfl) (fun _ _ => rfl)) sa_nil).run)) (sn_var 1 (pv 1))))
 (sb_cons (ss_setL (sn_bin op_fdiv r_div (sn_ix b_ix r_ix (sn_var 0 (pv 0)) (sn_c pe_int rfl) (fun _ _ => rfl)) (sn_var 1 (pv 1))) (sn_var 0 (pv 0)) (sn_c pe_int rfl))
 (sb_one (ss_ret (sn_var 2 (pv 2)))))))))
theorem ok__law_some {f : Addr} {fd : FuncData} (F : L2.Fun K "_law_some" "_law_some" s__law_some f fd) (T : Txt mg) (c__law_draw : Cal P w K mg base 1 "_law_draw" (spF K 2 f__law_draw)) : FnOk P w K mg base CX0 2 f fd ["_law_stream_here", "_law_rows"] (spF K 2 f__law_some) :=
  fn_F F sc__law_some (fun cdv A outer s H E hr =>
 (sb_one (ss_ret (sn_cb c_tuple (pe_callTy call_tuple_of (by rfl) T.n_tuple (by decide +kernel) (sa_cons (sn_fz (sn_lc (own := [("_law_row", 2)]) rfl sc__law_some.nd (si_seq (sn_var 1 (pv 1))) (blkOk_by (own := [("_law_row", 2)]) (N := n__law_some) (sc := defScope s__law_some) (by decide +kernel)) (fun _ _ _ _ _ => (sg_name (pg_name (i := 2) sc__law_some.nd rfl (by first | exact Or.inl rfl | exact Or.inr rfl)))) (fun _ _ _ _ _ => (pts_test (st_cmp (op_eqD hr.units) r_eq (sn_call c__law_draw hr (by decide) (by rfl) (sa_cons (sn_var 0 (pv 0)) (sa_cons (sn_c pe_int rfl) sa_nil)) 2) (sn_c pe_int rfl) (nomark _)))) (fun _ _ _ _ _ => (sn_var 2 (pv 2))) (by decide))) sa_nil).run)))))
theorem ok__law_rule {f : Addr} {fd : FuncData} (F : L2.Fun K "_law_rule" "_law_rule" s__law_rule f fd) (T : Txt mg) (c__law_draw : Cal P w K mg base 1 "_law_draw" (spF K 2 f__law_draw)) (c__law_some : Cal P w K mg base 2 "_law_some" (spF K 2 f__law_some)) : FnOk P w K mg base CX0 3 f fd ["_law_stream_here", "_law_closing"] (spF K 2 f__law_rule) :=
  fn_F F sc__law_rule (fun cdv A outer s H E hr =>
 (sb_cons (ss_if (st_cmp (op_eqD hr.units) r_eq (sn_call c__law_draw hr (by decide) (by rfl) (sa_cons (sn_var 0 (pv 0)) (sa_cons (sn_c pe_int rfl) sa_nil)) 2) (sn_c pe_int rfl) (nomark _)) (sb_cons (ss_setLc (ps_setLc (i := 4) (own := [("_law_k", 6)]) (g := tTg _ (.nm 6)) (tt := tT _ mTrue) (te := tE _ (mTup (mCons (mOp dAdd (mC (.int 1)) (mCall 2 f__law_draw (mCons (mVar 0) (mCons (mC (.int 9)) mNil)))) (mCons (mCall 2 f__law_some (mCons (mVar 0) (mCons (mVar 1) mNil))) mNil)))) rfl sc__law_rule.nd rfl rfl (sw_true rfl rfl rfl (by decide +kernel)) (si_rng1 (by rfl) T.n_range (sa_cons (sn_bin b_add r_add (sn_c pe_int rfl) (sn_call c__law_draw hr (by decide) (by rfl) (sa_cons (sn_var 0 (pv 0)) (sa_cons (sn_c pe_int rfl) sa_nil)) 2)) sa_nil) (pi_range1 (by rfl) T.n_range (sa_cons (sn_bin b_add r_add (sn_c pe_int rfl) (sn_call c__law_draw hr (by decide) (by rfl) (sa_cons (sn_var 0 (pv 0)) (sa_cons (sn_c pe_int rfl) sa_nil)) 2)) sa_nil).run)) (blkOk_by (own := [("_law_k", 6)]) (N := n__law_rule) (sc := defScope s__law_rule) (by decide +kernel)) (fun _ _ _ _ _ => (sg_name (pg_name (i := 6) sc__law_rule.nd rfl (by first | exact Or.inl rfl | exact Or.inr rfl)))) (fun _ _ _ _ _ => pts_true) (fun _ _ _ _ _ => (sn_tup (sa_cons (sn_bin b_add r_add (sn_c pe_int rfl) (sn_call c__law_draw hr (by decide) (by rfl) (sa_cons (sn_var 0 (pv 0)) (sa_cons (sn_c pe_int rfl) sa_nil)) 2)) (sa_cons (sn_call c__law_some hr (by decide) (by rfl) (sa_cons (sn_var 0 (pv 0)) (sa_cons (sn_var 1 (pv 1)) sa_nil)) 2) sa_nil))))) (fz_of (lc_of (by decide))))
 (sb_one (ss_ret (sn_tup (sa_cons (sn_c pe_str rfl) (sa_cons (sn_cb c_tuple (pe_callTy call_tuple_of (by rfl) T.n_tuple (by decide +kernel) (sa_cons (sn_var 4 (pv 4)) sa_nil).run)) sa_nil)))))) sb_nil)
 (sb_cons (ss_set (i := 2) sc__law_rule.nd rfl (by first | exact Or.inl rfl | exact Or.inr rfl) (sn_ad (sn_cf c_list (pe_callTy call_list_of (by rfl) T.n_list (by decide +kernel) (sa_cons (sn_var 1 (pv 1)) sa_nil).run))))
 (sb_cons (ss_for PassesOwn.never rfl (si_rng1 (by rfl) T.n_range (sa_cons (sn_cb c_len (pe_callB call_len_seq (by rfl) T.n_len (by decide +kernel) (sa_cons (sn_var 2 (pv 2)) sa_nil).run)) sa_nil) (pi_range1 (by rfl) T.n_range (sa_cons (sn_cb c_len (pe_callB call_len_seq (by rfl) T.n_len (by decide +kernel) (sa_cons (sn_var 2 (pv 2)) sa_nil).run)) sa_nil).run)) (sg_name (pg_name (i := 3) sc__law_rule.nd rfl (by first | exact Or.inl rfl | exact Or.inr rfl))) (sb_cons (ss_set (i := 5) sc__law_rule.nd rfl (by first | exact Or.inl rfl | exact Or.inr rfl) (sn_call c__law_draw hr (by decide) (by rfl) (sa_cons (sn_var 0 (pv 0)) (sa_cons (sn_cb c_len (pe_callB call_len_seq (by rfl) T.n_len (by decide +kernel) (sa_cons (sn_var 2 (pv 2)) sa_nil).run)) sa_nil)) 2))
 (sb_one (ps_imp (ps_asg (sn_tup (sa_cons (sn_ix b_ix r_ix (sn_var 2 (pv 2)) (sn_var 5 (pv 5)) (fun _ _ => rfl)) (sa_cons (sn_ix b_ix r_ix (sn_var 2 (pv 2)) (sn_var 3 (pv 3)) (fun _ _ => rfl)) sa_nil))) (pg_tup rfl (pgs_cons (pg_sub (sn_var 2 (pv 2)) (sn_var 3 (pv 3)) set_list) (pgs_cons (pg_sub (sn_var 2 (pv 2)) (sn_var 5 (pv 5)) set_list) pgs_nil)))) swap_of))))
 (sb_one (ss_ret (sn_tup (sa_cons (sn_c pe_str rfl) (sa_cons (sn_cb c_tupX (pe_callTy call_tupX (by rfl) T.n_tuple (by decide +kernel) (sa_cons (sn_var 2 (pv 2)) sa_nil).run)) sa_nil)))))))))
theorem ok__law_net {f : Addr} {fd : FuncData} (F : L2.Fun K "_law_net" "_law_net" s__law_net f fd) (T : Txt mg) (c__law_draw : Cal P w K mg base 1 "_law_draw" (spF K 2 f__law_draw)) (c__law_rule : Cal P w K mg base 3 "_law_rule" (spF K 2 f__law_rule)) : FnOk P w K mg base CX0 4 f fd ["_law_stream_here"] (spF K 1 f__law_net) :=
  fn_F F sc__law_net (fun cdv A outer s H E hr =>
 (sb_cons (ss_set (i := 1) sc__law_net.nd rfl (by first | exact Or.inl rfl | exact Or.inr rfl) (sn_bin b_add r_add (sn_c pe_int rfl) (sn_call c__law_draw hr (by decide) (by rfl) (sa_cons (sn_var 0 (pv 0)) (sa_cons (sn_ix b_ix r_ix (sn_fz (sn_lst (sa_cons (sn_c pe_int rfl) (sa_cons (sn_c pe_int rfl) (sa_cons (sn_c pe_int rfl) sa_nil))))) (sn_call c__law_draw hr (by decide) (by rfl) (sa_cons (sn_var 0 (pv 0)) (sa_cons (sn_c pe_int rfl) sa_nil)) 2) (fun _ _ => rfl)) sa_nil)) 2)))
 (sb_cons (ss_set (i := 2) sc__law_net.nd rfl (by first | exact Or.inl rfl | exact Or.inr rfl) (sn_call c__law_draw hr (by decide) (by rfl) (sa_cons (sn_var 0 (pv 0)) (sa_cons (sn_ix b_ix r_ix (sn_fz (sn_lst (sa_cons (sn_c pe_int rfl) (sa_cons (sn_c pe_int rfl) sa_nil)))) (sn_cb c_int (pe_callTy call_int1 (by rfl) T.n_int (by decide +kernel) (sa_cons (sn_cmp (op_eqD hr.units) r_eq (sn_call c__law_draw hr (by decide) (by rfl) (sa_cons (sn_var 0 (pv 0)) (sa_cons (sn_c pe_int rfl) sa_nil)) 2) (sn_c pe_int rfl) (nomark _)) sa_nil).run)) (fun _ _ => rfl)) sa_nil)) 2))
 (sb_cons (ss_set (i := 3) sc__law_net.nd rfl (by first | exact Or.inl rfl | exact Or.inr rfl) (sn_ad (sn_lst sa_nil)))
 (sb_cons (ss_setLc (ps_setLc (i := 4) (own := [("_law_k", 12)]) (g := tTg _ (.nm 12)) (tt := tT _ mTrue) (te := tE _ (mAd mNil)) rfl sc__law_net.nd rfl rfl (sw_true rfl rfl rfl (by decide +kernel)) (si_rng1 (by rfl) T.n_range (sa_cons (sn_var 2 (pv 2)) sa_nil) (pi_range1 (by rfl) T.n_range (sa_cons (sn_var 2 (pv 2)) sa_nil).run)) (blkOk_by (own := [("_law_k", 12)]) (N := n__law_net) (sc := defScope s__law_net) (by decide +kernel)) (fun _ _ _ _ _ => (sg_name (pg_name (i := 12) sc__law_net.nd rfl (by first | exact Or.inl rfl | exact Or.inr rfl)))) (fun _ _ _ _ _ => pts_true) (fun _ _ _ _ _ => (sn_ad (sn_lst sa_nil)))) (ad_of (lc_of (by decide))))
 (sb_cons (ss_for PassesOwn.never rfl (si_rng1 (by rfl) T.n_range (sa_cons (sn_var 1 (pv 1)) sa_nil) (pi_range1 (by rfl) T.n_range (sa_cons (sn_var 1 (pv 1)) sa_nil).run)) (sg_name (pg_name (i := 5) sc__law_net.nd rfl (by first | exact Or.inl rfl | exact Or.inr rfl))) (sb_cons (ss_set (i := 8) sc__law_net.nd rfl (by first | exact Or.inl rfl | exact Or.inr rfl) (sn_bin b_add r_add (sn_c pe_int rfl) (sn_call c__law_draw hr (by decide) (by rfl) (sa_cons (sn_var 0 (pv 0)) (sa_cons (sn_ix b_ix r_ix (sn_fz (sn_lst (sa_cons (sn_c pe_int rfl) (sa_cons (sn_c pe_int rfl) (sa_cons (sn_c pe_int rfl) sa_nil))))) (sn_call c__law_draw hr (by decide) (by rfl) (sa_cons (sn_var 0 (pv 0)) (sa_cons (sn_c pe_int rfl) sa_nil)) 2) (fun _ _ => rfl)) sa_nil)) 2)))
 (sb_cons (ss_set (i := 9) sc__law_net.nd rfl (by first | exact Or.inl rfl | exact Or.inr rfl) (sn_bin op_sub r_sub (sn_call c__law_draw hr (by decide) (by rfl) (sa_cons (sn_var 0 (pv 0)) (sa_cons (sn_bin b_add r_add (sn_var 2 (pv 2)) (sn_c pe_int rfl)) sa_nil)) 2) (sn_c pe_int rfl)))
 (sb_cons (ss_expr (sn_mth l_app (pe_bm PySem.F.plainAttrs_list PySem.F.slot_list_append PySem.F.type_list_append mt_append (sn_var 3 (pv 3)) (sa_cons (sn_tup (sa_cons (sn_bin b_add r_add (sn_c pe_int rfl) (sn_call c__law_draw hr (by decide) (by rfl) (sa_cons (sn_var 0 (pv 0)) (sa_cons (sn_c pe_int rfl) sa_nil)) 2)) (sa_cons (sn_var 8 (pv 8)) (sa_cons (sn_bin b_add r_add (sn_c pe_int rfl) (sn_call c__law_draw hr (by decide) (by rfl) (sa_cons (sn_var 0 (pv 0)) (sa_cons (sn_c pe_int rfl) sa_nil)) 2)) (sa_cons (sn_var 9 (pv 9)) sa_nil))))) sa_nil).run)))
 (sb_cons (ss_set (i := 10) sc__law_net.nd rfl (by first | exact Or.inl rfl | exact Or.inr rfl) (sn_bin op_sub r_sub (sn_call c__law_draw hr (by decide) (by rfl) (sa_cons (sn_var 0 (pv 0)) (sa_cons (sn_bin b_add r_add (sn_var 2 (pv 2)) (sn_c pe_int rfl)) sa_nil)) 2) (sn_c pe_int rfl)))
 (sb_one (ss_if (st_w (sw_and (st_cmp op_ge r_ge (sn_var 10 (pv 10)) (sn_c pe_int rfl) (nomark _)) (sw_and1 (st_cmp op_lt r_lt (sn_cb c_len (pe_callB call_len_seq (by rfl) T.n_len (by decide +kernel) (sa_cons (sn_ix b_ix r_ix (sn_var 4 (pv 4)) (sn_var 10 (pv 10)) (fun _ _ => rfl)) sa_nil).run)) (sn_c pe_int rfl) (nomark _))))) (sb_one (ss_expr (sn_mth l_app (pe_bm PySem.F.plainAttrs_list PySem.F.slot_list_append PySem.F.type_list_append mt_append (sn_ix b_ix r_ix (sn_var 4 (pv 4)) (sn_var 10 (pv 10)) (fun _ _ => rfl)) (sa_cons (sn_var 5 (pv 5)) sa_nil).run)))) sb_nil)))))))
 (sb_cons (ss_set (i := 6) sc__law_net.nd rfl (by first | exact Or.inl rfl | exact Or.inr rfl) (sn_ad (sn_lst sa_nil)))
 (sb_cons (ss_for PassesOwn.never rfl (si_rng1 (by rfl) T.n_range (sa_cons (sn_var 2 (pv 2)) sa_nil) (pi_range1 (by rfl) T.n_range (sa_cons (sn_var 2 (pv 2)) sa_nil).run)) (sg_name (pg_name (i := 7) sc__law_net.nd rfl (by first | exact Or.inl rfl | exact Or.inr rfl))) (sb_cons (ss_setLc (ps_setLc (i := 11) (own := [("_law_road", 5)]) (g := tTg _ (.nm 5)) (tt := tT _ (mB (mOp dEq (mOp dIx (mOp dIx (mVar 3) (mVar 5)) (mC (.int 3))) (mVar 7)))) (te := tE _ (mVar 5)) rfl sc__law_net.nd rfl rfl (sw_true rfl rfl rfl (by decide +kernel)) (si_rng1 (by rfl) T.n_range (sa_cons (sn_var 1 (pv 1)) sa_nil) (pi_range1 (by rfl) T.n_range (sa_cons (sn_var 1 (pv 1)) sa_nil).run)) (blkOk_by (own := [("_law_road", 5)]) (N := n__law_net) (sc := defScope s__law_net) (by decide +kernel)) (fun _ _ _ _ _ => (sg_name (pg_name (i := 5) sc__law_net.nd rfl (by first | exact Or.inl rfl | exact Or.inr rfl)))) (fun _ _ _ _ _ => (pts_test (st_cmp (op_eqD hr.units) r_eq (sn_ix b_ix r_ix (sn_ix b_ix r_ix (sn_var 3 (pv 3)) (sn_var 5 (pv 5)) (fun _ _ => rfl)) (sn_c pe_int rfl) (fun _ _ => rfl)) (sn_var 7 (pv 7)) (nomark _)))) (fun _ _ _ _ _ => (sn_var 5 (pv 5)))) (fz_of (lc_of (by decide))))
 (sb_one (ss_expr (sn_mth l_app (pe_bm PySem.F.plainAttrs_list PySem.F.slot_list_append PySem.F.type_list_append mt_append (sn_var 6 (pv 6)) (sa_cons (sn_tup (sa_cons (sn_call c__law_rule hr (by decide) (by rfl) (sa_cons (sn_var 0 (pv 0)) (sa_cons (sn_var 11 (pv 11)) sa_nil)) 2) (sa_cons (sn_cb c_tuple (pe_callTy call_tuple_of (by rfl) T.n_tuple (by decide +kernel) (sa_cons (sn_ix b_ix r_ix (sn_var 4 (pv 4)) (sn_var 7 (pv 7)) (fun _ _ => rfl)) sa_nil).run)) sa_nil))) sa_nil).run))))))
 (sb_one (ss_ret (sn_tup (sa_cons (sn_cb c_tuple (pe_callTy call_tuple_of (by rfl) T.n_tuple (by decide +kernel) (sa_cons (sn_var 3 (pv 3)) sa_nil).run)) (sa_cons (sn_cb c_tuple (pe_callTy call_tuple_of (by rfl) T.n_tuple (by decide +kernel) (sa_cons (sn_var 6 (pv 6)) sa_nil).run)) sa_nil)))))))))))))
theorem ok__law_way {f : Addr} {fd : FuncData} (F : L2.Fun K "_law_way" "_law_way" s__law_way f fd) (T : Txt mg) (c__law_draw : Cal P w K mg base 1 "_law_draw" (spF K 2 f__law_draw)) : FnOk P w K mg base CX0 2 f fd ["_law_stream_here", "_law_net_here"] (spF K 2 f__law_way) :=
  fn_F F sc__law_way (fun cdv A outer s H E hr =>
 (sb_cons (ss_set (i := 2) sc__law_way.nd rfl (by first | exact Or.inl rfl | exact Or.inr rfl) (sn_ad (sn_lst (sa_cons (sn_call c__law_draw hr (by decide) (by rfl) (sa_cons (sn_var 0 (pv 0)) (sa_cons (sn_cb c_len (pe_callB call_len_seq (by rfl) T.n_len (by decide +kernel) (sa_cons (sn_ix b_ix r_ix (sn_var 1 (pv 1)) (sn_c pe_int rfl) (fun _ _ => rfl)) sa_nil).run)) sa_nil)) 2) sa_nil))))
 (sb_cons (ss_for PassesOwn.never rfl (si_rng1 (by rfl) T.n_range (sa_cons (sn_call c__law_draw hr (by decide) (by rfl) (sa_cons (sn_var 0 (pv 0)) (sa_cons (sn_c pe_int rfl) sa_nil)) 2) sa_nil) (pi_range1 (by rfl) T.n_range (sa_cons (sn_call c__law_draw hr (by decide) (by rfl) (sa_cons (sn_var 0 (pv 0)) (sa_cons (sn_c pe_int rfl) sa_nil)) 2) sa_nil).run)) (sg_name (pg_name (i := 3) sc__law_way.nd rfl (by first | exact Or.inl rfl | exact Or.inr rfl))) (sb_cons (ss_set (i := 4) sc__law_way.nd rfl (by first | exact Or.inl rfl | exact Or.inr rfl) (sn_ix b_ix r_ix (sn_ix b_ix r_ix (sn_ix b_ix r_ix (sn_var 1 (pv 1)) (sn_c pe_int rfl) (fun _ _ => rfl)) (sn_ix b_ix r_ix (sn_var 2 (pv 2)) (sn_neg (sn_c pe_int rfl)) (fun _ _ => rfl)) (fun _ _ => rfl)) (sn_c pe_int rfl) (fun _ _ => rfl)))
 (sb_cons (ss_if (st_w (sw_or (st_cmp op_lt r_lt (sn_var 4 (pv 4)) (sn_c pe_int rfl) (nomark _)) (sw_or1 (st_not (st_tru (sn_ix b_ix r_ix (sn_ix b_ix r_ix (sn_ix b_ix r_ix (sn_var 1 (pv 1)) (sn_c pe_int rfl) (fun _ _ => rfl)) (sn_var 4 (pv 4)) (fun _ _ => rfl)) (sn_c pe_int rfl) (fun _ _ => rfl))))))) (sb_one ss_break) sb_nil)
 (sb_one (ss_expr (sn_mth l_app (pe_bm PySem.F.plainAttrs_list PySem.F.slot_list_append PySem.F.type_list_append mt_append (sn_var 2 (pv 2)) (sa_cons (sn_ix b_ix r_ix (sn_ix b_ix r_ix (sn_ix b_ix r_ix (sn_ix b_ix r_ix (sn_var 1 (pv 1)) (sn_c pe_int rfl) (fun _ _ => rfl)) (sn_var 4 (pv 4)) (fun _ _ => rfl)) (sn_c pe_int rfl) (fun _ _ => rfl)) (sn_call c__law_draw hr (by decide) (by rfl) (sa_cons (sn_var 0 (pv 0)) (sa_cons (sn_cb c_len (pe_callB call_len_seq (by rfl) T.n_len (by decide +kernel) (sa_cons (sn_ix b_ix r_ix (sn_ix b_ix r_ix (sn_ix b_ix r_ix (sn_var 1 (pv 1)) (sn_c pe_int rfl) (fun _ _ => rfl)) (sn_var 4 (pv 4)) (fun _ _ => rfl)) (sn_c pe_int rfl) (fun _ _ => rfl)) sa_nil).run)) sa_nil)) 2) (fun _ _ => rfl)) sa_nil).run)))))))
 (sb_one (ss_ret (sn_cb c_tupX (pe_callTy call_tupX (by rfl) T.n_tuple (by decide +kernel) (sa_cons (sn_var 2 (pv 2)) sa_nil).run)))))))
theorem ok__law_cars {f : Addr} {fd : FuncData} (F : L2.Fun K "_law_cars" "_law_cars" s__law_cars f fd) (T : Txt mg) (c__law_draw : Cal P w K mg base 1 "_law_draw" (spF K 2 f__law_draw)) (c__law_way : Cal P w K mg base 2 "_law_way" (spF K 2 f__law_way)) : FnOk P w K mg base CX0 3 f fd ["_law_stream_here", "_law_net_here"] (spF K 2 f__law_cars) :=
  fn_F F sc__law_cars (fun cdv A outer s H E hr =>
 (sb_cons (ss_set (i := 2) sc__law_cars.nd rfl (by first | exact Or.inl rfl | exact Or.inr rfl) (sn_ad (sn_lst sa_nil)))
 (sb_cons (ss_for PassesOwn.never rfl (si_rng1 (by rfl) T.n_range (sa_cons (sn_call c__law_draw hr (by decide) (by rfl) (sa_cons (sn_var 0 (pv 0)) (sa_cons (sn_ix b_ix r_ix (sn_fz (sn_lst (sa_cons (sn_c pe_int rfl) (sa_cons (sn_c pe_int rfl) sa_nil)))) (sn_call c__law_draw hr (by decide) (by rfl) (sa_cons (sn_var 0 (pv 0)) (sa_cons (sn_c pe_int rfl) sa_nil)) 2) (fun _ _ => rfl)) sa_nil)) 2) sa_nil) (pi_range1 (by rfl) T.n_range (sa_cons (sn_call c__law_draw hr (by decide) (by rfl) (sa_cons (sn_var 0 (pv 0)) (sa_cons (sn_ix b_ix r_ix (sn_fz (sn_lst (sa_cons (sn_c pe_int rfl) (sa_cons (sn_c pe_int rfl) sa_nil)))) (sn_call c__law_draw hr (by decide) (by rfl) (sa_cons (sn_var 0 (pv 0)) (sa_cons (sn_c pe_int rfl) sa_nil)) 2) (fun _ _ => rfl)) sa_nil)) 2) sa_nil).run)) (sg_name (pg_name (i := 3) sc__law_cars.nd rfl (by first | exact Or.inl rfl | exact Or.inr rfl))) (sb_one (ss_expr (sn_mth l_app (pe_bm PySem.F.plainAttrs_list PySem.F.slot_list_append PySem.F.type_list_append mt_append (sn_var 2 (pv 2)) (sa_cons (sn_tup (sa_cons (sn_call c__law_draw hr (by decide) (by rfl) (sa_cons (sn_var 0 (pv 0)) (sa_cons (sn_ix b_ix r_ix (sn_fz (sn_lst (sa_cons (sn_c pe_int rfl) (sa_cons (sn_c pe_int rfl) sa_nil)))) (sn_call c__law_draw hr (by decide) (by rfl) (sa_cons (sn_var 0 (pv 0)) (sa_cons (sn_c pe_int rfl) sa_nil)) 2) (fun _ _ => rfl)) sa_nil)) 2) (sa_cons (sn_call c__law_way hr (by decide) (by rfl) (sa_cons (sn_var 0 (pv 0)) (sa_cons (sn_var 1 (pv 1)) sa_nil)) 2) sa_nil))) sa_nil).run)))))
 (sb_one (ss_ret (sn_cb c_tuple (pe_callTy call_tuple_of (by rfl) T.n_tuple (by decide +kernel) (sa_cons (sn_var 2 (pv 2)) sa_nil).run)))))))
theorem ok__law_is_there {f : Addr} {fd : FuncData} (F : L2.Fun K "_law_is_there" "_law_is_there" s__law_is_there f fd) (T : Txt mg) : FnOk P w K mg base CX0 1 f fd ["_law_state_here", "_law_cars_here", "_law_car", "_law_road", "_law_cell"] (spF K 5 f__law_is_there) :=
  fn_F F sc__law_is_there (fun cdv A outer s H E hr =>
 (sb_cons (ss_if (st_cmp op_in_seq (r_inS (neg := false)) (sn_var 2 (pv 2)) (sn_fz (sn_lc (own := [("_law_row", 8)]) rfl sc__law_is_there.nd (si_seq (sn_ix b_ix r_ix (sn_var 0 (pv 0)) (sn_c pe_int rfl) (fun _ _ => rfl))) (blkOk_by (own := [("_law_row", 8)]) (N := n__law_is_there) (sc := defScope s__law_is_there) (by decide +kernel)) (fun _ _ _ _ _ => (sg_name (pg_name (i := 8) sc__law_is_there.nd rfl (by first | exact Or.inl rfl | exact Or.inr rfl)))) (fun _ _ _ _ _ => pts_true) (fun _ _ _ _ _ => (sn_ix b_ix r_ix (sn_var 8 (pv 8)) (sn_c pe_int rfl) (fun _ _ => rfl))) (by decide))) rfl) (sb_one (ss_ret (sn_c pe_bl rfl))) sb_nil)
 (sb_cons (ss_set (i := 5) sc__law_is_there.nd rfl (by first | exact Or.inl rfl | exact Or.inr rfl) (sn_ix b_ix r_ix (sn_fz (sn_lc (own := [("_law_at", 9)]) rfl sc__law_is_there.nd (si_rng1 (by rfl) T.n_range (sa_cons (sn_cb c_len (pe_callB call_len_seq (by rfl) T.n_len (by decide +kernel) (sa_cons (sn_ix b_ix r_ix (sn_ix b_ix r_ix (sn_var 1 (pv 1)) (sn_var 2 (pv 2)) (fun _ _ => rfl)) (sn_c pe_int rfl) (fun _ _ => rfl)) sa_nil).run)) sa_nil) (pi_range1 (by rfl) T.n_range (sa_cons (sn_cb c_len (pe_callB call_len_seq (by rfl) T.n_len (by decide +kernel) (sa_cons (sn_ix b_ix r_ix (sn_ix b_ix r_ix (sn_var 1 (pv 1)) (sn_var 2 (pv 2)) (fun _ _ => rfl)) (sn_c pe_int rfl) (fun _ _ => rfl)) sa_nil).run)) sa_nil).run)) (blkOk_by (own := [("_law_at", 9)]) (N := n__law_is_there) (sc := defScope s__law_is_there) (by decide +kernel)) (fun _ _ _ _ _ => (sg_name (pg_name (i := 9) sc__law_is_there.nd rfl (by first | exact Or.inl rfl | exact Or.inr rfl)))) (fun _ _ _ _ _ => (pts_test (st_cmp (op_eqD hr.units) r_eq (sn_ix b_ix r_ix (sn_ix b_ix r_ix (sn_ix b_ix r_ix (sn_var 1 (pv 1)) (sn_var 2 (pv 2)) (fun _ _ => rfl)) (sn_c pe_int rfl) (fun _ _ => rfl)) (sn_var 9 (pv 9)) (fun _ _ => rfl)) (sn_var 3 (pv 3)) (nomark _)))) (fun _ _ _ _ _ => (sn_var 9 (pv 9))) (by decide))) (sn_c pe_int rfl) (fun _ _ => rfl)))
 (sb_cons (ss_for PassesOwn.never rfl (si_seq (sn_ix b_ix r_ix (sn_var 0 (pv 0)) (sn_c pe_int rfl) (fun _ _ => rfl))) (sg_name (pg_name (i := 6) sc__law_is_there.nd rfl (by first | exact Or.inl rfl | exact Or.inr rfl))) (sb_one (ss_for PassesOwn.never rfl (si_seq (sn_var 6 (pv 6))) (sg_name (pg_name (i := 7) sc__law_is_there.nd rfl (by first | exact Or.inl rfl | exact Or.inr rfl))) (sb_one (ss_for PassesOwn.never rfl (si_seq (sn_var 7 (pv 7))) (sg_name (pg_name (i := 8) sc__law_is_there.nd rfl (by first | exact Or.inl rfl | exact Or.inr rfl))) (sb_one (ss_if (st_cmp (op_eqD hr.units) r_eq (sn_ix b_ix r_ix (sn_var 8 (pv 8)) (sn_c pe_int rfl) (fun _ _ => rfl)) (sn_var 2 (pv 2)) (nomark _)) (sb_one (ss_ret (sn_or (sn_cmp op_gt r_gt (sn_ix b_ix r_ix (sn_var 8 (pv 8)) (sn_c pe_int rfl) (fun _ _ => rfl)) (sn_var 5 (pv 5)) (nomark _)) (sn_one (sn_and (sn_cmp (op_eqD hr.units) r_eq (sn_ix b_ix r_ix (sn_var 8 (pv 8)) (sn_c pe_int rfl) (fun _ _ => rfl)) (sn_var 5 (pv 5)) (nomark _)) (sn_one (sn_cmp op_ge r_ge (sn_ix b_ix r_ix (sn_var 8 (pv 8)) (sn_c pe_int rfl) (fun _ _ => rfl)) (sn_var 4 (pv 4)) (nomark _)))))))) sb_nil)))))))
 (sb_one (ss_ret (sn_c pe_bl rfl)))))))
theorem ok__law_due {f : Addr} {fd : FuncData} (F : L2.Fun K "_law_due" "_law_due" s__law_due f fd) (T : Txt mg) (c__law_is_there : Cal P w K mg base 1 "_law_is_there" (spF K 5 f__law_is_there)) : FnOk P w K mg base CX0 2 f fd ["_law_cars_here", "_law_states", "_law_road", "_law_cell"] (spG K 4 f__law_due) :=
  fn_G F sc__law_due (fun cdv A outer s H E hr =>
 (sb_cons (ss_set (i := 4) sc__law_due.nd rfl (by first | exact Or.inl rfl | exact Or.inr rfl) (sn_ad (sn_lst sa_nil)))
 (sb_cons (ss_for PassesOwn.never rfl (si_rng2 (by rfl) T.n_range (sa_cons (sn_c pe_int rfl) (sa_cons (sn_cb c_len (pe_callB call_len_seq (by rfl) T.n_len (by decide +kernel) (sa_cons (sn_var 1 (pv 1)) sa_nil).run)) sa_nil)) (pi_range2 (by rfl) T.n_range (sa_cons (sn_c pe_int rfl) (sa_cons (sn_cb c_len (pe_callB call_len_seq (by rfl) T.n_len (by decide +kernel) (sa_cons (sn_var 1 (pv 1)) sa_nil).run)) sa_nil)).run)) (sg_name (pg_name (i := 5) sc__law_due.nd rfl (by first | exact Or.inl rfl | exact Or.inr rfl))) (sb_one (ss_for PassesOwn.never rfl (si_rng1 (by rfl) T.n_range (sa_cons (sn_cb c_len (pe_callB call_len_seq (by rfl) T.n_len (by decide +kernel) (sa_cons (sn_var 0 (pv 0)) sa_nil).run)) sa_nil) (pi_range1 (by rfl) T.n_range (sa_cons (sn_cb c_len (pe_callB call_len_seq (by rfl) T.n_len (by decide +kernel) (sa_cons (sn_var 0 (pv 0)) sa_nil).run)) sa_nil).run)) (sg_name (pg_name (i := 6) sc__law_due.nd rfl (by first | exact Or.inl rfl | exact Or.inr rfl))) (sb_one (ss_if (st_w (sw_and (st_cmp op_in_seq (r_inS (neg := false)) (sn_var 2 (pv 2)) (sn_ix b_ix r_ix (sn_ix b_ix r_ix (sn_var 0 (pv 0)) (sn_var 6 (pv 6)) (fun _ _ => rfl)) (sn_c pe_int rfl) (fun _ _ => rfl)) rfl) (sw_and1 (st_tru (sn_call c__law_is_there hr (by decide) (by rfl) (sa_cons (sn_ix b_ix r_ix (sn_var 1 (pv 1)) (sn_var 5 (pv 5)) (fun _ _ => rfl)) (sa_cons (sn_var 0 (pv 0)) (sa_cons (sn_var 6 (pv 6)) (sa_cons (sn_var 2 (pv 2)) (sa_cons (sn_var 3 (pv 3)) sa_nil))))) 0))))) (sb_one (ss_if (st_not (st_tru (sn_call c__law_is_there hr (by decide) (by rfl) (sa_cons (sn_ix b_ix r_ix (sn_var 1 (pv 1)) (sn_bin op_sub r_sub (sn_var 5 (pv 5)) (sn_c pe_int rfl)) (fun _ _ => rfl)) (sa_cons (sn_var 0 (pv 0)) (sa_cons (sn_var 6 (pv 6)) (sa_cons (sn_var 2 (pv 2)) (sa_cons (sn_var 3 (pv 3)) sa_nil))))) 0))) (sb_one (ss_expr (sn_mth l_app (pe_bm PySem.F.plainAttrs_list PySem.F.slot_list_append PySem.F.type_list_append mt_append (sn_var 4 (pv 4)) (sa_cons (sn_tup (sa_cons (sn_ix b_ix r_ix (sn_ix b_ix r_ix (sn_var 1 (pv 1)) (sn_var 5 (pv 5)) (fun _ _ => rfl)) (sn_c pe_int rfl) (fun _ _ => rfl)) (sa_cons (sn_var 6 (pv 6)) sa_nil))) sa_nil).run)))) sb_nil)) sb_nil)))))
 (sb_one (ss_ret (sn_var 4 (pv 4)))))))
theorem ok__law_state {f : Addr} {fd : FuncData} (F : L2.Fun K "_law_state" "_law_state" s__law_state f fd) (T : Txt mg) (c__law_draw : Cal P w K mg base 1 "_law_draw" (spF K 2 f__law_draw)) : FnOk P w K mg base CX0 2 f fd ["_law_stream_here", "_law_net_here", "_law_cars_here"] (spF K 3 f__law_state) :=
  fn_F F sc__law_state (fun cdv A outer s H E hr =>
 (sb_cons (ss_set (i := 3) sc__law_state.nd rfl (by first | exact Or.inl rfl | exact Or.inr rfl) (sn_call c__law_draw hr (by decide) (by rfl) (sa_cons (sn_var 0 (pv 0)) (sa_cons (sn_ix b_ix r_ix (sn_fz (sn_lst (sa_cons (sn_c pe_int rfl) (sa_cons (sn_c pe_int rfl) sa_nil)))) (sn_call c__law_draw hr (by decide) (by rfl) (sa_cons (sn_var 0 (pv 0)) (sa_cons (sn_c pe_int rfl) sa_nil)) 2) (fun _ _ => rfl)) sa_nil)) 2))
 (sb_cons (ss_setLc (ps_setLc (i := 4) (own := [("_law_road", 8)]) (g := tTg _ (.nm 8)) (tt := tT _ mTrue) (te := tE _ (mFz (mLc [11] (.nm 11) (mItR (mCons (mOp dIx (mVar 8) (mC (.int 0))) mNil)) mTrue mNewK))) rfl sc__law_state.nd rfl rfl (sw_true rfl rfl rfl (by decide +kernel)) (si_seq (sn_ix b_ix r_ix (sn_var 1 (pv 1)) (sn_c pe_int rfl) (fun _ _ => rfl))) (blkOk_by (own := [("_law_road", 8)]) (N := n__law_state) (sc := defScope s__law_state) (by decide +kernel)) (fun _ _ _ _ _ => (sg_name (pg_name (i := 8) sc__law_state.nd rfl (by first | exact Or.inl rfl | exact Or.inr rfl)))) (fun _ _ _ _ _ => pts_true) (fun _ _ _ _ _ => (sn_fz (sn_lc (own := [("_law_lane", 11)]) rfl sc__law_state.nd (si_rng1 (by rfl) T.n_range (sa_cons (sn_ix b_ix r_ix (sn_var 8 (pv 8)) (sn_c pe_int rfl) (fun _ _ => rfl)) sa_nil) (pi_range1 (by rfl) T.n_range (sa_cons (sn_ix b_ix r_ix (sn_var 8 (pv 8)) (sn_c pe_int rfl) (fun _ _ => rfl)) sa_nil).run)) (blkOk_by (own := [("_law_lane", 11)]) (N := n__law_state) (sc := relS _ (defScope s__law_state)) (by decide +kernel)) (fun _ _ _ _ _ => (sg_name (pg_name (i := 11) sc__law_state.nd rfl (by first | exact Or.inl rfl | exact Or.inr rfl)))) (fun _ _ _ _ _ => pts_true) (fun _ _ _ _ _ => sn_newK) (by decide))))) (fz_of (lc_of (by decide))))
 (sb_cons (ss_set (i := 5) sc__law_state.nd rfl (by first | exact Or.inl rfl | exact Or.inr rfl) (sn_ad (sn_lst sa_nil)))
 (sb_cons (ss_for PassesOwn.never rfl (si_rng1 (by rfl) T.n_range (sa_cons (sn_cb c_len (pe_callB call_len_seq (by rfl) T.n_len (by decide +kernel) (sa_cons (sn_var 2 (pv 2)) sa_nil).run)) sa_nil) (pi_range1 (by rfl) T.n_range (sa_cons (sn_cb c_len (pe_callB call_len_seq (by rfl) T.n_len (by decide +kernel) (sa_cons (sn_var 2 (pv 2)) sa_nil).run)) sa_nil).run)) (sg_name (pg_name (i := 6) sc__law_state.nd rfl (by first | exact Or.inl rfl | exact Or.inr rfl))) (sb_cons (ss_set (i := 9) sc__law_state.nd rfl (by first | exact Or.inl rfl | exact Or.inr rfl) (sn_ix b_ix r_ix (sn_ix b_ix r_ix (sn_var 2 (pv 2)) (sn_var 6 (pv 6)) (fun _ _ => rfl)) (sn_c pe_int rfl) (fun _ _ => rfl)))
 (sb_cons (ss_set (i := 10) sc__law_state.nd rfl (by first | exact Or.inl rfl | exact Or.inr rfl) (sn_call c__law_draw hr (by decide) (by rfl) (sa_cons (sn_var 0 (pv 0)) (sa_cons (sn_c pe_int rfl) sa_nil)) 2))
 (sb_one (ss_if (st_cmp (op_eqD hr.units) r_eq (sn_var 10 (pv 10)) (sn_c pe_int rfl) (nomark _)) (sb_one (ss_expr (sn_mth l_app (pe_bm PySem.F.plainAttrs_list PySem.F.slot_list_append PySem.F.type_list_append mt_append (sn_var 5 (pv 5)) (sa_cons (sn_tup (sa_cons (sn_var 6 (pv 6)) (sa_cons (sn_call c__law_draw hr (by decide) (by rfl) (sa_cons (sn_var 0 (pv 0)) (sa_cons (sn_bin b_add r_add (sn_var 3 (pv 3)) (sn_c pe_int rfl)) sa_nil)) 2) sa_nil))) sa_nil).run)))) (sb_one (ss_if (st_cmp op_lt r_lt (sn_var 10 (pv 10)) (sn_c pe_int rfl) (nomark _)) (sb_cons (ss_set (i := 12) sc__law_state.nd rfl (by first | exact Or.inl rfl | exact Or.inr rfl) (sn_call c__law_draw hr (by decide) (by rfl) (sa_cons (sn_var 0 (pv 0)) (sa_cons (sn_cb c_len (pe_callB call_len_seq (by rfl) T.n_len (by decide +kernel) (sa_cons (sn_var 9 (pv 9)) sa_nil).run)) sa_nil)) 2))
 (sb_cons (ss_set (i := 8) sc__law_state.nd rfl (by first | exact Or.inl rfl | exact Or.inr rfl) (sn_ix b_ix r_ix (sn_var 9 (pv 9)) (sn_var 12 (pv 12)) (fun _ _ => rfl)))
 (sb_cons (ss_set (i := 11) sc__law_state.nd rfl (by first | exact Or.inl rfl | exact Or.inr rfl) (sn_ix b_ix r_ix (sn_ix b_ix r_ix (sn_var 4 (pv 4)) (sn_var 8 (pv 8)) (fun _ _ => rfl)) (sn_call c__law_draw hr (by decide) (by rfl) (sa_cons (sn_var 0 (pv 0)) (sa_cons (sn_ix b_ix r_ix (sn_ix b_ix r_ix (sn_ix b_ix r_ix (sn_var 1 (pv 1)) (sn_c pe_int rfl) (fun _ _ => rfl)) (sn_var 8 (pv 8)) (fun _ _ => rfl)) (sn_c pe_int rfl) (fun _ _ => rfl)) sa_nil)) 2) (fun _ _ => rfl)))
 (sb_cons (ss_set (i := 13) sc__law_state.nd rfl (by first | exact Or.inl rfl | exact Or.inr rfl) (sn_call c__law_draw hr (by decide) (by rfl) (sa_cons (sn_var 0 (pv 0)) (sa_cons (sn_ix b_ix r_ix (sn_ix b_ix r_ix (sn_ix b_ix r_ix (sn_var 1 (pv 1)) (sn_c pe_int rfl) (fun _ _ => rfl)) (sn_var 8 (pv 8)) (fun _ _ => rfl)) (sn_c pe_int rfl) (fun _ _ => rfl)) sa_nil)) 2))
 (sb_one (ss_if (st_dnotin (hu_of hr) (sn_var 13 (pv 13)) (sn_var 11 (pv 11)) rfl) (sb_one (ss_setD (hu_of hr) (sn_tup (sa_cons (sn_var 13 (pv 13)) (sa_cons (sn_var 6 (pv 6)) (sa_cons (sn_call c__law_draw hr (by decide) (by rfl) (sa_cons (sn_var 0 (pv 0)) (sa_cons (sn_c pe_int rfl) sa_nil)) 2) (sa_cons (sn_var 12 (pv 12)) sa_nil))))) (sn_var 11 (pv 11)) (sn_var 13 (pv 13)))) sb_nil)))))) sb_nil)))))))
 (sb_cons (ss_set (i := 7) sc__law_state.nd rfl (by first | exact Or.inl rfl | exact Or.inr rfl) (sn_ad (sn_lst sa_nil)))
 (sb_cons (ss_for PassesOwn.never rfl (si_seq (sn_var 4 (pv 4))) (sg_name (pg_name (i := 8) sc__law_state.nd rfl (by first | exact Or.inl rfl | exact Or.inr rfl))) (sb_one (ss_expr (sn_mth l_app (pe_bm PySem.F.plainAttrs_list PySem.F.slot_list_append PySem.F.type_list_append mt_append (sn_var 7 (pv 7)) (sa_cons (sn_cb c_tuple (pe_callTy call_tuple_of (by rfl) T.n_tuple (by decide +kernel) (sa_cons (sn_fz (sn_lc (own := [("_law_lane", 11)]) rfl sc__law_state.nd (si_seq (sn_var 8 (pv 8))) (blkOk_by (own := [("_law_lane", 11)]) (N := n__law_state) (sc := defScope s__law_state) (by decide +kernel)) (fun _ _ _ _ _ => (sg_name (pg_name (i := 11) sc__law_state.nd rfl (by first | exact Or.inl rfl | exact Or.inr rfl)))) (fun _ _ _ _ _ => pts_true) (fun _ _ _ _ _ => (sn_cb c_tuple (pe_callTy call_tuple_of (by rfl) T.n_tuple (by decide +kernel) (sa_cons (sn_fz (sn_lc (own := [("_law_cell", 13)]) rfl sc__law_state.nd (si_seq (sn_fz (sn_cf c_sortD (pe_callB (cr_sortD rfl) (by rfl) T.n_sorted (by decide +kernel) (sa_cons (sn_var 11 (pv 11)) sa_nil).run)))) (blkOk_by (own := [("_law_cell", 13)]) (N := n__law_state) (sc := relS _ (defScope s__law_state)) (by decide +kernel)) (fun _ _ _ _ _ => (sg_name (pg_name (i := 13) sc__law_state.nd rfl (by first | exact Or.inl rfl | exact Or.inr rfl)))) (fun _ _ _ _ _ => pts_true) (fun _ _ _ _ _ => (sn_dget (hu_of hr) (sn_var 11 (pv 11)) (sn_var 13 (pv 13)) (fun _ _ => rfl))) (by decide))) sa_nil).run))) (by decide))) sa_nil).run)) sa_nil).run)))))
 (sb_one (ss_ret (sn_tup (sa_cons (sn_var 3 (pv 3)) (sa_cons (sn_cb c_tuple (pe_callTy call_tuple_of (by rfl) T.n_tuple (by decide +kernel) (sa_cons (sn_var 7 (pv 7)) sa_nil).run)) (sa_cons (sn_cb c_tuple (pe_callTy call_tuple_of (by rfl) T.n_tuple (by decide +kernel) (sa_cons (sn_var 5 (pv 5)) sa_nil).run)) sa_nil)))))))))))))
theorem ok__law_alike {f : Addr} {fd : FuncData} (F : L2.Fun K "_law_alike" "_law_alike" s__law_alike f fd) (T : Txt mg) (hmg : mg "_law_alike" = some (.ref f)) (hkp : PySem.W.keepIn K (.ref f) = true) (hbd : Binds K fd ["_law_a", "_law_b"] []) : ∀ n : Nat, FnOk P w K mg base CX0 (1 + n) f fd ["_law_a", "_law_b"] (spF K 2 (f__law_alike n))
  | 0 => F.ok sc__law_alike (fun vs H Q E ⟨B, al, S, ds, d, S', R, hl, r, h, q⟩ => by cases h) (fun cdv A outer s H vs Q E hr ⟨B, al, S, ds, d, S', R, hl, r, h, q⟩ => by cases h)
  | n + 1 => by
    have c__law_alike : Cal P w K mg base (1 + n) "_law_alike" (spF K 2 (f__law_alike n)) := ⟨f, fd, _, ok__law_alike F T hmg hkp hbd n, hmg, hkp, hbd⟩
    exact fn_F F sc__law_alike (fun cdv A outer s H E hr =>
 (sb_cons (ss_if (st_tru (sn_isi2 (T1 := "tuple") (T2 := "list") (by decide) (by decide) (sn_var 1 (pv 1)) (pe_callB call_isiT (by rfl) T.n_isinstance (by decide +kernel) (pa_cons (sn_var 1 (pv 1)) (pa_cons (pe_tup (pa_cons (pe_bltn (by rfl) T.n_tuple (by decide +kernel) rfl) (pa_cons (pe_bltn (by rfl) T.n_list (by decide +kernel) rfl) pa_nil))) pa_nil))))) (sb_cons (ss_if (st_w (sw_or (st_cmp (op_neD hr.units) r_ne (sn_isi (T := "tuple") (by decide) (sn_var 0 (pv 0)) (pe_callB call_isi (by rfl) T.n_isinstance (by decide +kernel) (pa_cons (sn_var 0 (pv 0)) (pa_cons (pe_bltn (by rfl) T.n_tuple (by decide +kernel) rfl) pa_nil)))) (sn_isi (T := "tuple") (by decide) (sn_var 1 (pv 1)) (pe_callB call_isi (by rfl) T.n_isinstance (by decide +kernel) (pa_cons (sn_var 1 (pv 1)) (pa_cons (pe_bltn (by rfl) T.n_tuple (by decide +kernel) rfl) pa_nil)))) (nomark _)) (sw_or (st_not (st_tru (sn_isi2 (T1 := "tuple") (T2 := "list") (by decide) (by decide) (sn_var 0 (pv 0)) (pe_callB call_isiT (by rfl) T.n_isinstance (by decide +kernel) (pa_cons (sn_var 0 (pv 0)) (pa_cons (pe_tup (pa_cons (pe_bltn (by rfl) T.n_tuple (by decide +kernel) rfl) (pa_cons (pe_bltn (by rfl) T.n_list (by decide +kernel) rfl) pa_nil))) pa_nil)))))) (sw_or1 (st_cmp (op_neD hr.units) r_ne (sn_cb c_len (pe_callB call_len_seq (by rfl) T.n_len (by decide +kernel) (sa_cons (sn_var 0 (pv 0)) sa_nil).run)) (sn_cb c_len (pe_callB call_len_seq (by rfl) T.n_len (by decide +kernel) (sa_cons (sn_var 1 (pv 1)) sa_nil).run)) (nomark _)))))) (sb_one (ss_ret (sn_c pe_bl rfl))) sb_nil)
 (sb_one (ss_ret (sn_cb c_all (pe_callB (cr_all rfl) (by rfl) T.n_all (by decide +kernel) (sa_cons (sn_fz (sn_lc (own := [("_law_k", 2)]) rfl sc__law_alike.nd (si_rng1 (by rfl) T.n_range (sa_cons (sn_cb c_len (pe_callB call_len_seq (by rfl) T.n_len (by decide +kernel) (sa_cons (sn_var 1 (pv 1)) sa_nil).run)) sa_nil) (pi_range1 (by rfl) T.n_range (sa_cons (sn_cb c_len (pe_callB call_len_seq (by rfl) T.n_len (by decide +kernel) (sa_cons (sn_var 1 (pv 1)) sa_nil).run)) sa_nil).run)) (blkOk_by (own := [("_law_k", 2)]) (N := n__law_alike) (sc := defScope s__law_alike) (by decide +kernel)) (fun _ _ _ _ _ => (sg_name (pg_name (i := 2) sc__law_alike.nd rfl (by first | exact Or.inl rfl | exact Or.inr rfl)))) (fun _ _ _ _ _ => pts_true) (fun _ _ _ _ _ => (sn_call c__law_alike hr (Nat.le_refl _) (by rfl) (sa_cons (sn_ix b_ix r_ix (sn_var 0 (pv 0)) (sn_var 2 (pv 2)) (fun _ _ => rfl)) (sa_cons (sn_ix b_ix r_ix (sn_var 1 (pv 1)) (sn_var 2 (pv 2)) (fun _ _ => rfl)) sa_nil)) 0)) (by decide))) sa_nil).run))))) sb_nil)
 (sb_one (ss_ret (sn_and (sn_cmp (op_eqD hr.units) r_eq (sn_var 0 (pv 0)) (sn_var 1 (pv 1)) (nomark _)) (sn_and (sn_cmp (op_eqD hr.units) r_eq (sn_isi (T := "bool") (by decide) (sn_var 0 (pv 0)) (pe_callB call_isi (by rfl) T.n_isinstance (by decide +kernel) (pa_cons (sn_var 0 (pv 0)) (pa_cons (pe_bltn (by rfl) T.n_bool (by decide +kernel) rfl) pa_nil)))) (sn_isi (T := "bool") (by decide) (sn_var 1 (pv 1)) (pe_callB call_isi (by rfl) T.n_isinstance (by decide +kernel) (pa_cons (sn_var 1 (pv 1)) (pa_cons (pe_bltn (by rfl) T.n_bool (by decide +kernel) rfl) pa_nil)))) (nomark _)) (sn_one (sn_cmp (op_eqD hr.units) r_eq (sn_isi (T := "int") (by decide) (sn_var 0 (pv 0)) (pe_callB call_isi (by rfl) T.n_isinstance (by decide +kernel) (pa_cons (sn_var 0 (pv 0)) (pa_cons (pe_bltn (by rfl) T.n_int (by decide +kernel) rfl) pa_nil)))) (sn_isi (T := "int") (by decide) (sn_var 1 (pv 1)) (pe_callB call_isi (by rfl) T.n_isinstance (by decide +kernel) (pa_cons (sn_var 1 (pv 1)) (pa_cons (pe_bltn (by rfl) T.n_int (by decide +kernel) rfl) pa_nil)))) (nomark _)))))))))
theorem ok_law {f : Addr} {fd : FuncData} (F : L2.Fun K "law" "law" s_law f fd) (T : Txt mg) (c_passed : Cal P w K mg base 3 "passed" (spG K 5 f_passed)) (c_step : Cal P w K mg base 7 "step" (spF K 3 f_step)) (c_run : Cal P w K mg base 8 "run" (spG K 3 f_run)) (c__law_stream : Cal P w K mg base 1 "_law_stream" (spG K 1 f__law_stream)) (c__law_draw : Cal P w K mg base 1 "_law_draw" (spF K 2 f__law_draw)) (c__law_net : Cal P w K mg base 4 "_law_net" (spF K 1 f__law_net)) (c__law_cars : Cal P w K mg base 3 "_law_cars" (spF K 2 f__law_cars)) (c__law_due : Cal P w K mg base 2 "_law_due" (spG K 4 f__law_due)) (c__law_state : Cal P w K mg base 2 "_law_state" (spF K 3 f__law_state)) (c__law_alike : Cal P w K mg base 5 "_law_alike" (spF K 2 (f__law_alike 4))) : GRun P w K mg base CX0 9 f fd ["_law_script"] (spG K 1 f_law) :=
  fn_T F sc_law (fun cdv A outer s H E hg hr =>
 (sb_cons (ss_set (i := 1) sc_law.nd rfl (by first | exact Or.inl rfl | exact Or.inr rfl) (sn_callG c__law_stream hr (by decide) (by rfl) (sa_cons (sn_var 0 (pv 0)) sa_nil)))
 (sb_cons (ss_set (i := 2) sc_law.nd rfl (by first | exact Or.inl rfl | exact Or.inr rfl) (sn_call c__law_net hr (by decide) (by rfl) (sa_cons (sn_var 1 (pv 1)) sa_nil) 2))
 (sb_cons (ss_set (i := 3) sc_law.nd rfl (by first | exact Or.inl rfl | exact Or.inr rfl) (sn_call c__law_cars hr (by decide) (by rfl) (sa_cons (sn_var 1 (pv 1)) (sa_cons (sn_var 2 (pv 2)) sa_nil)) 2))
 (sb_cons (ss_set (i := 4) sc_law.nd rfl (by first | exact Or.inl rfl | exact Or.inr rfl) (sn_callG c_run hr (by decide) (by rfl) (sa_cons (sn_var 2 (pv 2)) (sa_cons (sn_var 3 (pv 3)) (sa_cons (sn_call c__law_draw hr (by decide) (by rfl) (sa_cons (sn_var 1 (pv 1)) (sa_cons (sn_ix b_ix r_ix (sn_fz (sn_lst (sa_cons (sn_c pe_int rfl) (sa_cons (sn_c pe_int rfl) sa_nil)))) (sn_call c__law_draw hr (by decide) (by rfl) (sa_cons (sn_var 1 (pv 1)) (sa_cons (sn_c pe_int rfl) sa_nil)) 2) (fun _ _ => rfl)) sa_nil)) 2) sa_nil)))))
 (sb_cons (ss_set (i := 5) sc_law.nd rfl (by first | exact Or.inl rfl | exact Or.inr rfl) (sn_call c__law_draw hr (by decide) (by rfl) (sa_cons (sn_var 1 (pv 1)) (sa_cons (sn_c pe_int rfl) sa_nil)) 2))
 (sb_cons (ss_if (st_cmp (op_eqD hr.units) r_eq (sn_var 5 (pv 5)) (sn_c pe_int rfl) (nomark _)) (sb_one (ss_set (i := 4) sc_law.nd rfl (by first | exact Or.inl rfl | exact Or.inr rfl) (sn_sl (sn_var 4 (pv 4)) (so_some (sn_call c__law_draw hr (by decide) (by rfl) (sa_cons (sn_var 1 (pv 1)) (sa_cons (sn_cb c_len (pe_callB call_len_seq (by rfl) T.n_len (by decide +kernel) (sa_cons (sn_var 4 (pv 4)) sa_nil).run)) sa_nil)) 2)) so_none))) sb_nil)
 (sb_cons (ss_if (st_cmp (op_eqD hr.units) r_eq (sn_var 5 (pv 5)) (sn_c pe_int rfl) (nomark _)) (sb_cons (ss_set (i := 4) sc_law.nd rfl (by first | exact Or.inl rfl | exact Or.inr rfl) (sn_ad (sn_lst (sa_cons (sn_call c__law_state hr (by decide) (by rfl) (sa_cons (sn_var 1 (pv 1)) (sa_cons (sn_var 2 (pv 2)) (sa_cons (sn_var 3 (pv 3)) sa_nil))) 2) sa_nil))))
 (sb_one (ss_for PassesOwn.never rfl (si_rng1 (by rfl) T.n_range (sa_cons (sn_call c__law_draw hr (by decide) (by rfl) (sa_cons (sn_var 1 (pv 1)) (sa_cons (sn_c pe_int rfl) sa_nil)) 2) sa_nil) (pi_range1 (by rfl) T.n_range (sa_cons (sn_call c__law_draw hr (by decide) (by rfl) (sa_cons (sn_var 1 (pv 1)) (sa_cons (sn_c pe_int rfl) sa_nil)) 2) sa_nil).run)) (sg_name (pg_name (i := 7) sc_law.nd rfl (by first | exact Or.inl rfl | exact Or.inr rfl))) (sb_one (ss_expr (sn_mth l_app (pe_bm PySem.F.plainAttrs_list PySem.F.slot_list_append PySem.F.type_list_append mt_append (sn_var 4 (pv 4)) (sa_cons (sn_call c_step hr (by decide) (by rfl) (sa_cons (sn_var 2 (pv 2)) (sa_cons (sn_var 3 (pv 3)) (sa_cons (sn_ix b_ix r_ix (sn_var 4 (pv 4)) (sn_neg (sn_c pe_int rfl)) (fun _ _ => rfl)) sa_nil))) 0) sa_nil).run))))))) sb_nil)
 (sb_cons (ss_set (i := 6) sc_law.nd rfl (by first | exact Or.inl rfl | exact Or.inr rfl) (sn_fz (sn_cf c_list (pe_callTy call_list_of (by rfl) T.n_list (by decide +kernel) (sa_cons (sn_var 4 (pv 4)) sa_nil).run))))
 (sb_cons (ss_if (st_cmp (op_neD hr.units) r_ne (sn_callG c_passed hr (by decide) (by rfl) (sa_cons (sn_var 2 (pv 2)) (sa_cons (sn_var 3 (pv 3)) (sa_cons (sn_fz (sn_lst sa_nil)) (sa_cons (sn_c pe_int rfl) (sa_cons (sn_c pe_int rfl) sa_nil)))))) (sn_fz (sn_lst sa_nil)) (nomark _)) (sb_one (ss_ret (sn_c pe_bl rfl))) sb_nil)
 (sb_cons (ss_for PassesOwn.never rfl (si_rng1 (by rfl) T.n_range (sa_cons (sn_c pe_int rfl) sa_nil) (pi_range1 (by rfl) T.n_range (sa_cons (sn_c pe_int rfl) sa_nil).run)) (sg_name (pg_name (i := 7) sc_law.nd rfl (by first | exact Or.inl rfl | exact Or.inr rfl))) (sb_cons (ss_set (i := 8) sc_law.nd rfl (by first | exact Or.inl rfl | exact Or.inr rfl) (sn_call c__law_draw hr (by decide) (by rfl) (sa_cons (sn_var 1 (pv 1)) (sa_cons (sn_cb c_len (pe_callB call_len_seq (by rfl) T.n_len (by decide +kernel) (sa_cons (sn_ix b_ix r_ix (sn_var 2 (pv 2)) (sn_c pe_int rfl) (fun _ _ => rfl)) sa_nil).run)) sa_nil)) 2))
 (sb_cons (ss_set (i := 9) sc_law.nd rfl (by first | exact Or.inl rfl | exact Or.inr rfl) (sn_call c__law_draw hr (by decide) (by rfl) (sa_cons (sn_var 1 (pv 1)) (sa_cons (sn_ix b_ix r_ix (sn_ix b_ix r_ix (sn_ix b_ix r_ix (sn_var 2 (pv 2)) (sn_c pe_int rfl) (fun _ _ => rfl)) (sn_var 8 (pv 8)) (fun _ _ => rfl)) (sn_c pe_int rfl) (fun _ _ => rfl)) sa_nil)) 2))
 (sb_cons (ss_set (i := 10) sc_law.nd rfl (by first | exact Or.inl rfl | exact Or.inr rfl) (sn_callG c_passed hr (by decide) (by rfl) (sa_cons (sn_var 2 (pv 2)) (sa_cons (sn_var 3 (pv 3)) (sa_cons (sn_var 4 (pv 4)) (sa_cons (sn_var 8 (pv 8)) (sa_cons (sn_var 9 (pv 9)) sa_nil)))))))
 (sb_cons (ss_if (st_w (sw_or (st_not (st_tru (sn_call c__law_alike hr (by decide) (by rfl) (sa_cons (sn_var 10 (pv 10)) (sa_cons (sn_callG c__law_due hr (by decide) (by rfl) (sa_cons (sn_var 3 (pv 3)) (sa_cons (sn_var 4 (pv 4)) (sa_cons (sn_var 8 (pv 8)) (sa_cons (sn_var 9 (pv 9)) sa_nil))))) sa_nil)) 0))) (sw_or1 (st_cmp (op_neD hr.units) r_ne (sn_var 4 (pv 4)) (sn_var 6 (pv 6)) (nomark _))))) (sb_one (ss_ret (sn_c pe_bl rfl))) sb_nil)
 (sb_cons (ss_if (st_tru (sn_cb c_any (pe_callB (cr_any rfl) (by rfl) T.n_any (by decide +kernel) (sa_cons (sn_fz (sn_lc (own := [("_law_car", 13)]) rfl sc_law.nd (si_rng1 (by rfl) T.n_range (sa_cons (sn_cb c_len (pe_callB call_len_seq (by rfl) T.n_len (by decide +kernel) (sa_cons (sn_var 3 (pv 3)) sa_nil).run)) sa_nil) (pi_range1 (by rfl) T.n_range (sa_cons (sn_cb c_len (pe_callB call_len_seq (by rfl) T.n_len (by decide +kernel) (sa_cons (sn_var 3 (pv 3)) sa_nil).run)) sa_nil).run)) (blkOk_by (own := [("_law_car", 13)]) (N := n_law) (sc := defScope s_law) (by decide +kernel)) (fun _ _ _ _ _ => (sg_name (pg_name (i := 13) sc_law.nd rfl (by first | exact Or.inl rfl | exact Or.inr rfl)))) (fun _ _ _ _ _ => pts_true) (fun _ _ _ _ _ => (sn_cmp op_gt r_gt (sn_mth l_cnt (pe_bm PySem.F.plainAttrs_list PySem.F.slot_list_count PySem.F.type_list_count mt_lcount (sn_fz (sn_lc (own := [("_law_row", 14)]) rfl sc_law.nd (si_seq (sn_var 10 (pv 10))) (blkOk_by (own := [("_law_row", 14)]) (N := n_law) (sc := relS _ (defScope s_law)) (by decide +kernel)) (fun _ _ _ _ _ => (sg_name (pg_name (i := 14) sc_law.nd rfl (by first | exact Or.inl rfl | exact Or.inr rfl)))) (fun _ _ _ _ _ => pts_true) (fun _ _ _ _ _ => (sn_ix b_ix r_ix (sn_var 14 (pv 14)) (sn_c pe_int rfl) (fun _ _ => rfl))) (by decide))) (sa_cons (sn_var 13 (pv 13)) sa_nil).run)) (sn_c pe_int rfl) (nomark _))) (by decide))) sa_nil).run))) (sb_one (ss_ret (sn_c pe_bl rfl))) sb_nil)
 (sb_cons (ss_set (i := 11) sc_law.nd rfl (by first | exact Or.inl rfl | exact Or.inr rfl) sn_newK)
 (sb_cons (ss_for PassesOwn.never rfl (si_seq (sn_var 10 (pv 10))) (sg_tup rfl (sgs_cons (pg_name (i := 12) sc_law.nd rfl (by first | exact Or.inl rfl | exact Or.inr rfl)) (sgs_cons (pg_name (i := 13) sc_law.nd rfl (by first | exact Or.inl rfl | exact Or.inr rfl)) sgs_nil))) (sb_one (ss_setD (hu_of hr) (sn_var 12 (pv 12)) (sn_var 11 (pv 11)) (sn_var 13 (pv 13)))))
 (sb_cons (ss_for PassesOwn.never rfl (si_seq (sn_callG c_passed hr (by decide) (by rfl) (sa_cons (sn_var 2 (pv 2)) (sa_cons (sn_var 3 (pv 3)) (sa_cons (sn_var 4 (pv 4)) (sa_cons (sn_var 8 (pv 8)) (sa_cons (sn_bin op_sub r_sub (sn_ix b_ix r_ix (sn_ix b_ix r_ix (sn_ix b_ix r_ix (sn_var 2 (pv 2)) (sn_c pe_int rfl) (fun _ _ => rfl)) (sn_var 8 (pv 8)) (fun _ _ => rfl)) (sn_c pe_int rfl) (fun _ _ => rfl)) (sn_c pe_int rfl)) sa_nil))))))) (sg_tup rfl (sgs_cons (pg_name (i := 12) sc_law.nd rfl (by first | exact Or.inl rfl | exact Or.inr rfl)) (sgs_cons (pg_name (i := 13) sc_law.nd rfl (by first | exact Or.inl rfl | exact Or.inr rfl)) sgs_nil))) (sb_one (ss_if (st_w (sw_and (st_cmp op_gt r_gt (sn_var 5 (pv 5)) (sn_c pe_int rfl) (nomark _)) (sw_and1 (st_w (sw_or (st_dnotin (hu_of hr) (sn_var 13 (pv 13)) (sn_var 11 (pv 11)) rfl) (sw_or1 (st_cmp op_gt r_gt (sn_dget (hu_of hr) (sn_var 11 (pv 11)) (sn_var 13 (pv 13)) (fun _ _ => rfl)) (sn_var 12 (pv 12)) (nomark _)))))))) (sb_one (ss_ret (sn_c pe_bl rfl))) sb_nil)))
 (sb_cons (ss_expr (sn_mth l_app (pe_bm PySem.F.plainAttrs_list PySem.F.slot_list_append PySem.F.type_list_append mt_append (sn_var 10 (pv 10)) (sa_cons (sn_c pe_int rfl) sa_nil).run)))
 (sb_one (ss_if (st_w (sw_or (st_cmp (op_neD hr.units) r_ne (sn_callG c_passed hr (by decide) (by rfl) (sa_cons (sn_var 2 (pv 2)) (sa_cons (sn_var 3 (pv 3)) (sa_cons (sn_var 4 (pv 4)) (sa_cons (sn_var 8 (pv 8)) (sa_cons (sn_var 9 (pv 9)) sa_nil)))))) (sn_callG c__law_due hr (by decide) (by rfl) (sa_cons (sn_var 3 (pv 3)) (sa_cons (sn_var 4 (pv 4)) (sa_cons (sn_var 8 (pv 8)) (sa_cons (sn_var 9 (pv 9)) sa_nil))))) (nomark _)) (sw_or1 (st_cmp (op_neD hr.units) r_ne (sn_sl (sn_var 10 (pv 10)) (so_some (sn_neg (sn_c pe_int rfl))) so_none) (sn_fz (sn_lst (sa_cons (sn_c pe_int rfl) sa_nil))) (nomark _))))) (sb_one (ss_ret (sn_c pe_bl rfl))) sb_nil))))))))))))
 (sb_one (ss_ret (sn_c pe_bl rfl))))))))))))))
end
end C
set_option Elab.async false
set_option linter.all false
set_option maxRecDepth 100000
namespace C
open PySem L2 Z
/-! ### the stream -/
/-- the two objects of a stream -/
def SP (x y : MO) : Prop := ∃ (cp : List Int) (a b m : Int), (x = .lst (cp.map .int) ∧ y = .lst [.ref 0, .int a, .int b, .int m]) ∧ 0 ≤ a ∧ 0 ≤ b ∧ 0 ≤ m
theorem SP.bel {x y : MO} (h : SP x y) : belowO 2 x = true ∧ belowO 2 y = true := by
  obtain ⟨cp, a, b, m, ⟨rfl, rfl⟩, ha, hb, hm⟩ := h
  simp
theorem draw_ok {x y : MO} (h : SP x y) {n : Int} (h0 : 0 < n) (h1 : n < 1073741824) : wp (f__law_draw [.ref 1, .int n]) [x, y] fun d S' => ∃ x' y', S' = [x', y'] ∧ SP x' y' ∧ ∃ r, d = .int r ∧ 0 ≤ r ∧ r < n := by
  obtain ⟨cp, a, b, m, ⟨rfl, rfl⟩, ha, hb, hm⟩ := h
  unfold f__law_draw b__law_draw
  have hl : (List.map D.int cp).length = cp.length := by simp
  by_cases h2 : a = 0
  · subst h2
    by_cases h3 : b < cp.length
    · have h4 : atI (List.map D.int cp) b = some (.int cp[b.toNat]!) := by
        rw [atI_nn hb, List.getElem?_map]
        have : b.toNat < cp.length := by omega
        simp [this]
      generalize cp[b.toNat]! = c at h4
      have hc : 0 ≤ (if c < 0 then -c else c) := by split <;> omega
      by_cases h5 : (if c < 0 then -c else c) = 0
      · simp [startD_eq, h3, h4, h5]
        refine ⟨h0, _, _, ⟨rfl, rfl⟩, ⟨_, _, _, _, ⟨rfl, rfl⟩, by omega, by omega, by omega⟩, Int.emod_nonneg _ (by omega), Int.emod_lt_of_pos _ h0⟩
      · simp [startD_eq, h3, h4, h5]
        refine ⟨h0, ⟨h0, h1⟩, _, _, ⟨rfl, rfl⟩, ⟨_, _, _, _, ⟨rfl, rfl⟩, Int.ediv_nonneg hc (by omega), by omega, by omega⟩, Int.emod_nonneg _ (by omega), Int.emod_lt_of_pos _ h0⟩
    · simp [startD_eq, h3]
      refine ⟨h0, _, _, ⟨rfl, rfl⟩, ⟨_, _, _, _, ⟨rfl, rfl⟩, by omega, by omega, by omega⟩, Int.emod_nonneg _ (by omega), Int.emod_lt_of_pos _ h0⟩
  · simp [startD_eq, h2]
    refine ⟨h0, ⟨h0, h1⟩, _, _, ⟨rfl, rfl⟩, ⟨_, _, _, _, ⟨rfl, rfl⟩, Int.ediv_nonneg ha (by omega), by omega, by omega⟩, Int.emod_nonneg _ (by omega), Int.emod_lt_of_pos _ h0⟩
theorem draw_c {x y : MO} (h : SP x y) {n : Int} (h0 : 0 < n) (h1 : n < 1073741824) {rest : Store} {Q : D → Store → Prop} (q : ∀ x' y' r, SP x' y' → 0 ≤ r → r < n → Q (.int r) (x' :: y' :: rest)) : wp (callF 2 f__law_draw [.ref 1, .int n]) (x :: y :: rest) Q :=
  wp_call2 h.bel.1 h.bel.2 (by simp [nrs]) (draw_ok h h0 h1) fun x' y' d hs ⟨r, e, h0, h1⟩ => by subst e; exact q x' y' r hs h0 h1
theorem stream_ok (ns : List Int) : wp (f__law_stream [.scr ns]) [] fun d S => d = .ref 1 ∧ ∃ x y, S = [x, y] ∧ SP x y := by
  unfold f__law_stream b__law_stream
  simp [startD_eq]
  refine forL_map (fun i ρ S => S = [] ∧ ∃ c m, ρ = [some (.scr ns), some (.int m), c] ∧ 0 ≤ m) _ _ ⟨rfl, _, _, rfl, by omega⟩ ?_ ?_
  · rintro i a ρ S ha ⟨rfl, c, m, rfl, hm⟩
    simp
    exact ⟨_, _, ⟨rfl, rfl⟩, by omega⟩
  · rintro ρ S ⟨rfl, c, m, rfl, hm⟩
    simp
    exact ⟨_, _, ⟨rfl, rfl⟩, ns, 0, 0, m, ⟨rfl, rfl⟩, by omega, by omega, hm⟩
theorem pick3 {a b c r : Int} (h0 : 0 ≤ r) (h1 : r < 3) : ∃ m : Int, atI [D.int a, D.int b, D.int c] r = some (.int m) ∧ (m = a ∨ m = b ∨ m = c) := by
  have : r = 0 ∨ r = 1 ∨ r = 2 := by omega
  rcases this with rfl | rfl | rfl
  · exact ⟨a, rfl, .inl rfl⟩
  · exact ⟨b, rfl, .inr (.inl rfl)⟩
  · exact ⟨c, rfl, .inr (.inr rfl)⟩
theorem pick4 {a b c d r : Int} (h0 : 0 ≤ r) (h1 : r < 4) : ∃ m : Int, atI [D.int a, D.int b, D.int c, D.int d] r = some (.int m) ∧ (m = a ∨ m = b ∨ m = c ∨ m = d) := by
  have : r = 0 ∨ r = 1 ∨ r = 2 ∨ r = 3 := by omega
  rcases this with rfl | rfl | rfl | rfl
  · exact ⟨a, rfl, .inl rfl⟩
  · exact ⟨b, rfl, .inr (.inl rfl)⟩
  · exact ⟨c, rfl, .inr (.inr (.inl rfl))⟩
  · exact ⟨d, rfl, .inr (.inr (.inr rfl))⟩
theorem pick2 {a b r : Int} (h0 : 0 ≤ r) (h1 : r < 2) : ∃ m : Int, atI [D.int a, D.int b] r = some (.int m) ∧ (m = a ∨ m = b) := by
  have : r = 0 ∨ r = 1 := by omega
  rcases this with rfl | rfl
  · exact ⟨a, rfl, .inl rfl⟩
  · exact ⟨b, rfl, .inr rfl⟩
/-! ### nets -/
def eIs (xs : List Int) : D := .tup (xs.map .int)
inductive Rule where
  | ord (xs : List Int)
  | lig (ps : List (Int × List Int))
def ePh (p : Int × List Int) : D := .tup [.int p.1, eIs p.2]
def eRule : Rule → D
  | .ord xs => .tup [.str (PySem.Str.ofString "order"), .tpi xs]
  | .lig ps => .tup [.str (PySem.Str.ofString "lights"), .tup (ps.map ePh)]
def Rule.ok (cl : List Int) : Rule → Prop
  | .ord xs => xs.Perm cl
  | .lig ps => ps ≠ [] ∧ ps.length ≤ 4 ∧ (∀ p ∈ ps, 1 ≤ p.1 ∧ p.1 ≤ 9) ∧ ∀ p ∈ ps, p.2.Sublist cl
@[simp] theorem nr_eIs {xs : List Int} : nr (eIs xs) = true := by simp [eIs]
@[simp] theorem nr_ePh {p : Int × List Int} : nr (ePh p) = true := by simp [ePh]
@[simp] theorem nr_eRule {r : Rule} : nr (eRule r) = true := by cases r <;> simp [eRule]
end C
set_option Elab.async false
set_option linter.all false
set_option maxRecDepth 100000
namespace C
open PySem L2 Z
theorem some_ok {x y : MO} (h : SP x y) {rows : List Int} (hl : rows.length ≤ 1000) : wp (f__law_some [.ref 1, .lst (rows.map .int)]) [x, y] fun d S' => ∃ x' y', S' = [x', y'] ∧ SP x' y' ∧ ∃ out, d = eIs out ∧ out.Sublist rows := by
  unfold f__law_some b__law_some
  simp [startD]
  refine lcL_map (fun i ys S => ∃ x y out, S = [x, y] ∧ SP x y ∧ ys = out.map .int ∧ out.Sublist (rows.take i)) D.int rows ⟨x, y, [], rfl, h, rfl, by simp⟩ ?_ ?_
  · rintro i a ys S hd ⟨x, y, out, rfl, hs, rfl, hi⟩
    simp
    refine draw_c hs (by omega) (by omega) fun x' y' r hs h0 h1 => ?_
    simp
    have ht : rows.take (i + 1) = rows.take i ++ [a] := by rw [List.take_add_one, hd]; rfl
    rw [ht]
    by_cases hr : r = 0
    · simp [hr]
      exact ⟨_, _, ⟨rfl, rfl⟩, hs, out ++ [a], by simp, hi.append (List.Sublist.refl _)⟩
    · simp [hr]
      exact ⟨_, _, ⟨rfl, rfl⟩, hs, out, rfl, hi.trans (List.sublist_append_left _ _)⟩
  · rintro ys S ⟨x, y, out, rfl, hs, rfl, hi⟩
    rw [List.take_length] at hi
    have := hi.length_le
    simp [lim]
    exact ⟨by omega, hs.bel, _, _, ⟨rfl, rfl⟩, hs, out, rfl, hi⟩
theorem some_c {x y : MO} (h : SP x y) {rows : List Int} (hl : rows.length ≤ 1000) {rest : Store} {Q : D → Store → Prop} (q : ∀ x' y' out, SP x' y' → out.Sublist rows → Q (eIs out) (x' :: y' :: rest)) : wp (callF 2 f__law_some [.ref 1, .lst (rows.map .int)]) (x :: y :: rest) Q :=
  wp_call2 h.bel.1 h.bel.2 (by simp [nrs]) (some_ok h hl) fun x' y' d hs ⟨out, e, ho⟩ => by subst e; exact q x' y' out hs ho
theorem rule_ok {x y : MO} (h : SP x y) {rows : List Int} (hl : rows.length ≤ 1000) : wp (f__law_rule [.ref 1, .lst (rows.map .int)]) [x, y] fun d S' => ∃ x' y', S' = [x', y'] ∧ SP x' y' ∧ ∃ r : Rule, d = eRule r ∧ r.ok rows := by
  unfold f__law_rule b__law_rule
  simp [-aft_nx, startD_eq]
  refine draw_c h (by omega) (by omega) fun x y r h h0 h1 => ?_
  by_cases hr : r = 0
  · simp [hr, -aft_nx]
    refine draw_c h (by omega) (by omega) fun x y r h h0 h1 => ?_
    simp [-aft_nx, okR]
    refine ⟨by omega, ?_⟩
    refine lcL_rng (fun i ys S => ∃ x y ps, S = [x, y] ∧ SP x y ∧ ys = ps.map ePh ∧ ps.length = i ∧ (∀ p ∈ ps, 1 ≤ p.1 ∧ p.1 ≤ 9) ∧ ∀ p ∈ ps, p.2.Sublist rows) ⟨x, y, [], rfl, h, rfl, rfl, by simp, by simp⟩ ?_ ?_
    · rintro i ys S hi ⟨x, y, ps, rfl, h, rfl, hp, ha, hb⟩
      simp
      refine draw_c h (by omega) (by omega) fun x y r h h0 h1 => ?_
      simp
      refine some_c h hl fun x y out h hso => ?_
      refine ⟨x, y, rfl, h, ps ++ [(1 + r, out)], by simp [ePh], by simp [hp], ?_, ?_⟩
      · intro a b hm
        rcases List.mem_append.mp hm with hm | hm
        · exact ha _ hm
        · simp at hm; obtain ⟨rfl, rfl⟩ := hm; omega
      · intro a b hm
        rcases List.mem_append.mp hm with hm | hm
        · exact hb _ hm
        · simp at hm; obtain ⟨rfl, rfl⟩ := hm; exact hso
    · rintro ys S ⟨x, y, ps, rfl, h, rfl, hp, ha, hb⟩
      simp [lim]
      refine ⟨by omega, h.bel, x, y, ⟨rfl, rfl⟩, h, .lig ps, rfl, ?_, by omega, ha, hb⟩
      intro e; subst e; simp at hp; omega
  · simp [hr, okR]
    refine ⟨by omega, ?_⟩
    refine forL_rng (fun i ρ S => ∃ x y out a b, ρ = [some (.ref 1), some (.lst (rows.map .int)), some (.ref 2), a, none, b, none] ∧ S = [x, y, .lst (out.map .int)] ∧ SP x y ∧ out.Perm rows) ⟨x, y, rows, _, _, rfl, rfl, h, .refl _⟩ ?_ ?_
    · rintro i ρ S hi ⟨x, y, out, a, b, rfl, rfl, h, hp⟩
      have hl2 := hp.length_eq
      simp
      refine draw_c h (by omega) (by omega) fun x y r h h0 h1 => ?_
      have hr : r.toNat < out.length := by omega
      have hi2 : i < out.length := by omega
      have e1 : ixN out.length r = some r.toNat := ixN_nn h0 (by omega)
      have e2 : ixN out.length (i : Int) = some i := by rw [ixN_nn (by omega) (by omega)]; simp
      have e3 : atI (out.map D.int) r = (out.map D.int)[r.toNat]? := atI_nn h0
      simp [Z.atI_nat, e1, e2, e3, hr, hi2]
      refine ⟨_, _, ⟨rfl, rfl⟩, x, y, (out.set i out[r.toNat]).set r.toNat out[i], ⟨rfl, rfl, by simp [List.map_set]⟩, h, (List.set_set_perm hi2 hr).trans hp⟩
    · rintro ρ S ⟨x, y, out, a, b, rfl, rfl, h, hp⟩
      simp
      refine wp_cTupX (ns := out) (asLC_ref.mpr (by simp)) ?_
      simp
      exact ⟨h.bel, x, y, ⟨rfl, rfl⟩, h, .ord out, rfl, hp⟩
theorem rule_c {x y : MO} (h : SP x y) {rows : List Int} (hl : rows.length ≤ 1000) {rest : Store} {Q : D → Store → Prop} (q : ∀ x' y' (r : Rule), SP x' y' → r.ok rows → Q (eRule r) (x' :: y' :: rest)) : wp (callF 2 f__law_rule [.ref 1, .lst (rows.map .int)]) (x :: y :: rest) Q :=
  wp_call2 h.bel.1 h.bel.2 (by simp [nrs]) (rule_ok h hl) fun x' y' d hs ⟨r, e, hr⟩ => by subst e; exact q x' y' r hs hr
end C
set_option Elab.async false
set_option linter.all false
set_option maxRecDepth 100000
namespace C
open PySem L2 Z
end C
set_option Elab.async false
set_option linter.all false
set_option maxRecDepth 100000
namespace C
open PySem L2 Z
abbrev Road := Int × Int × Int × Int
def eRoad (r : Road) : D := .tup [.int r.1, .int r.2.1, .int r.2.2.1, .int r.2.2.2]
structure Net where
  roads : List Road
  cross : List (Rule × List Int)
def eCr (c : Rule × List Int) : D := .tup [eRule c.1, eIs c.2]
def eNet (n : Net) : D := .tup [.tup (n.roads.map eRoad), .tup (n.cross.map eCr)]
/-- the roads that end at a crossing -/
def closing (rs : List Road) (k : Int) : List Int := ((List.range rs.length).filter fun i => ((rs[i]?.map fun r : Road => r.2.2.2 == k).getD false)).map fun i : Nat => (i : Int)
def Road.ok (nc : Nat) (r : Road) : Prop := 1 ≤ r.1 ∧ r.1 ≤ 3 ∧ 2 ≤ r.2.1 ∧ r.2.1 ≤ 20 ∧ 1 ≤ r.2.2.1 ∧ r.2.2.1 ≤ 5 ∧ -1 ≤ r.2.2.2 ∧ r.2.2.2 < nc
structure Net.ok (n : Net) : Prop where
  many : 1 ≤ n.roads.length
  few : n.roads.length ≤ 12
  cfew : n.cross.length ≤ 8
  road : ∀ r ∈ n.roads, r.ok n.cross.length
  rule : ∀ (k : Nat) c, n.cross[k]? = some c → c.1.ok (closing n.roads k)
  outs : ∀ c ∈ n.cross, c.2.length ≤ 4 ∧ ∀ o ∈ c.2, 0 ≤ o ∧ o < n.roads.length
  disj : ∀ (k1 k2 : Nat) c1 c2, n.cross[k1]? = some c1 → n.cross[k2]? = some c2 → ∀ o, o ∈ c1.2 → o ∈ c2.2 → k1 = k2
/-- each road below i is in one list at most -/
def DJ (i : Nat) (os : List (List Int)) : Prop := (∀ c ∈ os, ∀ o ∈ c, o < (i : Int)) ∧ ∀ (b1 b2 : Nat) o1 o2, os[b1]? = some o1 → os[b2]? = some o2 → ∀ z, z ∈ o1 → z ∈ o2 → b1 = b2
theorem DJ.zero {k : Nat} : DJ 0 (List.replicate k []) := by
  refine ⟨fun c hc o ho => ?_, fun b1 b2 o1 o2 h1 _ z hz => ?_⟩
  · rw [List.eq_of_mem_replicate hc] at ho; cases ho
  · rw [List.eq_of_mem_replicate (List.mem_of_getElem? h1)] at hz; cases hz
theorem DJ.keep {i : Nat} {os : List (List Int)} (h : DJ i os) : DJ (i + 1) os := ⟨fun c hc o ho => by have := h.1 c hc o ho; omega, h.2⟩
theorem DJ.put {i b : Nat} {os : List (List Int)} {o : List Int} (h : DJ i os) (hb : os[b]? = some o) : DJ (i + 1) (os.set b (o ++ [(i : Int)])) := by
  have hbl := (List.getElem?_eq_some_iff.mp hb).1
  have old : ∀ c ∈ os, ∀ z ∈ c, z < (i : Int) := h.1
  have get : ∀ (j : Nat) c, (os.set b (o ++ [(i : Int)]))[j]? = some c → (j = b ∧ c = o ++ [(i : Int)]) ∨ (j ≠ b ∧ os[j]? = some c) := fun j c hc => by
    by_cases e : j = b
    · subst e
      rw [List.getElem?_set_self hbl] at hc
      cases hc; exact .inl ⟨rfl, rfl⟩
    · rw [List.getElem?_set_ne (Ne.symm e)] at hc
      exact .inr ⟨e, hc⟩
  refine ⟨fun c hc z hz => ?_, fun b1 b2 o1 o2 h1 h2 z z1 z2 => ?_⟩
  · rcases List.mem_or_eq_of_mem_set hc with hc | rfl
    · have := old c hc z hz; omega
    · rcases List.mem_append.mp hz with hz | hz
      · have := old o (List.mem_of_getElem? hb) z hz; omega
      · rw [List.mem_singleton] at hz; omega
  · rcases get b1 o1 h1 with ⟨e1, rfl⟩ | ⟨e1, g1⟩
    · rcases get b2 o2 h2 with ⟨e2, rfl⟩ | ⟨e2, g2⟩
      · rw [e1, e2]
      · rcases List.mem_append.mp z1 with z1 | z1
        · rw [e1]; exact h.2 b b2 o o2 hb g2 z z1 z2
        · rw [List.mem_singleton] at z1
          have := old o2 (List.mem_of_getElem? g2) z z2; omega
    · rcases get b2 o2 h2 with ⟨e2, rfl⟩ | ⟨e2, g2⟩
      · rcases List.mem_append.mp z2 with z2 | z2
        · rw [e2]; exact h.2 b1 b o1 o g1 hb z z1 z2
        · rw [List.mem_singleton] at z2
          have := old o1 (List.mem_of_getElem? g1) z z1; omega
      · exact h.2 b1 b2 o1 o2 g1 g2 z z1 z2
def Outs (cr : List (Rule × List Int)) (os : List (List Int)) : Prop := ∀ (k : Nat) c, cr[k]? = some c → os[k]? = some c.2
theorem Outs.nil {os : List (List Int)} : Outs [] os := fun k c h => by simp at h
theorem Outs.put {cr : List (Rule × List Int)} {os : List (List Int)} {r : Rule} {o : List Int} (h : Outs cr os) (ho : os[cr.length]? = some o) : Outs (cr ++ [(r, o)]) os := fun k c hk => by
  rcases Nat.lt_or_ge k cr.length with hlt | hge
  · rw [List.getElem?_append_left hlt] at hk; exact h k c hk
  · rw [List.getElem?_append_right hge] at hk
    rcases Nat.lt_or_ge (k - cr.length) 1 with h1 | h1
    · have : k = cr.length := by omega
      subst this
      simp at hk
      subst hk
      exact ho
    · rw [List.getElem?_eq_none (by simpa using h1)] at hk; cases hk
@[simp] theorem nr_eRoad {r : Road} : nr (eRoad r) = true := by simp [eRoad]
@[simp] theorem nr_eCr {r : Rule × List Int} : nr (eCr r) = true := by simp [eCr]
@[simp] theorem nr_eNet {r : Net} : nr (eNet r) = true := by simp [eNet]
/-- the store while a net is made -/
def OS (x y : MO) (rd : List D) (os : List (List Int)) (rest : Store) : Store := x :: y :: .lst rd :: (os.map (fun o => MO.lst (o.map .int)) ++ .lst ((List.range os.length).map fun i => .ref (3 + i)) :: rest)
section
variable {x y : MO} {rd : List D} {os : List (List Int)} {rest : Store}
@[simp] theorem OS_2 : (OS x y rd os rest)[2]? = some (.lst rd) := rfl
@[simp] theorem OS_n : (OS x y rd os rest)[3 + os.length]? = some (.lst ((List.range os.length).map fun i => .ref (3 + i))) := by
  unfold OS
  rw [show 3 + os.length = os.length + 1 + 1 + 1 by omega]
  simp
theorem OS_i {i : Nat} {o : List Int} (h : os[i]? = some o) : (OS x y rd os rest)[3 + i]? = some (.lst (o.map .int)) := by
  unfold OS
  have hi : i < os.length := (List.getElem?_eq_some_iff.mp h).1
  rw [show 3 + i = i + 1 + 1 + 1 by omega]
  simp only [List.getElem?_cons_succ]
  rw [List.getElem?_append_left (by simpa using hi), List.getElem?_map, h]
  rfl
theorem OS_set2 {v : List D} : (OS x y rd os rest).set 2 (.lst v) = OS x y v os rest := rfl
theorem OS_seti {i : Nat} {o : List Int} (h : i < os.length) : (OS x y rd os rest).set (3 + i) (.lst (o.map .int)) = OS x y rd (os.set i o) rest := by
  unfold OS
  rw [show 3 + i = i + 1 + 1 + 1 by omega]
  simp only [List.set_cons_succ]
  rw [List.set_append_left _ _ (by simpa using h)]
  simp [List.map_set]
@[simp] theorem OS_r {v : MO} {more : Store} : (OS x y rd os (v :: more))[4 + os.length]? = some v := by
  unfold OS
  rw [show 4 + os.length = os.length + 1 + 1 + 1 + 1 by omega]
  simp only [List.getElem?_cons_succ]
  rw [List.getElem?_append_right (by simp)]
  simp
@[simp] theorem OS_len : (OS x y rd os rest).length = 4 + os.length + rest.length := by simp [OS]; omega
@[simp] theorem OS_app {more : Store} : OS x y rd os rest ++ more = OS x y rd os (rest ++ more) := by simp [OS]
@[simp] theorem OS_take : (OS x y rd os rest).take 2 = [x, y] := rfl
theorem OS_setr {v w : MO} {more : Store} : (OS x y rd os (v :: more)).set (4 + os.length) w = OS x y rd os (w :: more) := by
  unfold OS
  rw [show 4 + os.length = os.length + 1 + 1 + 1 + 1 by omega]
  simp only [List.set_cons_succ]
  rw [List.set_append_right _ _ (by simp)]
  simp
end
theorem draw_o {x y : MO} (h : SP x y) {n : Int} (h0 : 0 < n) (h1 : n < 1073741824) {rd : List D} {os : List (List Int)} {rest : Store} {Q : D → Store → Prop} (q : ∀ x' y' r, SP x' y' → 0 ≤ r → r < n → Q (.int r) (OS x' y' rd os rest)) : wp (callF 2 f__law_draw [.ref 1, .int n]) (OS x y rd os rest) Q := draw_c h h0 h1 q
theorem closing_len (rs : List Road) (k : Int) : (closing rs k).length ≤ rs.length := by
  unfold closing
  rw [List.length_map]
  exact Nat.le_trans (List.length_filter_le _ _) (by simp)
theorem pickb {a b : Int} {p : Prop} [Decidable p] : ∃ m : Int, atI [D.int a, D.int b] (if p then 1 else 0) = some (.int m) ∧ (m = a ∨ m = b) := by
  by_cases h : p
  · rw [if_pos h]; exact ⟨b, rfl, .inr rfl⟩
  · rw [if_neg h]; exact ⟨a, rfl, .inl rfl⟩
end C
set_option Elab.async false
set_option linter.all false
set_option maxRecDepth 100000
namespace C
open PySem L2 Z
theorem rule_o {x y : MO} (h : SP x y) {rows : List Int} (hl : rows.length ≤ 1000) {rd : List D} {os : List (List Int)} {rest : Store} {Q : D → Store → Prop} (q : ∀ x' y' (r : Rule), SP x' y' → r.ok rows → Q (eRule r) (OS x' y' rd os rest)) : wp (callF 2 f__law_rule [.ref 1, .lst (rows.map .int)]) (OS x y rd os rest) Q := rule_c h hl q
theorem net_ok {x y : MO} (h : SP x y) : wp (f__law_net [.ref 1]) [x, y] fun d S' => ∃ x' y', S' = [x', y'] ∧ SP x' y' ∧ ∃ n : Net, d = eNet n ∧ n.ok := by
  unfold f__law_net b__law_net
  simp [-aft_nx, startD_eq]
  refine draw_c h (by omega) (by omega) fun x y r h h0 h1 => ?_
  simp [-aft_nx]
  obtain ⟨m, e, hm⟩ := pick3 (a := 6) (b := 6) (c := 12) h0 h1
  refine ⟨_, e, ?_⟩
  refine draw_c h (by omega) (by omega) fun x y many h hm0 hm1 => ?_
  simp [-aft_nx]
  rw [aft_nx]
  simp [-aft_nx]
  refine draw_c h (by omega) (by omega) fun x y r h h0 h1 => ?_
  simp [-aft_nx]
  obtain ⟨m2, e, hm2⟩ := pickb (a := 4) (b := 9) (p := r = 0)
  refine ⟨_, e, ?_⟩
  refine draw_c h (by omega) (by omega) fun x y cnt h hc0 hc1 => ?_
  obtain ⟨cnt, rfl⟩ := Int.eq_ofNat_of_zero_le hc0
  obtain ⟨many, hmn⟩ : ∃ k : Nat, 1 + many = k := ⟨(1 + many).toNat, by omega⟩
  rw [hmn]
  rw [aft_nx]
  simp [-aft_nx]
  rw [aft_nx]
  simp [-aft_nx, okR]
  refine ⟨by omega, ?_⟩
  have hS : ∀ (x y : MO) (os : List (List Int)), OS x y [] os [] = x :: y :: .lst [] :: (os.map (fun o => MO.lst (o.map .int)) ++ [.lst ((List.range os.length).map fun i => .ref (3 + i))]) := fun _ _ _ => rfl
  refine lcL_rng (fun i ys S => S = x :: y :: .lst [] :: List.replicate i (.lst []) ∧ ys = (List.range i).map fun i => .ref (3 + i)) ⟨rfl, rfl⟩ ?_ ?_
  · rintro i ys S hi ⟨rfl, rfl⟩
    simp [List.range_succ, List.replicate_succ']
    omega
  rintro ys S ⟨rfl, rfl⟩
  simp [-aft_nx, lim]
  refine ⟨by omega, ?_⟩
  have e3 : x :: y :: MO.lst [] :: (List.replicate cnt (MO.lst []) ++ [MO.lst ((List.range cnt).map fun i => D.ref (3 + i))]) = OS x y [] (List.replicate cnt []) [] := by simp [hS]
  rw [e3, aft_nx]
  have e4 : cnt + 3 = 3 + cnt := by omega
  simp [-aft_nx, okR]
  refine ⟨by omega, ?_⟩
  refine forL_rng (fun i ρ S => ∃ x y roads os v5 v8 v9 v10, ρ = [some (.ref 1), some (.int many), some (.int cnt), some (.ref 2), some (.ref (3 + cnt)), v5, none, none, v8, v9, v10, none, none] ∧ S = OS x y (roads.map eRoad) os [] ∧ SP x y ∧ roads.length = i ∧ os.length = cnt ∧ (∀ r ∈ roads, Road.ok cnt r) ∧ DJ i os ∧ ∀ c ∈ os, c.length ≤ 4 ∧ ∀ o ∈ c, 0 ≤ o ∧ o < (many : Int)) ⟨x, y, [], _, _, _, _, _, by rw [e4], rfl, h, rfl, by simp, by simp, DJ.zero, by simp⟩ ?_ ?_
  · rintro i ρ S hi ⟨x, y, roads, os, v5, v8, v9, v10, rfl, rfl, h, hr, ho, hro, hdj, hoo⟩
    simp [-aft_nx]
    refine draw_o h (by omega) (by omega) fun x y r h h0 h1 => ?_
    simp [-aft_nx]
    obtain ⟨m3, e, hm3⟩ := pick3 (a := 5) (b := 5) (c := 19) h0 h1
    refine ⟨_, e, ?_⟩
    refine draw_o h (by omega) (by omega) fun x y cl h hcl0 hcl1 => ?_
    simp [-aft_nx]
    rw [aft_nx]
    simp [-aft_nx]
    refine draw_o h (by omega) (by omega) fun x y en h hen0 hen1 => ?_
    simp [-aft_nx]
    rw [aft_nx]
    simp [-aft_nx]
    refine draw_o h (by omega) (by omega) fun x y sp h hsp0 hsp1 => ?_
    simp [-aft_nx]
    refine draw_o h (by omega) (by omega) fun x y li h hli0 hli1 => ?_
    simp [-aft_nx]
    refine ⟨by unfold lim; omega, ?_⟩
    rw [aft_nx, OS_set2]
    simp [-aft_nx]
    refine draw_o h (by omega) (by omega) fun x y be h hb0 hb1 => ?_
    simp [-aft_nx]
    rw [aft_nx]
    have e5 : roads.map eRoad ++ [.tup [.int (1 + sp), .int (2 + cl), .int (1 + li), .int (en - 1)]] = (roads ++ [(1 + sp, 2 + cl, 1 + li, en - 1)]).map eRoad := by simp [eRoad]
    rw [e5]
    have hro2 : ∀ r ∈ roads ++ [(1 + sp, 2 + cl, 1 + li, en - 1)], Road.ok cnt r := fun r hm => by
      rcases List.mem_append.mp hm with hm | hm
      · exact hro _ hm
      · rw [List.mem_singleton] at hm
        subst hm
        simp only [Road.ok]
        omega
    have hOn : ∀ (x y : MO) (rd : List D) (rest : Store), (OS x y rd os rest)[3 + cnt]? = some (.lst ((List.range os.length).map fun i => .ref (3 + i))) := by intro x y rd rest; rw [← ho]; exact OS_n
    by_cases hbe : 1 ≤ be
    · obtain ⟨b, rfl⟩ : ∃ b : Nat, be = b + 1 := ⟨(be - 1).toNat, by omega⟩
      have e6 : ((b : Int) + 1 - 1) = b := by omega
      have hb : b < os.length := by omega
      obtain ⟨o, hob⟩ : ∃ o, os[b]? = some o := ⟨os[b], by simp [hb]⟩
      have hOi : ∀ (x y : MO) (rd : List D) (rest : Store), (OS x y rd os rest)[3 + b]? = some (.lst (o.map .int)) := fun _ _ _ _ => OS_i hob
      have hom := hoo o (List.mem_of_getElem? hob)
      by_cases hol : o.length < 4
      · simp [e6, hOn, Z.atI_nat, hb, hOi, hol]
        right
        refine ⟨by omega, by unfold lim; omega, ?_⟩
        refine ⟨x, y, roads ++ [(1 + sp, 2 + cl, 1 + li, en - 1)], os.set b (o ++ [(i : Int)]), ?_, h, by simp [hr], by simp [ho], fun a b c d hm => hro2 (a, b, c, d) hm, hdj.put hob, fun c hc => ?_⟩
        · rw [← OS_seti hb]
          simp
        · rcases List.mem_or_eq_of_mem_set hc with hc | rfl
          · exact hoo c hc
          · refine ⟨by simp; omega, fun z hz => ?_⟩
            rcases List.mem_append.mp hz with hz | hz
            · exact hom.2 z hz
            · rw [List.mem_singleton] at hz; omega
      · simp [e6, hOn, Z.atI_nat, hb, hOi, hol]
        left
        exact ⟨by omega, x, y, roads ++ [(1 + sp, 2 + cl, 1 + li, en - 1)], os, by simp, h, by simp [hr], ho, fun a b c d hm => hro2 (a, b, c, d) hm, hdj.keep, hoo⟩
    · simp [hbe]
      exact ⟨x, y, roads ++ [(1 + sp, 2 + cl, 1 + li, en - 1)], os, by simp, h, by simp [hr], ho, fun a b c d hm => hro2 (a, b, c, d) hm, hdj.keep, hoo⟩
  · rintro ρ S ⟨x, y, roads, os, v5, v8, v9, v10, rfl, rfl, h, hr, ho, hro, hdj, hoo⟩
    rw [aft_nx]
    simp [-aft_nx]
    rw [aft_nx, ho]
    simp [-aft_nx, okR]
    refine ⟨by omega, ?_⟩
    have hO4 : ∀ (x y : MO) (rd : List D) (v : MO) (rest : Store), (OS x y rd os (v :: rest))[4 + cnt]? = some v := by intro x y rd v rest; rw [← ho]; exact OS_r
    have hOn : ∀ (x y : MO) (rd : List D) (rest : Store), (OS x y rd os rest)[3 + cnt]? = some (.lst ((List.range os.length).map fun i => .ref (3 + i))) := by intro x y rd rest; rw [← ho]; exact OS_n
    refine forL_rng (fun i ρ S => ∃ x y cr v5 v7 v11, ρ = [some (.ref 1), some (.int many), some (.int cnt), some (.ref 2), some (.ref (3 + cnt)), v5, some (.ref (4 + cnt)), v7, v8, v9, v10, v11, none] ∧ S = OS x y (roads.map eRoad) os [.lst (cr.map eCr)] ∧ SP x y ∧ cr.length = i ∧ Outs cr os ∧ (∀ (k : Nat) c, cr[k]? = some c → c.1.ok (closing roads k)) ∧ ∀ c ∈ cr, c.2.length ≤ 4 ∧ ∀ o ∈ c.2, (0 : Int) ≤ o ∧ o < (many : Int)) ⟨x, y, [], _, _, _, rfl, rfl, h, rfl, Outs.nil, by simp, by simp⟩ ?_ ?_
    · rintro i ρ S hi ⟨x, y, cr, v5, v7, v11, rfl, rfl, h, hc, hou, hk, hcc⟩
      simp [-aft_nx, okR]
      refine ⟨by omega, ?_⟩
      have hcl : (closing roads i).length ≤ 20 := by have := closing_len roads i; omega
      obtain ⟨o, hob⟩ : ∃ o, os[i]? = some o := ⟨os[i]'(by omega), by simp⟩
      have hOi : ∀ (x y : MO) (rd : List D) (rest : Store), (OS x y rd os rest)[3 + i]? = some (.lst (o.map .int)) := fun _ _ _ _ => OS_i hob
      have hom := hoo o (List.mem_of_getElem? hob)
      have hil : i < os.length := by omega
      rw [rngD0]
      refine lcL_pure _ (fun j : Nat => ((roads[j]?.map fun r : Road => r.2.2.2 == (i : Int)).getD false)) (fun j => .int (j : Nat)) _ rfl ?_ ?_
      · intro j hj
        simp at hj
        obtain ⟨rd, hrd⟩ : ∃ rd, roads[j]? = some rd := ⟨roads[j]'(by omega), by simp⟩
        simp [Z.atI_nat, hrd, eRoad]
        omega
      · have hcE : List.map (fun j : Nat => D.int (j : Nat)) (List.filter (fun j : Nat => ((roads[j]?.map fun r : Road => r.2.2.2 == (i : Int)).getD false)) (List.range many)) = (closing roads i).map .int := by simp [closing, hr]
        rw [hcE]
        simp [-aft_nx]
        refine ⟨by unfold lim; omega, ?_⟩
        rw [aft_nx]
        simp [hO4]
        refine rule_o h (by omega) fun x y r h hro => ?_
        simp [hOn, Z.atI_nat, hil, hOi, hO4]
        refine ⟨by unfold lim; omega, x, y, cr ++ [(r, o)], ?_, h, by simp [hc], hou.put (by rw [hc]; exact hob), ?_, ?_⟩
        · rw [← ho, OS_setr]; simp [eCr, eIs]
        · intro k a b hkc
          rcases Nat.lt_or_ge k cr.length with hlt | hge
          · rw [List.getElem?_append_left hlt] at hkc; exact hk k _ hkc
          · rw [List.getElem?_append_right hge] at hkc
            rcases Nat.lt_or_ge (k - cr.length) 1 with h1 | h1
            · have : k = cr.length := by omega
              subst this
              simp at hkc
              obtain ⟨rfl, rfl⟩ := hkc
              rw [hc]
              exact hro
            · rw [List.getElem?_eq_none (by simpa using h1)] at hkc; cases hkc
        · intro a b hm
          rcases List.mem_append.mp hm with hm | hm
          · exact hcc _ hm
          · simp at hm; obtain ⟨rfl, rfl⟩ := hm; exact hom
    · rintro ρ S ⟨x, y, cr, v5, v7, v11, rfl, rfl, h, hc, hou, hk, hcc⟩
      simp [hO4]
      refine ⟨h.bel, x, y, ⟨rfl, rfl⟩, h, ⟨roads, cr⟩, rfl, ?_⟩
      exact ⟨by simp; omega, by simp; omega, by simp; omega, by simp only [hc]; exact hro, hk, by simp only [hr]; exact hcc, fun k1 k2 c1 c2 h1 h2 o o1 o2 => hdj.2 k1 k2 c1.2 c2.2 (hou k1 c1 h1) (hou k2 c2 h2) o o1 o2⟩
theorem net_c {x y : MO} (h : SP x y) {rest : Store} {Q : D → Store → Prop} (q : ∀ x' y' (n : Net), SP x' y' → n.ok → Q (eNet n) (x' :: y' :: rest)) : wp (callF 2 f__law_net [.ref 1]) (x :: y :: rest) Q :=
  wp_call2 h.bel.1 h.bel.2 (by simp [nrs]) (net_ok h) fun x' y' d hs ⟨r, e, hr⟩ => by subst e; exact q x' y' r hs hr
end C
set_option Elab.async false
set_option linter.all false
set_option maxRecDepth 100000
namespace C
open PySem L2 Z
/-! ### ways and cars -/
abbrev Car := Int × List Int
def eCar (c : Car) : D := .tup [.int c.1, .tpi c.2]
def eCars (cs : List Car) : D := .tup (cs.map eCar)
@[simp] theorem nr_eCar {c : Car} : nr (eCar c) = true := by simp [eCar]
@[simp] theorem nr_eCars {cs : List Car} : nr (eCars cs) = true := by simp [eCars]
/-- from one road to the next -/
def Nxt (n : Net) (a b : Int) : Prop := ∃ rd cr, n.roads[a.toNat]? = some rd ∧ 0 ≤ rd.2.2.2 ∧ n.cross[rd.2.2.2.toNat]? = some cr ∧ b ∈ cr.2
def Lead (n : Net) (w : List Int) : Prop := ∀ (i : Nat) a b, w[i]? = some a → w[i + 1]? = some b → Nxt n a b
theorem Lead.one {n : Net} {r : Int} : Lead n [r] := fun i a b h1 h2 => by simp at h2
theorem Lead.put {n : Net} {v : List Int} {z x : Int} (h : Lead n (v ++ [z])) (hx : Nxt n z x) : Lead n (v ++ [z, x]) := fun i a b h1 h2 => by
  have e : v ++ [z, x] = (v ++ [z]) ++ [x] := by simp
  rw [e] at h1 h2
  rcases Nat.lt_or_ge (i + 1) (v ++ [z]).length with hl | hl
  · rw [List.getElem?_append_left hl] at h2
    rw [List.getElem?_append_left (by omega)] at h1
    exact h i a b h1 h2
  · rw [List.getElem?_append_right hl] at h2
    simp at hl
    have : i = v.length := by
      have := (List.getElem?_eq_some_iff.mp h2).1
      simp at this
      omega
    subst this
    simp at h1 h2
    subst h1; subst h2; exact hx
structure WayOk (n : Net) (w : List Int) : Prop where
  some : w ≠ []
  few : w.length ≤ 6
  road : ∀ r ∈ w, 0 ≤ r ∧ r < n.roads.length
  lead : Lead n w
structure CarsOk (n : Net) (cs : List Car) : Prop where
  few : cs.length ≤ 30
  car : ∀ c ∈ cs, 0 ≤ c.1 ∧ c.1 ≤ 50 ∧ WayOk n c.2
end C
set_option Elab.async false
set_option linter.all false
set_option maxRecDepth 100000
namespace C
open PySem L2 Z
theorem way_ok {n : Net} (hn : n.ok) {x y : MO} (h : SP x y) : wp (f__law_way [.ref 1, eNet n]) [x, y] fun d S' => ∃ x' y', S' = [x', y'] ∧ SP x' y' ∧ ∃ w, d = .tpi w ∧ WayOk n w := by
  have hm := hn.many
  have hf := hn.few
  have hcf := hn.cfew
  unfold f__law_way b__law_way
  simp [-aft_nx, startD_eq, eNet]
  refine draw_c h (by omega) (by omega) fun x y r h h0 h1 => ?_
  rw [aft_nx]
  simp [-aft_nx]
  refine draw_c h (by omega) (by omega) fun x y k h hk0 hk1 => ?_
  simp [-aft_nx, okR]
  refine ⟨by omega, ?_⟩
  refine wps_mono (Q := fun o S' => ∃ x y w a b, o = .nx [some (.ref 1), some (eNet n), some (.ref 2), a, b] ∧ S' = [x, y, .lst (w.map .int)] ∧ SP x y ∧ w ≠ [] ∧ w.length ≤ 6 ∧ Lead n w ∧ ∀ r ∈ w, (0 : Int) ≤ r ∧ r < (n.roads.length : Int)) ?_ ?_
  · refine forL_rng (fun i ρ S => ∃ x y w a b, ρ = [some (.ref 1), some (eNet n), some (.ref 2), a, b] ∧ S = [x, y, .lst (w.map .int)] ∧ SP x y ∧ w ≠ [] ∧ w.length ≤ i + 1 ∧ Lead n w ∧ ∀ r ∈ w, (0 : Int) ≤ r ∧ r < (n.roads.length : Int)) ⟨x, y, [r], _, _, rfl, rfl, h, by simp, by simp, Lead.one, by simpa using ⟨h0, h1⟩⟩ ?_ ?_
    · rintro i ρ S hi ⟨x, y, w, a, b, rfl, rfl, h, hw, hl, hle, hr⟩
      obtain ⟨v, z, rfl⟩ : ∃ v z, w = v ++ [z] := ⟨w.dropLast, w.getLast hw, (List.dropLast_concat_getLast hw).symm⟩
      obtain ⟨hz0, hz1⟩ := hr z (by simp)
      obtain ⟨z, rfl⟩ := Int.eq_ofNat_of_zero_le hz0
      obtain ⟨rd, hrd⟩ : ∃ rd, n.roads[z]? = some rd := ⟨n.roads[z]'(by omega), by simp⟩
      obtain ⟨_, _, _, _, _, _, he0, he1⟩ := hn.road rd (List.mem_of_getElem? hrd)
      have e1 : atI (List.map D.int v ++ [D.int z]) (-1) = some (.int z) := atI_last _ _
      refine ⟨_, rfl, ?_⟩
      simp [-aft_nx, eNet, e1, Z.atI_nat, hrd, eRoad]
      rw [aft_nx]
      by_cases hc : 0 ≤ rd.2.2.2
      · obtain ⟨c, hce⟩ := Int.eq_ofNat_of_zero_le hc
        rw [hce] at he1 ⊢
        obtain ⟨cr, hcr⟩ : ∃ cr, n.cross[c]? = some cr := ⟨n.cross[c]'(by omega), by simp⟩
        obtain ⟨ho4, hor⟩ := hn.outs cr (List.mem_of_getElem? hcr)
        by_cases ho : cr.2 = []
        · simp [Z.atI_nat, hcr, eCr, eIs, ho]
          exact ⟨x, y, v ++ [(z : Int)], ⟨rfl, rfl, by simp⟩, h, by simp, by simp at hl ⊢; omega, hle, hr⟩
        · have ho2 : 0 < cr.2.length := List.length_pos_iff.mpr ho
          simp [-aft_nx, Z.atI_nat, hcr, eCr, eIs, ho]
          rw [aft_nx]
          simp [-aft_nx, Z.atI_nat, hcr, eCr, eIs, ho]
          left
          refine draw_c h (by omega) (by omega) fun x y k h hk0 hk1 => ?_
          have hk2 : k.toNat < cr.2.length := by omega
          have hk3 := hor cr.2[k.toNat] (List.getElem_mem hk2)
          simp at hl
          simp [atI_nn hk0, hk2]
          refine ⟨by simp [lim]; omega, x, y, v ++ [(z : Int), cr.2[k.toNat]], ⟨rfl, rfl, by simp⟩, h, by simp, by simp; omega, hle.put ⟨rd, cr, by simpa using hrd, by rw [hce]; omega, by rw [hce]; simpa using hcr, List.getElem_mem hk2⟩, fun r hm => ?_⟩
          rw [List.mem_append] at hm
          rcases hm with hm | hm
          · exact hr r (by simp [hm])
          · simp at hm
            rcases hm with rfl | rfl
            · omega
            · exact hk3
      · simp [show rd.2.2.2 < 0 by omega]
        exact ⟨x, y, v ++ [(z : Int)], ⟨rfl, rfl, by simp⟩, h, by simp, by simp at hl ⊢; omega, hle, hr⟩
    · rintro ρ S ⟨x, y, w, a, b, rfl, rfl, h, hw, hl, hle, hr⟩
      exact ⟨x, y, w, a, b, rfl, rfl, h, hw, by omega, hle, hr⟩
  · rintro o S' ⟨x, y, w, a, b, rfl, rfl, h, hw, hl, hle, hr⟩
    simp
    refine wp_cTupX (ns := w) (asLC_ref.mpr (by simp)) ?_
    refine (clo_ex (by simp)).mpr ⟨by simp [h.bel], x, y, rfl, h, w, rfl, hw, by omega, hr, hle⟩
theorem way_c {n : Net} (hn : n.ok) {x y : MO} (h : SP x y) {rest : Store} {Q : D → Store → Prop} (q : ∀ x' y' w, SP x' y' → WayOk n w → Q (.tpi w) (x' :: y' :: rest)) : wp (callF 2 f__law_way [.ref 1, eNet n]) (x :: y :: rest) Q :=
  wp_call2 h.bel.1 h.bel.2 (by simp [nrs]) (way_ok hn h) fun x' y' d hs ⟨r, e, hr⟩ => by subst e; exact q x' y' r hs hr
theorem cars_ok {n : Net} (hn : n.ok) {x y : MO} (h : SP x y) : wp (f__law_cars [.ref 1, eNet n]) [x, y] fun d S' => ∃ x' y', S' = [x', y'] ∧ SP x' y' ∧ ∃ cs, d = eCars cs ∧ CarsOk n cs := by
  unfold f__law_cars b__law_cars
  simp [-aft_nx, startD_eq]
  rw [aft_nx]
  simp [-aft_nx]
  refine draw_c h (by omega) (by omega) fun x y r h h0 h1 => ?_
  simp [-aft_nx]
  obtain ⟨m, e, hm⟩ := pick2 (a := 8) (b := 31) h0 h1
  refine ⟨_, e, ?_⟩
  refine draw_c h (by omega) (by omega) fun x y k h hk0 hk1 => ?_
  simp [-aft_nx, okR]
  refine ⟨by omega, ?_⟩
  refine forL_rng (fun i ρ S => ∃ x y cs a, ρ = [some (.ref 1), some (eNet n), some (.ref 2), a] ∧ S = [x, y, .lst (cs.map eCar)] ∧ SP x y ∧ cs.length = i ∧ ∀ c ∈ cs, 0 ≤ c.1 ∧ c.1 ≤ 50 ∧ WayOk n c.2) ⟨x, y, [], _, rfl, rfl, h, rfl, by simp⟩ ?_ ?_
  · rintro i ρ S hi ⟨x, y, cs, a, rfl, rfl, h, hl, hc⟩
    refine ⟨_, rfl, ?_⟩
    simp [-aft_nx]
    refine draw_c h (by omega) (by omega) fun x y r h h0 h1 => ?_
    simp [-aft_nx]
    obtain ⟨m, e, hm⟩ := pick2 (a := 4) (b := 51) h0 h1
    refine ⟨_, e, ?_⟩
    refine draw_c h (by omega) (by omega) fun x y t h ht0 ht1 => ?_
    refine way_c hn h fun x y w h hw => ?_
    simp
    refine ⟨by simp [lim]; omega, x, y, cs ++ [(t, w)], ⟨rfl, rfl, by simp [eCar]⟩, h, by simp [hl], ?_⟩
    intro a b hm
    rcases List.mem_append.mp hm with hm | hm
    · exact hc _ hm
    · simp at hm; obtain ⟨rfl, rfl⟩ := hm; exact ⟨by omega, by omega, hw⟩
  · rintro ρ S ⟨x, y, cs, a, rfl, rfl, h, hl, hc⟩
    simp
    exact ⟨h.bel, x, y, ⟨rfl, rfl⟩, h, cs, rfl, by omega, hc⟩
theorem cars_c {n : Net} (hn : n.ok) {x y : MO} (h : SP x y) {rest : Store} {Q : D → Store → Prop} (q : ∀ x' y' cs, SP x' y' → CarsOk n cs → Q (eCars cs) (x' :: y' :: rest)) : wp (callF 2 f__law_cars [.ref 1, eNet n]) (x :: y :: rest) Q :=
  wp_call2 h.bel.1 h.bel.2 (by simp [nrs]) (cars_ok hn h) fun x' y' d hs ⟨r, e, hr⟩ => by subst e; exact q x' y' r hs hr
end C
set_option Elab.async false
set_option linter.all false
set_option maxRecDepth 100000
namespace C
open PySem L2 Z
/-! ### lanes in the store -/
abbrev Row := Int × Int × Int × Int
def toL (r : Row) : List Int := [r.1, r.2.1, r.2.2.1, r.2.2.2]
def eRow (r : Row) : D := tupI (toL r)
theorem eRow_eq (r : Row) : eRow r = .tup [.int r.1, .int r.2.1, .int r.2.2.1, .int r.2.2.2] := rfl
@[simp] theorem nr_eRow {r : Row} : nr (eRow r) = true := by simp [eRow_eq]
def bs (L : Nat → Nat) : Nat → Nat
  | 0 => 1
  | r + 1 => bs L r + L r + 1
theorem bs_le {L : Nat → Nat} : ∀ {r q : Nat}, r < q → bs L r + L r < bs L q
  | r, 0, h => by omega
  | r, q + 1, h => by
    rcases Nat.lt_or_ge r q with h2 | h2
    · have := bs_le (L := L) h2
      simp only [bs]
      omega
    · obtain rfl : r = q := by omega
      simp only [bs]
      omega
structure Lay (T : Store) (R : Nat) (L : Nat → Nat) (lanes : Nat → Nat → List Row) : Prop where
  top : T[0]? = some (.lst ((List.range R).map fun r => .ref (bs L r + L r + 2)))
  road : ∀ r, r < R → T[bs L r + L r]? = some (.lst ((List.range (L r)).map fun l => .ref (bs L r + l + 2)))
  lane : ∀ r, r < R → ∀ l, l < L r → T[bs L r + l]? = some (.lst ((lanes r l).map eRow))
theorem Lay.app {T : Store} {R : Nat} {L : Nat → Nat} {lanes : Nat → Nat → List Row} (h : Lay T R L lanes) (U : Store) : Lay (T ++ U) R L lanes := by
  have k : ∀ {i : Nat} {o : MO}, T[i]? = some o → (T ++ U)[i]? = some o := fun {i o} e => by
    rw [List.getElem?_append_left (List.getElem?_eq_some_iff.mp e).1]; exact e
  exact ⟨k h.top, fun r hr => k (h.road r hr), fun r hr l hl => k (h.lane r hr l hl)⟩
def putL2 (lanes : Nat → Nat → List Row) (r l : Nat) (v : List Row) : Nat → Nat → List Row := fun r' l' => if r' = r ∧ l' = l then v else lanes r' l'
theorem bs_pos {L : Nat → Nat} : ∀ r, 1 ≤ bs L r
  | 0 => Nat.le_refl _
  | r + 1 => by simp only [bs]; omega
theorem Lay.set {T : Store} {R : Nat} {L : Nat → Nat} {lanes : Nat → Nat → List Row} (h : Lay T R L lanes) {r l : Nat} (hr : r < R) (hl : l < L r) (v : List Row) : Lay (T.set (bs L r + l) (.lst (v.map eRow))) R L (putL2 lanes r l v) := by
  have hp := bs_pos (L := L) r
  refine ⟨?_, fun q hq => ?_, fun q hq m hm => ?_⟩
  · rw [List.getElem?_set_ne (by omega)]; exact h.top
  · rw [List.getElem?_set_ne ?_]
    · exact h.road q hq
    · rcases Nat.lt_trichotomy r q with e | e | e
      · have := bs_le (L := L) e; omega
      · subst e; omega
      · have := bs_le (L := L) e; omega
  · by_cases e : q = r ∧ m = l
    · obtain ⟨rfl, rfl⟩ := e
      rw [List.getElem?_set_self (List.getElem?_eq_some_iff.mp (h.lane q hq m hm)).1]
      simp [putL2]
    · rw [List.getElem?_set_ne ?_]
      · simp only [putL2, if_neg e]; exact h.lane q hq m hm
      · rcases Nat.lt_trichotomy r q with e2 | e2 | e2
        · have := bs_le (L := L) e2; omega
        · subst e2; intro z; exact e ⟨rfl, by omega⟩
        · have := bs_le (L := L) e2; omega
theorem Lay.grow {T : Store} {R : Nat} {L : Nat → Nat} {lanes : Nat → Nat → List Row} (h : Lay T R L lanes) (hT : T.length = bs L R) (he : ∀ l, lanes R l = []) :
    Lay ((T ++ List.replicate (L R) (MO.lst []) ++ [MO.lst ((List.range (L R)).map fun l => .ref (bs L R + l + 2))]).set 0 (.lst ((List.range (R + 1)).map fun r => .ref (bs L r + L r + 2)))) (R + 1) L lanes := by
  have hp := bs_pos (L := L)
  refine ⟨?_, fun q hq => ?_, fun q hq m hm => ?_⟩
  · rw [List.getElem?_set_self (by have := hp R; simp; omega)]
  · rw [List.getElem?_set_ne (by have := hp q; omega)]
    rcases Nat.lt_or_ge q R with e | e
    · have := bs_le (L := L) e
      rw [List.append_assoc, List.getElem?_append_left (by omega)]
      exact h.road q e
    · obtain rfl : q = R := by omega
      rw [List.getElem?_append_right (by simp; omega)]
      simp [hT]
  · rw [List.getElem?_set_ne (by have := hp q; omega)]
    rcases Nat.lt_or_ge q R with e | e
    · have := bs_le (L := L) e
      rw [List.append_assoc, List.getElem?_append_left (by omega)]
      exact h.lane q e m hm
    · obtain rfl : q = R := by omega
      rw [List.getElem?_append_left (by simp; omega), List.getElem?_append_right (by omega)]
      have : bs L q + m - T.length = m := by omega
      rw [this, List.getElem?_replicate, if_pos hm, he]
      rfl
/-! ### states -/
def lns (n : Net) (r : Nat) : Nat := ((n.roads[r]?.map fun rd : Road => rd.1).getD 0).toNat
structure St where
  time : Int
  rows : Nat → Nat → List Row
  arr : List (Int × Int)
def eArr (p : Int × Int) : D := .tup [.int p.1, .int p.2]
def eRows (R : Nat) (L : Nat → Nat) (rows : Nat → Nat → List Row) : D := .tup ((List.range R).map fun r => .tup ((List.range (L r)).map fun l => .tup ((rows r l).map eRow)))
def eSt (n : Net) (s : St) : D := .tup [.int s.time, eRows n.roads.length (lns n) s.rows, .tup (s.arr.map eArr)]
@[simp] theorem nr_eRows {R : Nat} {L : Nat → Nat} {rows : Nat → Nat → List Row} : nr (eRows R L rows) = true := by simp [eRows]
@[simp] theorem nr_eArr {p : Int × Int} : nr (eArr p) = true := by simp [eArr]
@[simp] theorem nr_eSt {n : Net} {s : St} : nr (eSt n s) = true := by simp [eSt]
/-- a row that a road may have -/
structure RowOk (n : Net) (cs : List Car) (r : Nat) (a : Row) : Prop where
  cell : 0 ≤ a.1 ∧ ∃ rd, n.roads[r]? = some rd ∧ a.1 < rd.2.1
  spd : 0 ≤ a.2.2.1 ∧ a.2.2.1 ≤ 5
  car : 0 ≤ a.2.1 ∧ 0 ≤ a.2.2.2 ∧ ∃ c, cs[a.2.1.toNat]? = some c ∧ c.2[a.2.2.2.toNat]? = some (r : Int)
/-- lanes, cars up to k on them or arrived -/
structure Part (n : Net) (cs : List Car) (t : Int) (k : Nat) (rows : Nat → Nat → List Row) (arr : List (Int × Int)) : Prop where
  row : ∀ r l a, a ∈ rows r l → RowOk n cs r a ∧ a.2.1 < k
  len : ∀ r l, (rows r l).length ≤ k
  cells : ∀ r l, ((rows r l).map (·.1)).Nodup
  uniq : ∀ r l r' l' a b, a ∈ rows r l → b ∈ rows r' l' → a.2.1 = b.2.1 → r = r' ∧ l = l' ∧ a = b
  gone : ∀ p ∈ arr, 0 ≤ p.1 ∧ p.1 < k ∧ 0 ≤ p.2 ∧ p.2 ≤ t ∧ ∀ r l, ∀ a ∈ rows r l, a.2.1 ≠ p.1
  asc : arr.Pairwise fun p q => p.1 < q.1
  alen : arr.length ≤ k
theorem Part.none (n : Net) (cs : List Car) (t : Int) : Part n cs t 0 (fun _ _ => []) [] := ⟨by simp, by simp, by simp, by simp, by simp, by simp, by simp⟩
theorem Part.skip {n : Net} {cs : List Car} {t : Int} {k : Nat} {rows : Nat → Nat → List Row} {arr : List (Int × Int)} (h : Part n cs t k rows arr) : Part n cs t (k + 1) rows arr :=
  ⟨fun r l a ha => ⟨(h.row r l a ha).1, by have := (h.row r l a ha).2; omega⟩, fun r l => by have := h.len r l; omega, h.cells, h.uniq, fun p hp => by
    obtain ⟨h1, h2, h3, h4, h5⟩ := h.gone p hp; exact ⟨h1, by omega, h3, h4, h5⟩, h.asc, by have := h.alen; omega⟩
theorem Part.arrive {n : Net} {cs : List Car} {t : Int} {k : Nat} {rows : Nat → Nat → List Row} {arr : List (Int × Int)} (h : Part n cs t k rows arr) {u : Int} (hu : 0 ≤ u ∧ u ≤ t) : Part n cs t (k + 1) rows (arr ++ [((k : Int), u)]) := by
  have h' := h.skip
  refine ⟨h'.row, h'.len, h.cells, h.uniq, fun p hp => ?_, ?_, by have := h.alen; simp; omega⟩
  · rcases List.mem_append.mp hp with hp | hp
    · exact h'.gone p hp
    · rw [List.mem_singleton] at hp
      subst hp
      refine ⟨by simp, by simp; omega, hu.1, hu.2, fun r l a ha => ?_⟩
      have := (h.row r l a ha).2
      simp
      omega
  · refine List.pairwise_append.mpr ⟨h.asc, by simp, fun p hp q hq => ?_⟩
    rw [List.mem_singleton] at hq
    subst hq
    have := (h.gone p hp).2.1
    simp
    omega
theorem Part.enter {n : Net} {cs : List Car} {t : Int} {k : Nat} {rows : Nat → Nat → List Row} {arr : List (Int × Int)} (h : Part n cs t k rows arr) {r l : Nat} {c sp leg : Int} (hr : RowOk n cs r (c, (k : Int), sp, leg)) (hc : c ∉ (rows r l).map (·.1)) :
    Part n cs t (k + 1) (putL2 rows r l (rows r l ++ [(c, (k : Int), sp, leg)])) arr := by
  have mem : ∀ {r' l' a}, a ∈ putL2 rows r l (rows r l ++ [(c, (k : Int), sp, leg)]) r' l' → (a ∈ rows r' l') ∨ (r' = r ∧ l' = l ∧ a = (c, (k : Int), sp, leg)) := fun {r' l' a} ha => by
    unfold putL2 at ha
    split at ha
    · rename_i e
      obtain ⟨rfl, rfl⟩ := e
      rcases List.mem_append.mp ha with ha | ha
      · exact .inl ha
      · exact .inr ⟨rfl, rfl, List.mem_singleton.mp ha⟩
    · exact .inl ha
  refine ⟨fun r' l' a ha => ?_, fun r' l' => ?_, fun r' l' => ?_, fun r1 l1 r2 l2 a b ha hb e => ?_, fun p hp => ?_, h.asc, by have := h.alen; omega⟩
  · rcases mem ha with ha | ⟨rfl, rfl, rfl⟩
    · exact ⟨(h.row _ _ _ ha).1, by have := (h.row _ _ _ ha).2; omega⟩
    · exact ⟨hr, by simp; omega⟩
  · unfold putL2
    split
    · have := h.len r l; simp; omega
    · have := h.len r' l'; omega
  · unfold putL2
    split
    · rw [List.map_append]
      refine List.nodup_append.mpr ⟨h.cells r l, by simp, fun a ha b hb => ?_⟩
      simp at hb
      subst hb
      intro e
      exact hc (e ▸ ha)
    · exact h.cells r' l'
  · rcases mem ha with ha1 | ⟨e1, e2, e3⟩
    · rcases mem hb with hb1 | ⟨f1, f2, f3⟩
      · exact h.uniq _ _ _ _ _ _ ha1 hb1 e
      · have := (h.row _ _ _ ha1).2; rw [f3] at e; simp at e; omega
    · rcases mem hb with hb1 | ⟨f1, f2, f3⟩
      · have := (h.row _ _ _ hb1).2; rw [e3] at e; simp at e; omega
      · exact ⟨e1.trans f1.symm, e2.trans f2.symm, e3.trans f3.symm⟩
  · obtain ⟨h1, h2, h3, h4, h5⟩ := h.gone p hp
    refine ⟨h1, by omega, h3, h4, fun r' l' a ha => ?_⟩
    rcases mem ha with ha | ⟨rfl, rfl, rfl⟩
    · exact h5 _ _ a ha
    · simp; omega
end C
set_option Elab.async false
set_option linter.all false
set_option maxRecDepth 100000
namespace C
open PySem L2 Z
/-! ### sorted lanes -/
def srtR (rows : List Row) : List Row := rows.mergeSort fun a b => decide (TS.code 64 (toL a) ≤ TS.code 64 (toL b))
theorem srtR_perm (rows : List Row) : (srtR rows).Perm rows := List.mergeSort_perm rows _
theorem srtR_map (rows : List Row) : (srtR rows).map toL = srtT 64 (rows.map toL) := List.map_mergeSort fun a _ b _ => rfl
theorem row_okT {n : Net} (hn : n.ok) {cs : List Car} (hc : CarsOk n cs) {r : Nat} {a : Row} (h : RowOk n cs r a) : okT 4 64 (toL a) = true := by
  obtain ⟨⟨c0, rd, hrd, c1⟩, ⟨s0, s1⟩, k0, l0, c, hc1, hc2⟩ := h
  obtain ⟨_, _, _, r20, _⟩ := hn.road rd (List.mem_of_getElem? hrd)
  have k1 := (List.getElem?_eq_some_iff.mp hc1).1
  have l1 := (List.getElem?_eq_some_iff.mp hc2).1
  have := (hc.car c (List.mem_of_getElem? hc1)).2.2.few
  have := hc.few
  simp [okT, toL]
  omega
theorem wp_sortR {n : Net} (hn : n.ok) {cs : List Car} (hc : CarsOk n cs) {r : Nat} {x : D} {S : Store} {rows : List Row} {Q} (h : asLC S x = some (rows.map eRow)) (hr : ∀ a ∈ rows, RowOk n cs r a) (hl : rows.length < 64) (q : Q ((srtR rows).map eRow) S) : wp (cSortT 4 64 [x]) S Q := by
  refine wp_cSortT (nss := rows.map toL) (by rw [h, List.map_map]; rfl) (by simp; omega) ?_ ?_
  · intro ns hns
    obtain ⟨a, ha, rfl⟩ := List.mem_map.mp hns
    exact row_okT hn hc (hr a ha)
  · rw [← srtR_map, List.map_map]
    exact q
structure Sound (n : Net) (cs : List Car) (s : St) : Prop where
  time : 0 ≤ s.time ∧ s.time ≤ 2000000
  part : Part n cs s.time cs.length s.rows s.arr
  asc : ∀ r l, (s.rows r l).Pairwise fun a b => a.1 < b.1
theorem Part.sort {n : Net} {cs : List Car} {t : Int} {k : Nat} {rows : Nat → Nat → List Row} {arr : List (Int × Int)} (h : Part n cs t k rows arr) : Part n cs t k (fun r l => srtR (rows r l)) arr := by
  have m : ∀ {r l a}, a ∈ srtR (rows r l) ↔ a ∈ rows r l := fun {r l a} => (srtR_perm _).mem_iff
  exact ⟨fun r l a ha => h.row r l a (m.mp ha), fun r l => by rw [(srtR_perm _).length_eq]; exact h.len r l, fun r l => (((srtR_perm (rows r l)).map (·.1)).nodup_iff).mpr (h.cells r l),
    fun r l r' l' a b ha hb => h.uniq r l r' l' a b (m.mp ha) (m.mp hb), fun p hp => by
      obtain ⟨h1, h2, h3, h4, h5⟩ := h.gone p hp
      exact ⟨h1, h2, h3, h4, fun r l a ha => h5 r l a (m.mp ha)⟩, h.asc, h.alen⟩
theorem srtR_asc {n : Net} (hn : n.ok) {cs : List Car} (hc : CarsOk n cs) {r : Nat} {rows : List Row} (hr : ∀ a ∈ rows, RowOk n cs r a) (hd : (rows.map (·.1)).Nodup) : (srtR rows).Pairwise fun a b => a.1 < b.1 := by
  have hs : (srtR rows).Pairwise fun a b => TS.code 64 (toL a) ≤ TS.code 64 (toL b) := by
    have h := List.pairwise_mergeSort (le := fun a b : Row => decide (TS.code 64 (toL a) ≤ TS.code 64 (toL b))) (fun a b c h1 h2 => by simp at *; omega) (fun a b => by simp; omega) rows
    exact h.imp fun h => by simpa using h
  have hn2 : ((srtR rows).map (·.1)).Nodup := (((srtR_perm rows).map (·.1)).nodup_iff).mpr hd
  have hn3 : (srtR rows).Pairwise fun a b => a.1 ≠ b.1 := List.pairwise_map.mp hn2
  refine List.Pairwise.imp_of_mem ?_ (hs.and hn3)
  rintro a b ha hb ⟨h1, h2⟩
  have oa := okT_bd (row_okT hn hc (hr a ((srtR_perm rows).mem_iff.mp ha)))
  have ob := okT_bd (row_okT hn hc (hr b ((srtR_perm rows).mem_iff.mp hb)))
  rcases Int.lt_trichotomy a.1 b.1 with e | e | e
  · exact e
  · exact absurd e h2
  · exact absurd (TS.code_lt (B := 64) (d := b.1) (e := a.1) (r := (toL b).tail) (q := (toL a).tail) rfl (fun m hm => ob.2 m (List.mem_of_mem_tail hm)) (fun m hm => oa.2 m (List.mem_of_mem_tail hm)) e) (by
      show ¬ TS.code 64 (toL b) < TS.code 64 (toL a)
      omega)
theorem lns_ok {n : Net} (hn : n.ok) {r : Nat} {rd : Road} (h : n.roads[r]? = some rd) : (lns n r : Int) = rd.1 := by
  have := (hn.road rd (List.mem_of_getElem? h)).1
  simp [lns, h]
  omega
end C
set_option Elab.async false
set_option linter.all false
set_option maxRecDepth 100000
namespace C
open PySem L2 Z
theorem Lay.setEnd {T : Store} {R : Nat} {L : Nat → Nat} {lanes : Nat → Nat → List Row} (h : Lay T R L lanes) (o : MO) : Lay (T.set (bs L R) o) R L lanes := by
  have hp := bs_pos (L := L) R
  refine ⟨by rw [List.getElem?_set_ne (by omega)]; exact h.top, fun q hq => ?_, fun q hq m hm => ?_⟩
  · have := bs_le (L := L) hq
    rw [List.getElem?_set_ne (by omega)]
    exact h.road q hq
  · have := bs_le (L := L) hq
    rw [List.getElem?_set_ne (by omega)]
    exact h.lane q hq m hm
end C
set_option Elab.async false
set_option linter.all false
set_option maxRecDepth 100000
/-! A state, made of dicts. -/
namespace C
open PySem L2 Z
def kvR (a : Row) : Key × D := (.inl a.1, eRow a)
def off (L : Nat → Nat) : Nat → Nat
  | 0 => 0
  | r + 1 => off L r + L r
theorem off_le {L : Nat → Nat} : ∀ {r q : Nat}, r < q → off L r + L r ≤ off L q
  | r, 0, h => by omega
  | r, q + 1, h => by
    rcases Nat.lt_or_ge r q with h2 | h2
    · have := off_le (L := L) h2
      simp only [off]
      omega
    · obtain rfl : r = q := by omega
      exact Nat.le_refl _
structure DLay (T : Store) (R : Nat) (L : Nat → Nat) (lanes : Nat → Nat → List Row) : Prop where
  lane : ∀ r, r < R → ∀ l, l < L r → T[off L r + l]? = some (.dct ((lanes r l).map kvR))
section
variable {T : Store} {R : Nat} {L : Nat → Nat} {lanes : Nat → Nat → List Row}
theorem DLay.app (h : DLay T R L lanes) (U : Store) : DLay (T ++ U) R L lanes :=
  ⟨fun r hr l hl => by
    have e := h.lane r hr l hl
    rw [List.getElem?_append_left (List.getElem?_eq_some_iff.mp e).1]
    exact e⟩
theorem DLay.set (h : DLay T R L lanes) {r l : Nat} (hr : r < R) (hl : l < L r) (v : List Row) : DLay (T.set (off L r + l) (.dct (v.map kvR))) R L (putL2 lanes r l v) := by
  refine ⟨fun q hq m hm => ?_⟩
  by_cases e : q = r ∧ m = l
  · obtain ⟨rfl, rfl⟩ := e
    rw [List.getElem?_set_self (List.getElem?_eq_some_iff.mp (h.lane q hq m hm)).1]
    simp [putL2]
  · rw [List.getElem?_set_ne ?_]
    · simp only [putL2, if_neg e]; exact h.lane q hq m hm
    · rcases Nat.lt_trichotomy r q with e2 | e2 | e2
      · have := off_le (L := L) e2; omega
      · subst e2; intro z; exact e ⟨rfl, by omega⟩
      · have := off_le (L := L) e2; omega
theorem DLay.setEnd (h : DLay T R L lanes) (o : MO) : DLay (T.set (off L R) o) R L lanes := by
  refine ⟨fun q hq m hm => ?_⟩
  have := off_le (L := L) hq
  rw [List.getElem?_set_ne (by omega)]
  exact h.lane q hq m hm
end
theorem val_none {rows : List Row} {c : Int} (h : c ∉ rows.map (·.1)) : valD (rows.map kvR) (.inl c) = none := by
  unfold valD
  rw [Option.map_eq_none_iff, List.find?_eq_none]
  intro kv hkv
  obtain ⟨a, ha, rfl⟩ := List.mem_map.mp hkv
  intro e
  have e := of_decide_eq_true e
  exact h (List.mem_map.mpr ⟨a, ha, Sum.inl.inj e⟩)
theorem val_some : ∀ {rows : List Row} {a : Row}, (rows.map (·.1)).Nodup → a ∈ rows → valD (rows.map kvR) (.inl a.1) = some (eRow a)
  | [], _, _, h => by cases h
  | b :: rows, a, hnd, h => by
    simp only [List.map_cons, List.nodup_cons] at hnd
    unfold valD
    simp only [List.map_cons, List.find?_cons]
    by_cases e : b.1 = a.1
    · rcases List.mem_cons.mp h with rfl | h
      · simp [kvR]
      · exact absurd (List.mem_map.mpr ⟨a, h, e.symm⟩) hnd.1
    · rcases List.mem_cons.mp h with rfl | h
      · exact absurd rfl e
      · have := val_some hnd.2 h
        unfold valD at this
        have e2 : decide ((kvR b).1 = (Sum.inl a.1 : Key)) = false := by simp [kvR, e]
        rw [e2]
        exact this
theorem put_kv {rows : List Row} {a : Row} (h : a.1 ∉ rows.map (·.1)) : putD (rows.map kvR) (.inl a.1) (eRow a) = (rows ++ [a]).map kvR := by
  unfold putD
  rw [if_neg]
  · simp [kvR]
  · intro ha
    obtain ⟨kv, hkv, e⟩ := List.any_eq_true.mp ha
    obtain ⟨b, hb, rfl⟩ := List.mem_map.mp hkv
    have e := of_decide_eq_true e
    exact h (List.mem_map.mpr ⟨b, hb, Sum.inl.inj e⟩)
theorem srt_cells {n : Net} (hn : n.ok) {cs : List Car} (hc : CarsOk n cs) {r : Nat} {rows : List Row} (hr : ∀ a ∈ rows, RowOk n cs r a) (hd : (rows.map (·.1)).Nodup) : srtI (rows.map (·.1)) = (srtR rows).map (·.1) := by
  refine srt_uniq ((srtI_perm _).trans ((srtR_perm rows).map (·.1)).symm) (srtI_sorted _) ?_
  exact List.pairwise_map.mpr ((srtR_asc hn hc hr hd).imp fun h => Int.le_of_lt h)
def eDs (R : Nat) (L : Nat → Nat) : D := .lst ((List.range R).map fun r => .lst ((List.range (L r)).map fun l => .ref (off L r + l + 2)))
theorem state_ok {n : Net} (hn : n.ok) {cs : List Car} (hc : CarsOk n cs) {x y : MO} (h : SP x y) : wp (f__law_state [.ref 1, eNet n, eCars cs]) [x, y] fun d S' => ∃ x' y', S' = [x', y'] ∧ SP x' y' ∧ ∃ s, d = eSt n s ∧ Sound n cs s ∧ s.time ≤ 1000 := by
  have hm := hn.many
  have hf := hn.few
  have hcf := hn.cfew
  have hcl := hc.few
  unfold f__law_state b__law_state
  simp [-aft_nx, startD_eq]
  refine draw_c h (by omega) (by omega) fun x y r h h0 h1 => ?_
  simp [-aft_nx]
  obtain ⟨m, e, hmm⟩ := pick2 (a := 9) (b := 100) h0 h1
  refine ⟨_, e, ?_⟩
  refine draw_c h (by omega) (by omega) fun x y t h ht0 ht1 => ?_
  have ht2 : t ≤ 1000 := by omega
  rw [aft_nx]
  simp [-aft_nx, eNet]
  refine lcL_map (fun i ys S => S = x :: y :: List.replicate (off (lns n) i) (MO.dct []) ∧ ys = (List.range i).map fun r => D.lst ((List.range (lns n r)).map fun l => .ref (off (lns n) r + l + 2))) _ _ ⟨rfl, rfl⟩ ?_ ?_
  · rintro i rd ys S hrd ⟨rfl, rfl⟩
    have hL := lns_ok hn hrd
    obtain ⟨r1, r2, _⟩ := hn.road rd (List.mem_of_getElem? hrd)
    refine ⟨rfl, _, rfl, ?_⟩
    simp [eRoad, okR]
    refine ⟨by omega, ?_⟩
    have e1 : rd.1.toNat = lns n i := by omega
    rw [e1]
    refine lcL_rng (fun j zs S => S = x :: y :: List.replicate (off (lns n) i + j) (MO.dct []) ∧ zs = (List.range j).map fun l => .ref (off (lns n) i + l + 2)) ⟨rfl, rfl⟩ ?_ ?_
    · rintro j zs S hj ⟨rfl, rfl⟩
      refine ⟨_, rfl, ?_⟩
      simp [List.range_succ, ← Nat.add_assoc, List.replicate_succ']
    · rintro zs S ⟨rfl, rfl⟩
      simp [lim, List.range_succ, off]
      try omega
  rintro ys S ⟨rfl, rfl⟩
  refine ⟨rfl, ?_⟩
  simp [-aft_nx, lim]
  refine ⟨by omega, ?_⟩
  rw [aft_nx]
  simp [-aft_nx]
  rw [aft_nx]
  simp [-aft_nx, eCars, okR]
  refine ⟨by omega, ?_⟩
  have eN : (D.tup [D.tup (n.roads.map eRoad), D.tup (n.cross.map eCr)]) = eNet n := rfl
  have eC : D.tup (cs.map eCar) = eCars cs := rfl
  rw [eN, eC]
  refine forL_rng (fun i ρ S => ∃ x y T rows arr a6 a8 a9 a10 a11 a12 a13, S = x :: y :: T ∧ DLay T n.roads.length (lns n) rows ∧ T[off (lns n) n.roads.length]? = some (.lst (arr.map eArr)) ∧ SP x y ∧ Part n cs t i rows arr ∧ ρ = [some (.ref 1), some (eNet n), some (eCars cs), some (.int t), some (eDs n.roads.length (lns n)), some (.ref (off (lns n) n.roads.length + 2)), a6, none, a8, a9, a10, a11, a12, a13])
    ⟨x, y, _, fun _ _ => [], [], _, _, _, _, _, _, _, rfl, ⟨fun r hr l hl => ?_⟩, by simp, h, .none n cs t, rfl⟩ ?_ ?_
  · have := off_le (L := lns n) hr
    rw [List.getElem?_append_left (by simp; omega), List.getElem?_replicate, if_pos (by omega)]
    rfl
  · rintro i ρ S hi ⟨x, y, T, rows, arr, a6, a8, a9, a10, a11, a12, a13, rfl, hT, hA, h, hP, rfl⟩
    obtain ⟨c, hci⟩ : ∃ c, cs[i]? = some c := ⟨cs[i]'(by omega), by simp⟩
    have hcw := (hc.car c (List.mem_of_getElem? hci)).2.2
    have hw0 : 0 < c.2.length := List.length_pos_iff.mpr hcw.some
    have hw6 := hcw.few
    have hal := hP.alen
    refine ⟨_, rfl, ?_⟩
    simp [-aft_nx, eCars, Z.atI_nat, hci, eCar]
    rw [aft_nx]
    simp [-aft_nx]
    refine draw_c h (by omega) (by omega) fun x y pk h hp0 hp1 => ?_
    rw [aft_nx]
    by_cases hp : pk = 0
    · simp [hp, hA]
      refine draw_c h (by omega) (by omega) fun x y u h hu0 hu1 => ?_
      simp [hA]
      have e1 : arr.map eArr ++ [.tup [.int (i : Nat), .int u]] = (arr ++ [((i : Int), u)]).map eArr := by simp [eArr]
      rw [e1]
      refine ⟨by simp [lim]; omega, x, y, _, ⟨rfl, rfl, rfl⟩, rows, hT.setEnd _, arr ++ [((i : Int), u)], ?_, h, hP.arrive ⟨hu0, by omega⟩⟩
      rw [List.getElem?_set_self (List.getElem?_eq_some_iff.mp hA).1]
    · by_cases hp2 : pk < 5
      · simp [-aft_nx, hp, hp2, eIs]
        refine draw_c h (by omega) (by omega) fun x y leg h hg0 hg1 => ?_
        obtain ⟨leg, rfl⟩ := Int.eq_ofNat_of_zero_le hg0
        obtain ⟨r, hr⟩ : ∃ r, c.2[leg]? = some r := ⟨c.2[leg]'(by omega), by simp⟩
        obtain ⟨hr0, hr1⟩ := hcw.road r (List.mem_of_getElem? hr)
        obtain ⟨r, rfl⟩ := Int.eq_ofNat_of_zero_le hr0
        have hr2 : r < n.roads.length := by omega
        obtain ⟨rd, hrd⟩ : ∃ rd, n.roads[r]? = some rd := ⟨n.roads[r], by simp⟩
        have hL := lns_ok hn hrd
        obtain ⟨q1, q2, q3, q4, _⟩ := hn.road rd (List.mem_of_getElem? hrd)
        rw [aft_nx]
        simp [-aft_nx, Z.atI_nat, hr, eDs, hr2]
        rw [aft_nx]
        have hrd2 : n.roads[r]'hr2 = rd := (List.getElem?_eq_some_iff.mp hrd).2
        simp [-aft_nx, eNet, eDs, hr2, Z.atI_nat, hrd2, eRoad]
        refine draw_c h (by omega) (by omega) fun x y l h hl0 hl1 => ?_
        obtain ⟨l, rfl⟩ := Int.eq_ofNat_of_zero_le hl0
        have hl2 : l < lns n r := by omega
        simp [-aft_nx, Z.atI_nat, hl2]
        rw [aft_nx]
        simp [-aft_nx, Z.atI_nat, hrd, eRoad]
        refine draw_c h (by omega) (by omega) fun x y ce h hc0 hc1 => ?_
        rw [aft_nx]
        have hlen := hP.len r l
        have hlane := hT.lane r hr2 l hl2
        have hg : ∀ x y, dGetO (x :: y :: T) (.ref (off (lns n) r + l + 2)) (.int ce) = some (valD ((rows r l).map kvR) (.inl ce)) := fun x y => by simp [dGetO, keyD, hlane]
        by_cases hin : ce ∈ (rows r l).map (·.1)
        · obtain ⟨a, ha, hace⟩ := List.mem_map.mp hin
          have hv := val_some (hP.cells r l) ha
          rw [hace] at hv
          simp [hg, hv]
          exact ⟨x, y, T, ⟨rfl, rfl, rfl⟩, rows, hT, arr, hA, h, hP.skip⟩
        · have hv := val_none hin
          simp [hg, hv]
          refine draw_c h (by omega) (by omega) fun x y sp h hs0 hs1 => ?_
          have e2 : D.tup [.int ce, .int (i : Nat), .int sp, .int (leg : Nat)] = eRow (ce, (i : Int), sp, (leg : Int)) := rfl
          simp [e2, dPutS, keyD, hlane]
          have e3 := put_kv (a := (ce, (i : Int), sp, (leg : Int))) hin
          simp only at e3
          rw [e3]
          refine ⟨_, ⟨by simp [lim]; omega, rfl⟩, x, y, _, rfl, _, hT.set hr2 hl2 _, arr, ?_, h, hP.enter ?_ hin⟩
          · have := off_le (L := lns n) hr2
            rw [List.getElem?_set_ne (by omega)]
            exact hA
          · exact ⟨⟨hc0, rd, hrd, hc1⟩, ⟨by simpa using hs0, by simp; omega⟩, by simp, by simp, c, by simpa using hci, by simpa using hr⟩
      · simp [hp, hp2]
        exact ⟨x, y, T, ⟨rfl, rfl, rfl⟩, rows, hT, arr, hA, h, hP.skip⟩
  rintro ρ S ⟨x, y, T, rows, arr, a6, a8, a9, a10, a11, a12, a13, rfl, hT, hA, h, hP, rfl⟩
  rw [aft_nx]
  simp [-aft_nx]
  rw [aft_nx]
  simp [-aft_nx]
  refine ⟨_, rfl, ?_⟩
  have hTl : (T ++ [MO.lst []]).length = T.length + 1 := by simp
  refine forL_map (fun i ρ S => S = x :: y :: (T ++ [.lst ((List.range i).map fun r => D.tup ((List.range (lns n r)).map fun l => .tup ((srtR (rows r l)).map eRow)))]) ∧ ∃ a8, ρ = [some (.ref 1), some (eNet n), some (eCars cs), some (.int t), some (eDs n.roads.length (lns n)), some (.ref (off (lns n) n.roads.length + 2)), a6, some (.ref (T.length + 1 + 1)), a8, a9, a10, a11, a12, a13]) _ _ ⟨rfl, _, rfl⟩ ?_ ?_
  · rintro i r ρ S hir ⟨rfl, a8, rfl⟩
    obtain ⟨hi1, hi2⟩ := List.getElem?_eq_some_iff.mp hir
    simp at hi1 hi2
    subst hi2
    refine ⟨rfl, _, rfl, ?_⟩
    simp [-aft_nx]
    refine lcL_all _ (fun l : Nat => .tup ((srtR (rows i l)).map eRow)) _ rfl ?_ ?_
    · intro l hl
      simp at hl
      refine ⟨_, rfl, ?_⟩
      have hlane : (x :: y :: (T ++ [MO.lst ((List.range i).map fun r => D.tup ((List.range (lns n r)).map fun l => .tup ((srtR (rows r l)).map eRow)))]))[off (lns n) i + l + 2]? = some (.dct ((rows i l).map kvR)) := by
        simp only [List.getElem?_cons_succ]
        exact (hT.app _).lane i hi1 l hl
      have hro := fun a ha => (hP.row i l a ha).1
      have hcells := hP.cells i l
      have hlen := hP.len i l
      generalize (x :: y :: (T ++ [MO.lst ((List.range i).map fun r => D.tup ((List.range (lns n r)).map fun l => .tup ((srtR (rows r l)).map eRow)))])) = U at hlane
      simp
      refine wp_cSortD (kvs := (rows i l).map kvR) (ns := (rows i l).map (·.1)) (by simp [dctO, hlane]) ?_ (by simp; omega) ?_
      · have : ((rows i l).map kvR).map (·.1) = ((rows i l).map (·.1)).map Sum.inl := by simp [kvR]
        rw [this]
        exact keysI_map _
      rw [srt_cells hn hc hro hcells, List.map_map]
      refine lcL_all (fun a : Row => .int a.1) eRow _ rfl (fun a ha => ⟨_, rfl, ?_⟩) ?_
      · have ha2 := (srtR_perm _).mem_iff.mp ha
        simp [dGetO, keyD, hlane, val_some hcells ha2]
      · simp [lim]
        rw [(srtR_perm _).length_eq]
        omega
    · have hrd : n.roads[i]? = some n.roads[i] := by simp [hi1]
      have hL := lns_ok hn hrd
      obtain ⟨q1, q2, _⟩ := hn.road n.roads[i] (List.getElem_mem hi1)
      simp [lim, List.range_succ]
      omega
  · rintro ρ S ⟨rfl, a8, rfl⟩
    refine ⟨rfl, ?_⟩
    rw [aft_nx]
    have hA2 : ∀ U : Store, (T ++ U)[off (lns n) n.roads.length]? = some (.lst (arr.map eArr)) := fun U => by rw [List.getElem?_append_left (List.getElem?_eq_some_iff.mp hA).1]; exact hA
    simp [hA2]
    refine ⟨h.bel, x, y, ⟨rfl, rfl⟩, h, ⟨t, fun r l => srtR (rows r l), arr⟩, rfl, ⟨⟨ht0, Int.le_trans ht2 (by decide)⟩, hP.sort, fun r l => srtR_asc hn hc (fun a ha => (hP.row r l a ha).1) (hP.cells r l)⟩, ht2⟩
theorem state_c {n : Net} (hn : n.ok) {cs : List Car} (hc : CarsOk n cs) {x y : MO} (h : SP x y) {rest : Store} {Q : D → Store → Prop} (q : ∀ x' y' s, SP x' y' → Sound n cs s → Q (eSt n s) (x' :: y' :: rest)) : wp (callF 2 f__law_state [.ref 1, eNet n, eCars cs]) (x :: y :: rest) Q :=
  wp_call2 h.bel.1 h.bel.2 (by simp [nrs]) (state_ok hn hc h) fun x' y' d hs ⟨r, e, hr, _⟩ => by subst e; exact q x' y' r hs hr
theorem state_c2 {n : Net} (hn : n.ok) {cs : List Car} (hc : CarsOk n cs) {x y : MO} (h : SP x y) {rest : Store} {Q : D → Store → Prop} (q : ∀ x' y' s, SP x' y' → Sound n cs s → s.time ≤ 1000 → Q (eSt n s) (x' :: y' :: rest)) : wp (callF 2 f__law_state [.ref 1, eNet n, eCars cs]) (x :: y :: rest) Q :=
  wp_call2 h.bel.1 h.bel.2 (by simp [nrs]) (state_ok hn hc h) fun x' y' d hs ⟨r, e, hr, ht⟩ => by subst e; exact q x' y' r hs hr ht
end C
set_option Elab.async false
set_option linter.all false
set_option maxRecDepth 100000
namespace C
open PySem L2 Z
/-! ### changes of lane -/
theorem atI_s {α : Type} {xs : List α} {k : Nat} : atI xs ((k : Int) + 1) = xs[k + 1]? := by
  rw [show (k : Int) + 1 = ((k + 1 : Nat) : Int) by omega, Z.atI_nat]
def roomT (rows : List Row) (k : Nat) (a : Row) (cells : Int) : Int := match rows[k + 1]? with
  | some b => b.1 - a.1 - 1
  | none => cells - 1 - a.1
def wantT (rd : Road) (a : Row) : Int := if rd.2.2.1 < a.2.2.1 + 1 then rd.2.2.1 else a.2.2.1 + 1
def eLane (rows : List Row) : D := .tup (rows.map eRow)
@[simp] theorem nr_eLane {rows : List Row} : nr (eLane rows) = true := by simp [eLane]
theorem room_w {f : List D → M D} (hf : f = f_room_in ∨ f = f_room_in) {rows : List Row} {k : Nat} {a : Row} (ha : rows[k]? = some a) {cells : Int} {S : Store} {Q : D → Store → Prop} (q : Q (.int (roomT rows k a cells)) S) : wp (callF 0 f [eLane rows, .int (k : Nat), .int cells]) S Q := by
  refine wp_call0 (by simp [nrs]) ?_
  have hk := (List.getElem?_eq_some_iff.mp ha).1
  have go : wp (mBody 3 b_room_in [eLane rows, .int (k : Nat), .int cells]) [] fun d S1 => S1 = [] ∧ Q d S := by
    unfold b_room_in roomT at *
    by_cases h : k + 1 < rows.length
    · have hb : rows[k + 1]? = some rows[k + 1] := by simp [h]
      rw [hb] at q
      have h2 : (k : Int) + 1 < rows.length := by omega
      simpa [startD_eq, eLane, h2, atI_s, Z.atI_nat, ha, h, eRow_eq] using q
    · have hb : rows[k + 1]? = none := List.getElem?_eq_none (by omega)
      rw [hb] at q
      have h2 : ¬ (k : Int) + 1 < rows.length := by omega
      simpa [startD_eq, eLane, h2, Z.atI_nat, ha, eRow_eq] using q
  rcases hf with rfl | rfl
  · exact go
  · exact go
theorem want_w {f : List D → M D} (hf : f = f_wanted ∨ f = f_wanted) {n : Net} {r : Nat} {rd : Road} (hr : n.roads[r]? = some rd) {a : Row} {S : Store} {Q : D → Store → Prop} (q : Q (.int (wantT rd a)) S) : wp (callF 0 f [eNet n, .int (r : Nat), eRow a]) S Q := by
  refine wp_call0 (by simp [nrs]) ?_
  have go : wp (mBody 3 b_wanted [eNet n, .int (r : Nat), eRow a]) [] fun d S1 => S1 = [] ∧ Q d S := by
    unfold b_wanted
    unfold wantT at q
    simpa [startD_eq, eNet, eRow_eq, Z.atI_nat, hr, eRoad] using q
  rcases hf with rfl | rfl
  · exact go
  · exact go
def gapA (cell : Int) : List Row → Int → Int
  | [], z => z
  | r :: rs, z => gapA cell rs (if r.1 < cell then z else if r.1 < z then r.1 else z)
def gapB (cell : Int) (rows : List Row) : Option Row := (rows.filter fun r => decide (r.1 < cell)).getLast?
theorem gapA_app (cell : Int) : ∀ (rs : List Row) (z : Int) (r : Row), gapA cell (rs ++ [r]) z = if r.1 < cell then gapA cell rs z else if r.1 < gapA cell rs z then r.1 else gapA cell rs z
  | [], z, r => rfl
  | _ :: rs, z, r => by simp only [List.cons_append, gapA]; exact gapA_app cell rs _ r
theorem gapA_spec (cell : Int) : ∀ (rs : List Row) (z : Int), (∀ r ∈ rs, r.1 ≠ cell) → gapA cell rs z ∈ (rs.filter fun r => decide (cell < r.1)).map (·.1) ++ [z] ∧ ∀ x ∈ (rs.filter fun r => decide (cell < r.1)).map (·.1) ++ [z], gapA cell rs z ≤ x
  | [], z, _ => by simp [gapA]
  | r :: rs, z, h => by
    have hr := h r List.mem_cons_self
    have ih := gapA_spec cell rs (if r.1 < cell then z else if r.1 < z then r.1 else z) fun q hq => h q (List.mem_cons_of_mem _ hq)
    unfold gapA
    by_cases c : r.1 < cell
    · have c2 : ¬ cell < r.1 := by omega
      simp only [c, if_true] at ih ⊢
      rw [List.filter_cons_of_neg (by simpa using c2)]
      exact ih
    · have c2 : cell < r.1 := by omega
      simp only [c, if_false] at ih ⊢
      rw [List.filter_cons_of_pos (by simpa using c2), List.map_cons, List.cons_append]
      obtain ⟨i1, i2⟩ := ih
      have hz := i2 (if r.1 < z then r.1 else z) (by simp)
      generalize gapA cell rs (if r.1 < z then r.1 else z) = g at i1 i2 hz ⊢
      refine ⟨?_, fun x hx => ?_⟩
      · rcases List.mem_append.mp i1 with i1 | i1
        · exact List.mem_cons_of_mem _ (List.mem_append_left _ i1)
        · rw [List.mem_singleton] at i1
          rw [i1]
          split
          · exact List.mem_cons_self
          · exact List.mem_cons_of_mem _ (by simp)
      · rcases List.mem_cons.mp hx with rfl | hx
        · split at hz <;> omega
        · rcases List.mem_append.mp hx with hx | hx
          · exact i2 x (List.mem_append_left _ hx)
          · rw [List.mem_singleton] at hx
            subst hx
            split at hz <;> omega
def eOpt : Option Row → D
  | none => .non
  | some a => eRow a
@[simp] theorem nr_eOpt {o : Option Row} : nr (eOpt o) = true := by cases o <;> simp [eOpt]
theorem gap_w {rows : List Row} {cell cells : Int} {S : Store} {Q : D → Store → Prop}
    (q1 : (∃ r ∈ rows, r.1 = cell) → Q (.tup [.bl false, .int 0, .non]) S) (q2 : (∀ r ∈ rows, r.1 ≠ cell) → Q (.tup [.bl true, .int (gapA cell rows cells - cell - 1), eOpt (gapB cell rows)]) S) : wp (callF 0 f_gap_at [eLane rows, .int cell, .int cells]) S Q := by
  refine wp_call0 (by simp [nrs]) ?_
  unfold f_gap_at b_gap_at
  simp [startD_eq, eLane]
  refine forL_map (fun i ρ T => T = [] ∧ (∀ r ∈ rows.take i, r.1 ≠ cell) ∧ ∃ a, ρ = [some (eLane rows), some (.int cell), some (.int cells), some (.int (gapA cell (rows.take i) cells)), some (eOpt (gapB cell (rows.take i))), a]) _ _ ⟨rfl, by simp, _, rfl⟩ ?_ ?_
  · rintro i a ρ T ha ⟨rfl, hne, v, rfl⟩
    have ht : rows.take (i + 1) = rows.take i ++ [a] := by rw [List.take_add_one, ha]; rfl
    have hm : a ∈ rows := List.mem_of_getElem? ha
    by_cases e1 : a.1 = cell
    · simp [eRow_eq, e1]
      exact q1 ⟨a, hm, e1⟩
    · have hne2 : ∀ r ∈ rows.take (i + 1), r.1 ≠ cell := by
        rw [ht]
        intro r hr
        rcases List.mem_append.mp hr with hr | hr
        · exact hne r hr
        · rw [List.mem_singleton] at hr; rw [hr]; exact e1
      by_cases e2 : a.1 < cell
      · have g1 : gapA cell (rows.take (i + 1)) cells = gapA cell (rows.take i) cells := by rw [ht, gapA_app, if_pos e2]
        have g2 : gapB cell (rows.take (i + 1)) = some a := by rw [ht]; simp [gapB, List.filter_append, e2]
        rw [g1, g2]
        simp [eRow_eq, e1, e2, eOpt]
        simpa using hne2
      · have g2 : gapB cell (rows.take (i + 1)) = gapB cell (rows.take i) := by rw [ht]; simp [gapB, List.filter_append, e2]
        rw [g2]
        have g1 : gapA cell (rows.take (i + 1)) cells = if a.1 < gapA cell (rows.take i) cells then a.1 else gapA cell (rows.take i) cells := by rw [ht, gapA_app, if_neg e2]
        by_cases e3 : a.1 < gapA cell (rows.take i) cells
        · rw [if_pos e3] at g1
          rw [g1]
          simp [eRow_eq, e1, e2, e3]
          simpa using hne2
        · rw [if_neg e3] at g1
          rw [g1]
          simp [eRow_eq, e1, e2, e3]
          simpa using hne2
  · rintro ρ T ⟨rfl, hne, v, rfl⟩
    rw [List.take_length] at hne ⊢
    simp
    exact q2 hne
end C
set_option Elab.async false
set_option linter.all false
set_option maxRecDepth 100000
namespace Z
open PySem L2
@[simp] theorem wp_dIsN {d : D} {S : Store} {Q} : wp (dIs d .non) S Q ↔ Q (.bl (isN d)) S := by unfold dIs; simp [isN]
@[simp] theorem wp_dIsNotN {d : D} {S : Store} {Q} : wp (dIsNot d .non) S Q ↔ Q (.bl (!isN d)) S := by unfold dIsNot; simp [isN]
@[simp] theorem isN_non : isN .non = true := rfl
@[simp] theorem isN_tup {xs : List D} : isN (.tup xs) = false := rfl
@[simp] theorem isN_lst {xs : List D} : isN (.lst xs) = false := rfl
@[simp] theorem isN_int {i : Int} : isN (.int i) = false := rfl
@[simp] theorem isN_ref {i : Nat} : isN (.ref i) = false := rfl
end Z
namespace C
open PySem L2 Z
def goesT (rd : Road) (rows : List Row) (k : Nat) (a : Row) (other : List Row) : Bool :=
  if wantT rd a ≤ roomT rows k a rd.2.1 then false
  else if ∃ r ∈ other, r.1 = a.1 then false
  else if gapA a.1 other rd.2.1 - a.1 - 1 ≤ roomT rows k a rd.2.1 then false
  else match gapB a.1 other with
    | none => true
    | some b => decide (b.2.2.1 ≤ a.1 - b.1 - 1)
theorem goes_w {n : Net} {r : Nat} {rd : Road} (hr : n.roads[r]? = some rd) {rows other : List Row} {k : Nat} {a : Row} (ha : rows[k]? = some a) {S : Store} {Q : D → Store → Prop} (q : Q (.bl (goesT rd rows k a other)) S) : wp (callF 0 f_goes_over [eNet n, .int (r : Nat), eLane rows, .int (k : Nat), eLane other]) S Q := by
  refine wp_call0 (by simp [nrs]) ?_
  unfold f_goes_over b_goes_over
  unfold goesT at q
  simp [-aft_nx, startD_eq, eNet, Z.atI_nat, hr, eRoad]
  rw [aft_nx]
  simp only [wps_seq, wps_set, wp_mOp, wp_mVar]
  simp [-aft_nx, eLane, Z.atI_nat, ha]
  rw [aft_nx]
  simp [-aft_nx]
  refine room_w (.inl rfl) ha ?_
  rw [aft_nx]
  simp [-aft_nx]
  refine want_w (.inl rfl) hr ?_
  by_cases c1 : wantT rd a ≤ roomT rows k a rd.2.1
  · rw [if_pos c1] at q
    simp [c1]
    exact q
  · rw [if_neg c1] at q
    simp [-aft_nx, c1]
    rw [aft_nx]
    simp [-aft_nx, eRow_eq]
    refine gap_w (fun h => ?_) (fun h => ?_)
    · rw [if_pos h] at q
      simp
      exact q
    · have h2 : ¬ ∃ r ∈ other, r.1 = a.1 := fun ⟨r, h1, h2⟩ => h r h1 h2
      rw [if_neg h2] at q
      by_cases c2 : gapA a.1 other rd.2.1 - a.1 - 1 ≤ roomT rows k a rd.2.1
      · rw [if_pos c2] at q
        simp [c2]
        exact q
      · rw [if_neg c2] at q
        cases hb : gapB a.1 other with
        | none =>
          rw [hb] at q
          simp [c2, eOpt]
          exact q
        | some b =>
          rw [hb] at q
          simp [c2, eOpt, eRow_eq]
          exact q
theorem minI_app {l : List Int} {z m : Int} (h1 : m ∈ l ++ [z]) (h2 : ∀ x ∈ l ++ [z], m ≤ x) : minI (l ++ [z]) = some m := by
  cases h : minI (l ++ [z]) with
  | none =>
    cases l <;> simp [minI] at h
  | some i =>
    obtain ⟨g1, g2, _⟩ := minI_spec h
    rw [min_uniq g1 g2 h1 h2]
end C
set_option Elab.async false
set_option linter.all false
set_option maxRecDepth 100000
namespace C
open PySem L2 Z
def stepR (f : Nat → List Row) (t : Nat) (a : Row) : Nat → List Row := fun l => if l = t then f l ++ [a] else f l
def accR (tg : Nat → Row → Nat) (rows : List Row) (f : Nat → List Row) : Nat → Nat → List Row
  | 0 => f
  | k + 1 => match rows[k]? with
    | some a => stepR (accR tg rows f k) (tg k a) a
    | none => accR tg rows f k
def accL (tg : Nat → Nat → Row → Nat) (lanes : Nat → List Row) : Nat → Nat → List Row
  | 0 => fun _ => []
  | j + 1 => accR (tg j) (lanes j) (accL tg lanes j) (lanes j).length
theorem accR_len (tg : Nat → Row → Nat) (rows : List Row) (f : Nat → List Row) (l : Nat) : ∀ k, (accR tg rows f k l).length ≤ (f l).length + k
  | 0 => by simp [accR]
  | k + 1 => by
    have ih := accR_len tg rows f l k
    unfold accR
    cases rows[k]? with
    | none => simp only; omega
    | some a =>
      simp only [stepR]
      split
      · simp; omega
      · omega
theorem accL_len (tg : Nat → Nat → Row → Nat) (lanes : Nat → List Row) (l : Nat) {B : Nat} : ∀ j, (∀ i, i < j → (lanes i).length ≤ B) → (accL tg lanes j l).length ≤ B * j
  | 0, _ => by simp [accL]
  | j + 1, h => by
    have ih := accL_len tg lanes l j fun i hi => h i (by omega)
    have := accR_len (tg j) (lanes j) (accL tg lanes j) l (lanes j).length
    have := h j (by omega)
    show (accR (tg j) (lanes j) (accL tg lanes j) (lanes j).length l).length ≤ _
    rw [Nat.mul_succ]
    omega
theorem accR_mem {tg : Nat → Row → Nat} {rows : List Row} {f : Nat → List Row} {l : Nat} {a : Row} : ∀ k, a ∈ accR tg rows f k l → a ∈ f l ∨ a ∈ rows
  | 0, h => .inl h
  | k + 1, h => by
    unfold accR at h
    cases hb : rows[k]? with
    | none => rw [hb] at h; exact accR_mem k h
    | some b =>
      rw [hb] at h
      simp only [stepR] at h
      split at h
      · rcases List.mem_append.mp h with h | h
        · exact accR_mem k h
        · rw [List.mem_singleton] at h; exact .inr (h ▸ List.mem_of_getElem? hb)
      · exact accR_mem k h
theorem accL_mem {tg : Nat → Nat → Row → Nat} {lanes : Nat → List Row} {l : Nat} {a : Row} : ∀ j, a ∈ accL tg lanes j l → ∃ i, i < j ∧ a ∈ lanes i
  | 0, h => by simp [accL] at h
  | j + 1, h => by
    rcases accR_mem (tg := tg j) (rows := lanes j) (f := accL tg lanes j) _ h with h | h
    · obtain ⟨i, hi, h⟩ := accL_mem j h; exact ⟨i, by omega, h⟩
    · exact ⟨j, by omega, h⟩
def toI (time : Int) (j : Nat) : Int := if time % 2 = 1 then (j : Int) + 1 else (j : Int) - 1
def tgt (rd : Road) (time : Int) (L : Nat) (lanes : Nat → List Row) (j k : Nat) (a : Row) : Nat :=
  if (0 ≤ toI time j ∧ toI time j < L) ∧ goesT rd (lanes j) k a (lanes (toI time j).toNat) = true then (toI time j).toNat else j
def newT (rd : Road) (time : Int) (L : Nat) (lanes : Nat → List Row) : Nat → List Row := accL (tgt rd time L lanes) lanes L
/-- the lists of lanes that are made, at b -/
structure Lan (pre : Store) (T : Store) (L : Nat) (new : Nat → List Row) : Prop where
  old : T.take pre.length = pre
  top : T[pre.length + L]? = some (.lst ((List.range L).map fun l => .ref (pre.length + l)))
  lane : ∀ l, l < L → T[pre.length + l]? = some (.lst ((new l).map eRow))
theorem Lan.start (pre : Store) (L : Nat) : Lan pre (pre ++ List.replicate L (.lst []) ++ [.lst ((List.range L).map fun l => .ref (pre.length + l))]) L (fun _ => []) := by
  refine ⟨by simp, ?_, fun l hl => ?_⟩
  · rw [List.getElem?_append_right (by simp)]
    simp
  · rw [List.append_assoc, List.getElem?_append_right (by omega), List.getElem?_append_left (by simp; omega)]
    rw [show pre.length + l - pre.length = l by omega, List.getElem?_replicate, if_pos hl]
    rfl
theorem Lan.put {pre T : Store} {L : Nat} {new : Nat → List Row} (h : Lan pre T L new) {t : Nat} (ht : t < L) (a : Row) : Lan pre (T.set (pre.length + t) (.lst ((new t ++ [a]).map eRow))) L (stepR new t a) := by
  refine ⟨?_, ?_, fun l hl => ?_⟩
  · rw [List.take_set_of_le (by omega)]; exact h.old
  · rw [List.getElem?_set_ne (by omega)]; exact h.top
  · unfold stepR
    by_cases e : l = t
    · subst e
      rw [List.getElem?_set_self (List.getElem?_eq_some_iff.mp (h.lane l hl)).1, if_pos rfl]
    · rw [List.getElem?_set_ne (by omega), if_neg e]
      exact h.lane l hl
def eLanes (L : Nat) (rows : Nat → List Row) : D := .tup ((List.range L).map fun l => eLane (rows l))
@[simp] theorem nr_eLanes {L : Nat} {rows : Nat → List Row} : nr (eLanes L rows) = true := by simp [eLanes]
theorem enum_map {α : Type} (c : α → D) : ∀ (k : Nat) (as : List α), enumD k (as.map c) = (as.zipIdx k).map fun p => .tup [.int (p.2 : Nat), c p.1]
  | _, [] => rfl
  | k, a :: as => by simp [enumD, enum_map c (k + 1) as]
theorem enum_range (L : Nat) (g : Nat → D) : enumD 0 ((List.range L).map g) = (List.range L).map fun l => .tup [.int (l : Nat), g l] := by
  rw [enum_map]
  apply List.ext_getElem
  · simp
  · intro i h1 h2
    simp
/-- the first lists: one for each lane -/
theorem lists_w {vs : List Nat} {i : Nat} {ρ : Z.Env} {pre : Store} {L : Nat} {rows : Nat → List Row} {ok : Store → Bool} {Q : List D → Store → Prop} (hok : ∀ S, ok S = true) (q : Q ((List.range L).map fun l => .ref (pre.length + l)) (pre ++ List.replicate L (.lst []))) :
    wp (mLcL vs (.nm i) ok mTrue (mAd mNil) ρ ((List.range L).map fun l => eLane (rows l))) pre Q := by
  refine lcL_map (fun i ys S => S = pre ++ List.replicate i (.lst []) ∧ ys = (List.range i).map fun l => .ref (pre.length + l)) (fun l => eLane (rows l)) (List.range L) ⟨by simp, rfl⟩ ?_ ?_
  · rintro i a ys S ha ⟨rfl, rfl⟩
    refine ⟨hok _, ?_⟩
    simp [List.range_succ, List.replicate_succ']
  · rintro ys S ⟨rfl, rfl⟩
    refine ⟨hok _, ?_⟩
    simpa using q
structure LanesOk (n : Net) (cs : List Car) (r : Nat) (L : Nat) (rows : Nat → List Row) : Prop where
  net : n.ok
  cars : CarsOk n cs
  few : L ≤ 3
  row : ∀ l a, a ∈ rows l → RowOk n cs r a
  len : ∀ l, (rows l).length ≤ 20
theorem new_ok {n : Net} {cs : List Car} {r L : Nat} {rows : Nat → List Row} (h : LanesOk n cs r L rows) (rd : Road) (time : Int) (l : Nat) : (newT rd time L rows l).length < 64 ∧ ∀ a ∈ newT rd time L rows l, RowOk n cs r a := by
  have h1 := accL_len (tgt rd time L rows) rows l L fun i _ => h.len i
  have h2 := h.few
  refine ⟨?_, fun a ha => ?_⟩
  · show (accL (tgt rd time L rows) rows L l).length < 64
    omega
  · obtain ⟨i, _, hi⟩ := accL_mem L ha
    exact h.row i a hi
/-- what the last lines of both do -/
theorem close_w {n : Net} {cs : List Car} {r L : Nat} {rows : Nat → List Row} (h : LanesOk n cs r L rows) {rd : Road} {time : Int} {pre T : Store} (hT : Lan pre T L (newT rd time L rows)) {vs : List Nat} {ρ : Z.Env} {i : Nat} (hi : i < ρ.length) {ok : Store → Bool} (hok : ok T = true) {Q : List D → Store → Prop}
    (hv : vs = [i]) (q : Q ((List.range L).map fun l => eLane (srtR (newT rd time L rows l))) T) :
    wp (mLcL vs (.nm i) ok mTrue (mCB cTuple (mCons (mFz (mCF (cSortT 4 64) (mCons (mVar i) mNil))) mNil)) ρ ((List.range L).map fun l => .ref (pre.length + l))) T Q := by
  subst hv
  refine lcL_all _ (fun l => eLane (srtR (newT rd time L rows l))) _ hok (fun l hl => ?_) q
  simp at hl
  obtain ⟨h1, h2⟩ := new_ok h rd time l
  have e : (ρ.set i (some (D.ref (pre.length + l))))[i]? = some (some (D.ref (pre.length + l))) := by
    rw [List.getElem?_set_self hi]
  simp [e]
  refine wp_sortR h.net h.cars (asLC_ref.mpr (hT.lane l hl)) h2 h1 ?_
  simp [eLane]
end C
set_option Elab.async false
set_option linter.all false
set_option maxRecDepth 100000
namespace C
open PySem L2 Z
theorem inner_w {n : Net} {cs : List Car} {r L : Nat} {rows : Nat → List Row} (h : LanesOk n cs r L rows) {rd : Road} (hr : n.roads[r]? = some rd) {time : Int} {j : Nat} (hj : j < L) {f0 : Nat → List Row} (hf : ∀ l, (f0 l).length ≤ 1000) {T : Store} (hT : Lan [] T L f0) {d e : Option D} {Q : Out → Store → Prop}
    (fin : ∀ T' d e, Lan [] T' L (accR (tgt rd time L rows j) (rows j) f0 (rows j).length) → Q (.nx [some (eNet n), some (.int (r : Nat)), some (eLanes L rows), some (.int time), some (.ref L), some (.int (j : Nat)), some (eLane (rows j)), some (.int (toI time j)), none, d, e]) T') :
    wps (mFor (.tp [9, 10]) (mItE (mVar 6)) (mIfS (mAnd (mB (mChain dLe dLt (mC (.int 0)) (mVar 7) (mCB cLen (mCons (mVar 2) mNil)))) (mTru (mCall 0 f_goes_over (mCons (mVar 0) (mCons (mVar 1) (mCons (mVar 6) (mCons (mVar 9) (mCons (mOp dIx (mVar 2) (mVar 7)) mNil)))))))) (mDrop (mMth lApp (mOp dIx (mVar 4) (mVar 7)) (mCons (mVar 10) mNil))) (mDrop (mMth lApp (mOp dIx (mVar 4) (mVar 5)) (mCons (mVar 10) mNil)))))
      [some (eNet n), some (.int (r : Nat)), some (eLanes L rows), some (.int time), some (.ref L), some (.int (j : Nat)), some (eLane (rows j)), some (.int (toI time j)), none, d, e] T Q := by
  have hl20 := h.len j
  simp [eLane]
  rw [enum_map]
  refine forL_map (fun k ρ T' => Lan [] T' L (accR (tgt rd time L rows j) (rows j) f0 k) ∧ ∃ d e, ρ = [some (eNet n), some (.int (r : Nat)), some (eLanes L rows), some (.int time), some (.ref L), some (.int (j : Nat)), some (eLane (rows j)), some (.int (toI time j)), none, d, e]) _ _ ⟨hT, d, e, rfl⟩ ?_ ?_
  · rintro k p ρ T' hp ⟨hT', d, e, rfl⟩
    have hk := (List.getElem?_eq_some_iff.mp hp).1
    simp at hk
    have ha : (rows j)[k]? = some (rows j)[k] := by simp [hk]
    simp [hk] at hp
    subst hp
    generalize (rows j)[k] = a at ha
    have hlk : ∀ l, (accR (tgt rd time L rows j) (rows j) f0 k l).length ≤ 1020 := fun l => by have := accR_len (tgt rd time L rows j) (rows j) f0 l k; have := hf l; omega
    have step : accR (tgt rd time L rows j) (rows j) f0 (k + 1) = stepR (accR (tgt rd time L rows j) (rows j) f0 k) (tgt rd time L rows j k a) a := by
      conv => lhs; unfold accR
      rw [ha]
    rw [step]
    have app : ∀ t, t < L → t = tgt rd time L rows j k a → (T'[t]? = some (.lst ((accR (tgt rd time L rows j) (rows j) f0 k t).map eRow))) ∧ (accR (tgt rd time L rows j) (rows j) f0 k t).length < lim ∧ Lan [] (T'.set t (.lst ((accR (tgt rd time L rows j) (rows j) f0 k t).map eRow ++ [eRow a]))) L (stepR (accR (tgt rd time L rows j) (rows j) f0 k) (tgt rd time L rows j k a) a) := by
      rintro t ht rfl
      have := hlk (tgt rd time L rows j k a)
      refine ⟨by simpa using hT'.lane _ ht, by simp [lim]; omega, by simpa using hT'.put ht a⟩
    have top := hT'.top
    simp at top
    by_cases c0 : 0 ≤ toI time j
    · by_cases c1 : toI time j < L
      · obtain ⟨t, ht⟩ := Int.eq_ofNat_of_zero_le c0
        have ht2 : t < L := by omega
        have ht3 : (toI time j).toNat = t := by omega
        simp [c0, c1, eLanes, ht, Z.atI_nat, ht2]
        refine goes_w hr ha ?_
        cases hg : goesT rd (rows j) k a (rows t) with
        | false =>
          have ht : tgt rd time L rows j k a = j := by unfold tgt; rw [ht3, if_neg (by simp [hg])]
          obtain ⟨g1, g2, g3⟩ := app j hj ht.symm
          simp [top, hj, g1]
          exact ⟨g2, g3⟩
        | true =>
          have ht : tgt rd time L rows j k a = t := by unfold tgt; rw [ht3, if_pos (by simp [hg, c0, c1])]
          obtain ⟨g1, g2, g3⟩ := app t ht2 ht.symm
          simp [top, ht2, g1]
          exact ⟨g2, g3⟩
      · have ht : tgt rd time L rows j k a = j := by unfold tgt; rw [if_neg (by simp [c1])]
        obtain ⟨g1, g2, g3⟩ := app j hj ht.symm
        simp [c0, c1, eLanes, top, Z.atI_nat, hj, g1]
        exact ⟨g2, g3⟩
    · have ht : tgt rd time L rows j k a = j := by unfold tgt; rw [if_neg (by simp [c0])]
      obtain ⟨g1, g2, g3⟩ := app j hj ht.symm
      simp [c0, top, Z.atI_nat, hj, g1]
      exact ⟨g2, g3⟩
  · rintro ρ T' ⟨hT', d, e, rfl⟩
    refine ⟨rfl, fin _ _ _ ?_⟩
    simpa using hT'
theorem changed_road_w {n : Net} {cs : List Car} {r L : Nat} {rows : Nat → List Row} (h : LanesOk n cs r L rows) {rd : Road} (hr : n.roads[r]? = some rd) {time : Int} {S : Store} {Q : D → Store → Prop} (q : Q (eLanes L fun l => srtR (newT rd time L rows l)) S) :
    wp (callF 0 f_changed_road [eNet n, .int (r : Nat), eLanes L rows, .int time]) S Q := by
  have hfew := h.few
  refine wp_call0 (by simp [nrs]) ?_
  unfold f_changed_road b_changed_road
  simp [-aft_nx, startD_eq, eLanes]
  refine lists_w (fun S => rfl) ?_
  have l0 := Lan.start [] L
  simp at l0
  refine ⟨by simp [lim]; omega, ?_⟩
  rw [aft_nx]
  simp [-aft_nx]
  rw [enum_range]
  refine forL_map (fun j ρ T => Lan [] T L (accL (tgt rd time L rows) rows j) ∧ ∃ a b c d e, ρ = [some (eNet n), some (.int (r : Nat)), some (eLanes L rows), some (.int time), some (.ref L), a, b, c, none, d, e]) _ _ ⟨l0, _, _, _, _, _, rfl⟩ ?_ ?_
  · rintro j j' ρ T hj ⟨hT, a, b, c, d, e, rfl⟩
    have hjL := (List.getElem?_eq_some_iff.mp hj).1
    simp at hjL
    simp [hjL] at hj
    subst hj
    have hf : ∀ l, (accL (tgt rd time L rows) rows j l).length ≤ 1000 := fun l => by have := accL_len (tgt rd time L rows) rows l j fun i _ => h.len i; omega
    have fin : ∀ (c0 : Int), c0 = toI time j → ∀ Q : Out → Store → Prop, (∀ T' d e, Lan [] T' L (accL (tgt rd time L rows) rows (j + 1)) → Q (.nx [some (eNet n), some (.int (r : Nat)), some (eLanes L rows), some (.int time), some (.ref L), some (.int (j : Nat)), some (eLane (rows j)), some (.int (toI time j)), none, d, e]) T') → wps (mFor (.tp [9, 10]) (mItE (mVar 6)) (mIfS (mAnd (mB (mChain dLe dLt (mC (.int 0)) (mVar 7) (mCB cLen (mCons (mVar 2) mNil)))) (mTru (mCall 0 f_goes_over (mCons (mVar 0) (mCons (mVar 1) (mCons (mVar 6) (mCons (mVar 9) (mCons (mOp dIx (mVar 2) (mVar 7)) mNil)))))))) (mDrop (mMth lApp (mOp dIx (mVar 4) (mVar 7)) (mCons (mVar 10) mNil))) (mDrop (mMth lApp (mOp dIx (mVar 4) (mVar 5)) (mCons (mVar 10) mNil)))))
      [some (eNet n), some (.int (r : Nat)), some (eLanes L rows), some (.int time), some (.ref L), some (.int (j : Nat)), some (eLane (rows j)), some (.int c0), none, d, e] T Q := by
      rintro c0 rfl Q hQ
      exact inner_w h hr hjL hf hT hQ
    by_cases ht : time % 2 = 1
    · have e1 : (j : Int) + 1 = toI time j := by simp [toI, ht]
      simp [-aft_nx]
      rw [aft_nx]
      simp [-aft_nx, ht]
      rw [aft_nx]
      refine fin _ e1 _ fun T' d e hT' => ?_
      simp [eLanes]
      exact hT'
    · have e1 : (j : Int) - 1 = toI time j := by simp [toI, ht]
      simp [-aft_nx]
      rw [aft_nx]
      simp [-aft_nx, ht]
      rw [aft_nx]
      refine fin _ e1 _ fun T' d e hT' => ?_
      simp [eLanes]
      exact hT'
  · rintro ρ T ⟨hT, a, b, c, d, e, rfl⟩
    refine ⟨rfl, ?_⟩
    have hT2 : Lan [] T L (newT rd time L rows) := by unfold newT; simpa using hT
    have top := hT2.top
    simp at top
    simp [top]
    have e0 : (List.range L).map (fun l => D.ref l) = (List.range L).map fun l => .ref (([] : Store).length + l) := by simp
    rw [e0]
    refine close_w h hT2 (by simp) (by rw [← e0]; exact okOf_ref.mpr top) rfl ?_
    simp [lim]
    exact ⟨by omega, q⟩
end C
set_option Elab.async false
set_option linter.all false
set_option maxRecDepth 100000
namespace C
open PySem L2 Z
theorem asc_len : ∀ {l : List Row} {b : Int} {k : Nat}, l.Pairwise (fun a b => a.1 < b.1) → (∀ a ∈ l, b ≤ a.1 ∧ a.1 < b + k) → l.length ≤ k
  | [], _, _, _, _ => by simp
  | a :: l, b, 0, _, h => by have := h a List.mem_cons_self; omega
  | a :: l, b, k + 1, p, h => by
    obtain ⟨p1, p2⟩ := List.pairwise_cons.mp p
    have ha := h a List.mem_cons_self
    have := asc_len (l := l) (b := b + 1) (k := k) p2 fun c hc => by
      have := p1 c hc
      have := h c (List.mem_cons_of_mem _ hc)
      omega
    simp
    omega
theorem Sound.lanes {n : Net} (hn : n.ok) {cs : List Car} (hc : CarsOk n cs) {s : St} (hs : Sound n cs s) {r : Nat} (hr : r < n.roads.length) : LanesOk n cs r (lns n r) (s.rows r) := by
  have hrd : n.roads[r]? = some n.roads[r] := by simp [hr]
  have hL := lns_ok hn hrd
  obtain ⟨q1, q2, q3, q4, _⟩ := hn.road n.roads[r] (List.getElem_mem hr)
  refine ⟨hn, hc, by omega, fun l a ha => (hs.part.row r l a ha).1, fun l => ?_⟩
  refine asc_len (b := 0) (hs.asc r l) fun a ha => ?_
  obtain ⟨⟨c0, rd, h1, c1⟩, _⟩ := (hs.part.row r l a ha).1
  rw [hrd] at h1
  cases h1
  omega
/-- the rows behind the changes of lane -/
def chg (n : Net) (s : St) (r l : Nat) : List Row := match n.roads[r]? with
  | some rd => srtR (newT rd s.time (lns n r) (s.rows r) l)
  | none => []
theorem changed_w {n : Net} (hn : n.ok) {cs : List Car} (hc : CarsOk n cs) {s : St} (hs : Sound n cs s) {S : Store} {Q : D → Store → Prop} (q : Q (eRows n.roads.length (lns n) (chg n s)) S) : wp (callF 0 f_changed [eNet n, eCars cs, eSt n s]) S Q := by
  have hf := hn.few
  refine wp_call0 (by simp [nrs]) ?_
  unfold f_changed b_changed
  simp [startD_eq, eSt, eRows]
  rw [enum_range n.roads.length fun r => .tup ((List.range (lns n r)).map fun l => .tup ((s.rows r l).map eRow))]
  refine lcL_all _ (fun r => .tup ((List.range (lns n r)).map fun l => .tup ((chg n s r l).map eRow))) _ rfl (fun r hr => ?_) ?_
  · simp at hr
    have hrd : n.roads[r]? = some n.roads[r] := by simp [hr]
    simp
    refine changed_road_w (hs.lanes hn hc hr) hrd ?_
    simp [eLanes, eLane, chg, hrd]
  · simp [lim]
    exact ⟨by omega, q⟩
end C
set_option Elab.async false
set_option linter.all false
set_option maxRecDepth 100000
namespace C
open PySem L2 Z
def eRoadRows (L : Nat) (rows : Nat → List Row) : D := .tup ((List.range L).map fun l => .tup ((rows l).map eRow))
theorem eRows_show {n : Net} (hn : n.ok) {cs : List Car} (hc : CarsOk n cs) {s : St} (hs : Sound n cs s) : showD (eRows n.roads.length (lns n) (chg n s)) = true := by
  have hf := hn.few
  have hrow : ∀ r l a, a ∈ chg n s r l → r < n.roads.length → Sm 1 4 (eRow a) := fun r l a ha hr => by
    have hrd : n.roads[r]? = some n.roads[r] := by simp [hr]
    have hlo := hs.lanes hn hc hr
    simp only [chg, hrd] at ha
    have := (new_ok hlo n.roads[r] s.time l).2 a ((srtR_perm _).mem_iff.mp ha)
    have hb := (okT_bd (row_okT hn hc this)).2
    refine Sm.tup (k := 0) (w := 0) (m := 4) (xs := (toL a).map .int) (fun x hx => ?_) (by simp [toL])
    obtain ⟨i, hi, rfl⟩ := List.mem_map.mp hx
    obtain ⟨b0, b1⟩ := hb i hi
    exact Sm.int (by omega)
  have hlane : ∀ r l, r < n.roads.length → Sm 2 320 (.tup ((chg n s r l).map eRow)) := fun r l hr => by
    have hrd : n.roads[r]? = some n.roads[r] := by simp [hr]
    have hlo := hs.lanes hn hc hr
    have hl : (chg n s r l).length ≤ 64 := by
      simp only [chg, hrd]
      rw [(srtR_perm _).length_eq]
      exact Nat.le_of_lt (new_ok hlo n.roads[r] s.time l).1
    refine Sm.tup (k := 1) (w := 4) (m := 64) (fun x hx => ?_) (by simpa using hl)
    obtain ⟨a, ha, rfl⟩ := List.mem_map.mp hx
    exact hrow r l a ha hr
  have hroad : ∀ r, r < n.roads.length → Sm 3 963 (.tup ((List.range (lns n r)).map fun l => .tup ((chg n s r l).map eRow))) := fun r hr => by
    have hlo := hs.lanes hn hc hr
    refine Sm.tup (k := 2) (w := 320) (m := 3) (fun x hx => ?_) (by simpa using hlo.few)
    obtain ⟨l, _, rfl⟩ := List.mem_map.mp hx
    exact hlane r l hr
  have hall : Sm 4 11568 (eRows n.roads.length (lns n) (chg n s)) := by
    refine Sm.tup (k := 3) (w := 963) (m := 12) (fun x hx => ?_) (by simpa using hf)
    obtain ⟨r, hr, rfl⟩ := List.mem_map.mp hx
    exact hroad r (by simpa using hr)
  exact hall.show rfl (by omega) (by omega)
end C
set_option Elab.async false
set_option linter.all false
set_option maxRecDepth 100000
namespace Z
open PySem L2
@[simp] theorem wp_mLc2 {vs vs1 : List Nat} {g g1 : Tg} {it it1 : MI} {t t1 : MT} {e : ME} {ρ : Env} {S : Store} {Q} : wp (mLc2 vs vs1 g it t g1 it1 t1 e ρ) S Q ↔ wp (it ρ) S fun p S1 => wp (mLcLL vs g p.2 t (mIn vs1 g1 it1 t1 e) ρ p.1) S1 fun ys S2 => ys.length ≤ lim ∧ Q ys S2 := by
  constructor
  · rintro ⟨o, S', h, q⟩
    unfold mLc2 at h
    split at h
    · rename_i xs ok S1 h1
      split at h
      · rename_i ys S2 h2
        split at h
        · rename_i hz; cases h; exact ⟨_, _, h1, _, _, h2, hz, q⟩
        · cases h
      · cases h
    · cases h
  · rintro ⟨⟨xs, ok⟩, S1, h1, ys, S2, h2, hz, q⟩
    exact ⟨ys, S2, by simp only [mLc2, h1]; simp only at h2; rw [h2]; simp [hz], q⟩
@[simp] theorem wp_mIn {vs1 : List Nat} {g1 : Tg} {it1 : MI} {t1 : MT} {e : ME} {ρ : Env} {S : Store} {Q} : wp (mIn vs1 g1 it1 t1 e ρ) S Q ↔ wp (it1 ρ) S fun p S1 => wp (mLcL vs1 g1 p.2 t1 e ρ p.1) S1 Q := by
  constructor
  · rintro ⟨o, S', h, q⟩
    unfold mIn at h
    split at h
    · rename_i xs ok S1 h1; exact ⟨_, _, h1, o, S', h, q⟩
    · cases h
  · rintro ⟨⟨xs, ok⟩, S1, h1, o, S', h2, q⟩
    exact ⟨o, S', by simp only [mIn, h1]; exact h2, q⟩
/-- an outer for that changes nothing -/
theorem lcLL_all {α : Type} {vs : List Nat} {g : Tg} {ok : Store → Bool} {body : Env → M (List D)} {ρ : Env} {Q : List D → Store → Prop} {S : Store} (c : α → D) (f : α → List D) (as : List α) (ho : ok S = true)
    (h : ∀ a ∈ as, ∃ ρ', g.put (c a) (wipeD ρ vs) = some ρ' ∧ (wp (body ρ') S fun d S' => d = f a ∧ S' = S)) (q : Q (as.flatMap f) S) : wp (mLcLL vs g ok mTrue body ρ (as.map c)) S Q := by
  refine ⟨_, _, ?_, q⟩
  clear q
  induction as with
  | nil => simp [mLcLL, ho]
  | cons a as ih =>
    obtain ⟨ρ', hp, hb⟩ := h a List.mem_cons_self
    have ih := ih fun b hb => h b (List.mem_cons_of_mem _ hb)
    rw [List.map_cons]
    unfold mLcLL
    have ht : mTrue ρ' S = some (true, S) := rfl
    simp only [ho, if_true, hp, ht, wp_get hb, ih, List.flatMap_cons]
theorem atI_last {α : Type} {xs : List α} {z : α} : atI (xs ++ [z]) (-1) = some z := by
  unfold atI ixN
  rw [if_neg (by omega), if_pos (by simp; omega)]
  have : (-1 + ((xs ++ [z]).length : Int)).toNat = xs.length := by simp; omega
  simp only [Option.bind_some, this]
  simp
end Z
namespace C
open PySem L2 Z
/-! ### fronts -/
def frontT (rd : Road) (rows : List Row) : Option Row := match rows.getLast? with
  | none => none
  | some a => if wantT rd a ≤ rd.2.1 - 1 - a.1 then none else some a
theorem front_w {n : Net} {r : Nat} {rd : Road} (hr : n.roads[r]? = some rd) {rows : List Row} {S : Store} {Q : D → Store → Prop} (q : Q (eOpt (frontT rd rows)) S) : wp (callF 0 f_front [eNet n, .int (r : Nat), eLane rows]) S Q := by
  refine wp_call0 (by simp [nrs]) ?_
  unfold f_front b_front
  unfold frontT at q
  rcases List.eq_nil_or_concat rows with rfl | ⟨bt, a, rfl⟩
  · simp [startD_eq, eLane]
    simpa [eOpt] using q
  · have e1 : ∀ z : D, atI (List.map eRow bt ++ [z]) (-1) = some z := fun z => atI_last
    simp at q
    simp [-aft_nx, startD_eq, eLane, e1]
    rw [aft_nx]
    simp [-aft_nx, e1]
    refine want_w (.inl rfl) hr ?_
    by_cases c : wantT rd a ≤ rd.2.1 - 1 - a.1
    · rw [if_pos c] at q
      simp [eNet, Z.atI_nat, hr, eRoad, eRow_eq, c]
      simpa [eOpt] using q
    · rw [if_neg c] at q
      simp [eNet, Z.atI_nat, hr, eRoad, eRow_eq, c, e1]
      simpa [eOpt, eRow_eq] using q
/-- what the law finds on a road -/
def frontsT (rd : Road) (rows : Nat → List Row) (L : Nat) : List (Nat × Row) := (List.range L).filterMap fun l => (frontT rd (rows l)).map fun a => (l, a)
def eFr (p : Nat × Row) : D := .tup [.int (p.1 : Nat), eRow p.2]
theorem fronts_succ (rd : Road) (rows : Nat → List Row) (l : Nat) : frontsT rd rows (l + 1) = frontsT rd rows l ++ ((frontT rd (rows l)).map fun a => (l, a)).toList := by
  simp [frontsT, List.range_succ, List.filterMap_append]
  cases h : frontT rd (rows l) <;> simp [h]
theorem fronts_len (rd : Road) (rows : Nat → List Row) (L : Nat) : (frontsT rd rows L).length ≤ L := by
  have := List.length_filterMap_le (fun l => (frontT rd (rows l)).map fun a => (l, a)) (List.range L)
  simpa [frontsT] using this
end C
set_option Elab.async false
set_option linter.all false
set_option maxRecDepth 100000
namespace C
open PySem L2 Z
theorem zip_range {α : Type} (as : List α) (d : α) : as.zipIdx = (List.range as.length).map fun i => (as[i]?.getD d, i) := by
  apply List.ext_getElem
  · simp
  · intro i h1 h2
    simp at h1 h2 ⊢
    simp [h1]
theorem closing_zip (rs : List Road) (k : Int) : closing rs k = ((rs.zipIdx).filter fun p => p.1.2.2.2 == k).map fun p => ((p.2 : Nat) : Int) := by
  rw [zip_range rs (0, 0, 0, 0), List.filter_map, List.map_map]
  unfold closing
  congr 1
  apply List.filter_congr
  intro i hi
  simp at hi
  simp [hi]
theorem closing_mem {rs : List Road} {k x : Int} (h : x ∈ closing rs k) : 0 ≤ x ∧ x < rs.length := by
  unfold closing at h
  obtain ⟨i, hi, rfl⟩ := List.mem_map.mp h
  have := (List.mem_filter.mp hi).1
  simp at this
  omega
theorem road_ends_w {rs : List Road} {k : Int} {S : Store} {Q : D → Store → Prop} (hl : rs.length ≤ 1000) (q : Q (.lst ((closing rs k).map .int)) S) : wp (callF 0 f_road_ends [.tup (rs.map eRoad), .int k]) S Q := by
  refine wp_call0 (by simp [nrs]) ?_
  unfold f_road_ends b_road_ends
  simp [startD_eq]
  rw [enum_map]
  refine lcL_pure _ (fun p : Road × Nat => p.1.2.2.2 == k) (fun p => .int (p.2 : Nat)) _ rfl ?_ ?_
  · intro p hp
    simp [eRoad]
    omega
  · have e : (rs.zipIdx.filter fun p => p.1.2.2.2 == k).map (fun p => D.int (p.2 : Nat)) = (closing rs k).map .int := by rw [closing_zip]; simp
    rw [e]
    have := closing_len rs k
    refine ⟨by simp [lim]; omega, ?_⟩
    simp
    exact q
theorem ends_w {n : Net} (hn : n.ok) {S : Store} {Q : D → Store → Prop} (q : Q (.lst ((List.range n.cross.length).map fun i => .lst ((closing n.roads (i : Nat)).map .int))) S) : wp (callF 0 f_ends [eNet n]) S Q := by
  have h1 := hn.few
  have h2 := hn.cfew
  refine wp_call0 (by simp [nrs]) ?_
  unfold f_ends b_ends
  simp [startD_eq, eNet, okR]
  refine ⟨by omega, ?_⟩
  rw [rngD0]
  refine lcL_all _ (fun i : Nat => .lst ((closing n.roads (i : Nat)).map .int)) _ rfl (fun i hi => ?_) ?_
  · simp
    exact road_ends_w (by omega) ⟨rfl, rfl⟩
  · simp [lim]
    exact ⟨by omega, q⟩
def orderT (n : Net) (c : Nat) : List Int := match n.cross[c]? with
  | some (.ord xs, _) => xs
  | some (.lig _, _) => closing n.roads c
  | none => []
theorem sok1 : PyData.strOk (PySem.Str.ofString "order") = true := by decide +kernel
theorem sok2 : PyData.strOk (PySem.Str.ofString "lights") = true := by decide +kernel
theorem sne : (PySem.Str.ofString "lights" == PySem.Str.ofString "order") = false := by decide +kernel
theorem order_perm {n : Net} (hn : n.ok) {c : Nat} (hc : c < n.cross.length) : (orderT n c).Perm (closing n.roads c) := by
  have h : n.cross[c]? = some n.cross[c] := by simp [hc]
  have := hn.rule c _ h
  unfold orderT
  rw [h]
  generalize n.cross[c] = cr at this
  rcases cr with ⟨r, o⟩
  cases r with
  | ord xs => exact this
  | lig ps => exact .refl _
theorem road_order_w {n : Net} (hn : n.ok) {c : Nat} (hc : c < n.cross.length) {S : Store} {Q : D → Store → Prop} (q : Q (.lst ((orderT n c).map .int)) S) : wp (callF 0 f_road_order [eNet n, .int (c : Nat)]) S Q := by
  refine wp_call0 (by simp [nrs]) ?_
  have h : n.cross[c]? = some n.cross[c] := by simp [hc]
  unfold orderT at q
  rw [h] at q
  unfold f_road_order b_road_order
  generalize n.cross[c] = cr at q h
  rcases cr with ⟨r, o⟩
  cases r with
  | ord xs =>
    simp [startD_eq, eNet, Z.atI_nat, h, eCr, eRule, wp_dEqS sok1 sok1, eIs]
    exact q
  | lig ps =>
    have e1 : ∀ S : Store, asSq S (eNet n) = some [.tup (n.roads.map eRoad), .tup (n.cross.map eCr)] := fun S => by simp [eNet]
    simp [-aft_nx, startD_eq, e1, Z.atI_nat, h, eCr, eRule, eIs]
    rw [aft_nx]
    simp [-aft_nx, wp_dEqS sok2 sok1, sne]
    rw [aft_nx]
    simp [-aft_nx]
    refine ends_w hn ?_
    simp [Z.atI_nat, hc]
    exact q
end C
set_option Elab.async false
set_option linter.all false
set_option maxRecDepth 100000
namespace C
open PySem L2 Z
/-- rows that a sound state may have behind the changes of lane -/
structure RowsOk (n : Net) (cs : List Car) (rows : Nat → Nat → List Row) : Prop where
  net : n.ok
  cars : CarsOk n cs
  row : ∀ r, r < n.roads.length → ∀ l a, a ∈ rows r l → RowOk n cs r a
def minT (i j : Int) : Int := if j < i then j else i
def itemT (n : Net) (cs : List Car) (r : Nat) (p : Nat × Row) : Option (List Int) :=
  match ((cs[p.2.2.1.toNat]?).map fun c : Car => c.2).getD [] with
  | way => match way[(p.2.2.2.2 + 1).toNat]? with
    | some to => some [p.2.2.1, (r : Int), (p.1 : Int), to, minT p.1 (((n.roads[to.toNat]?).map fun rd : Road => rd.1).getD 0 - 1)]
    | none => none
def askR (n : Net) (cs : List Car) (rows : Nat → Nat → List Row) (r : Int) (L : Nat) : List (List Int) := match n.roads[r.toNat]? with
  | some rd => (frontsT rd (rows r.toNat) L).filterMap (itemT n cs r.toNat)
  | none => []
def askC (n : Net) (cs : List Car) (rows : Nat → Nat → List Row) (rs : List Int) : List (List Int) := rs.flatMap fun r => askR n cs rows r (lns n r.toNat)
theorem askR_len (n : Net) (cs : List Car) (rows : Nat → Nat → List Row) (r : Int) (L : Nat) : (askR n cs rows r L).length ≤ L := by
  unfold askR
  split
  · rename_i rd _
    exact Nat.le_trans (List.length_filterMap_le _ _) (fronts_len rd (rows r.toNat) L)
  · simp
theorem askC_len {n : Net} (cs : List Car) (rows : Nat → Nat → List Row) (hL : ∀ r, lns n r ≤ 3) : ∀ rs : List Int, (askC n cs rows rs).length ≤ 3 * rs.length
  | [] => by simp [askC]
  | r :: rs => by
    have h1 := askR_len n cs rows r (lns n r.toNat)
    have h2 := hL r.toNat
    have h3 := askC_len cs rows hL rs
    simp only [askC, List.flatMap_cons, List.length_append, List.length_cons] at h3 ⊢
    omega
theorem askR_succ {n : Net} {cs : List Car} {rows : Nat → Nat → List Row} {r : Nat} {rd : Road} (hr : n.roads[r]? = some rd) (l : Nat) : askR n cs rows (r : Int) (l + 1) = askR n cs rows (r : Int) l ++ (((frontT rd (rows r l)).map fun a => (l, a)).bind (itemT n cs r)).toList := by
  simp only [askR, Int.toNat_natCast, hr, fronts_succ, List.filterMap_append]
  congr 1
  cases frontT rd (rows r l) with
  | none => simp
  | some a => cases h : itemT n cs r (l, a) <;> simp [h]
theorem lns_le {n : Net} (hn : n.ok) (r : Nat) : lns n r ≤ 3 := by
  cases h : n.roads[r]? with
  | none => simp [lns, h]
  | some rd =>
    have := lns_ok hn h
    obtain ⟨_, q, _⟩ := hn.road rd (List.mem_of_getElem? h)
    omega
theorem front_mem {rd : Road} {rows : List Row} {a : Row} (h : frontT rd rows = some a) : a ∈ rows := by
  unfold frontT at h
  split at h
  · cases h
  · rename_i b hb
    split at h
    · cases h
    · cases h; exact List.mem_of_getLast? hb
/-- one car that stands in front: what is looked up of it -/
structure Seen (n : Net) (cs : List Car) (a : Row) (way : List Int) : Prop where
  car : 0 ≤ a.2.1
  leg : 0 ≤ a.2.2.2
  has : ∃ c, cs[a.2.1.toNat]? = some c ∧ c.2 = way
  road : ∀ x ∈ way, 0 ≤ x ∧ x < n.roads.length
theorem seen_of {n : Net} {cs : List Car} {rows : Nat → Nat → List Row} (h : RowsOk n cs rows) {r : Nat} (hr : r < n.roads.length) {l : Nat} {a : Row} (ha : a ∈ rows r l) : ∃ way, Seen n cs a way := by
  obtain ⟨_, _, k0, l0, c, hc1, hc2⟩ := h.row r hr l a ha
  exact ⟨c.2, k0, l0, ⟨c, hc1, rfl⟩, (h.cars.car c (List.mem_of_getElem? hc1)).2.2.road⟩
theorem asking_at_w {n : Net} {cs : List Car} {rows : Nat → Nat → List Row} (h : RowsOk n cs rows) {c : Nat} (hc : c < n.cross.length) {S : Store} {Q : D → Store → Prop} (q : Q (.lst ((askC n cs rows (orderT n c)).map tupI)) S) :
    wp (callF 0 f_asking_at [eNet n, eCars cs, eRows n.roads.length (lns n) rows, .int (c : Nat)]) S Q := by
  have hn := h.net
  have hf := hn.few
  have hol : (orderT n c).length ≤ 12 := by
    have := closing_len n.roads c
    rw [(order_perm hn hc).length_eq]
    omega
  have hom : ∀ x ∈ orderT n c, 0 ≤ x ∧ x < n.roads.length := fun x hx => closing_mem ((order_perm hn hc).mem_iff.mp hx)
  refine wp_call0 (by simp [nrs]) ?_
  unfold f_asking_at b_asking_at
  simp [-aft_nx, startD_eq]
  rw [aft_nx]
  simp [-aft_nx]
  refine road_order_w hn hc ?_
  simp [-aft_nx]
  refine forL_map (fun i ρ T => T = [.lst ((askC n cs rows ((orderT n c).take i)).map tupI)] ∧ ∃ a b d e f, ρ = [some (eNet n), some (eCars cs), some (eRows n.roads.length (lns n) rows), some (.int (c : Nat)), some (.ref 0), a, b, d, e, f]) _ _ ⟨rfl, _, _, _, _, _, rfl⟩ ?_ ?_
  · rintro i x ρ T hx ⟨rfl, a, b, d, e, f, rfl⟩
    obtain ⟨x0, x1⟩ := hom x (List.mem_of_getElem? hx)
    obtain ⟨r, rfl⟩ := Int.eq_ofNat_of_zero_le x0
    have hr : r < n.roads.length := by omega
    have hrd : n.roads[r]? = some n.roads[r] := by simp [hr]
    generalize n.roads[r] = rd at hrd
    have ht : (orderT n c).take (i + 1) = (orderT n c).take i ++ [(r : Int)] := by rw [List.take_add_one, hx]; rfl
    have hstep : askC n cs rows ((orderT n c).take (i + 1)) = askC n cs rows ((orderT n c).take i) ++ askR n cs rows (r : Int) (lns n r) := by rw [ht]; simp [askC]
    have hpl : (askC n cs rows ((orderT n c).take i)).length ≤ 36 := by
      have := askC_len cs rows (lns_le hn) ((orderT n c).take i)
      have h2 : ((orderT n c).take i).length ≤ (orderT n c).length := by rw [List.length_take]; omega
      omega
    rw [hstep]
    generalize askC n cs rows ((orderT n c).take i) = pre at hpl
    simp [-aft_nx, eRows, Z.atI_nat, hr]
    rw [enum_range]
    have hL3 := lns_le hn r
    refine forL_map (fun l ρ T => T = [.lst ((pre ++ askR n cs rows (r : Int) l).map tupI)] ∧ ∃ b d e f, ρ = [some (eNet n), some (eCars cs), some (eRows n.roads.length (lns n) rows), some (.int (c : Nat)), some (.ref 0), some (.int (r : Nat)), b, d, e, f]) _ _ ⟨by simp [askR, hrd, frontsT], _, _, _, _, rfl⟩ ?_ ?_
    · rintro l l' ρ T hl ⟨rfl, b, d, e, f, rfl⟩
      have hlL := (List.getElem?_eq_some_iff.mp hl).1
      simp at hlL
      simp [hlL] at hl
      subst hl
      have har := askR_len n cs rows (r : Int) l
      rw [askR_succ hrd]
      have e0 : D.tup ((rows r l).map eRow) = eLane (rows r l) := rfl
      simp [-aft_nx, e0]
      refine front_w hrd ?_
      rw [aft_nx]
      cases hfr : frontT rd (rows r l) with
      | none => simp [eOpt, eRows]
      | some a =>
        obtain ⟨way, k0, l0, ⟨ca, hca, hcw⟩, hroad⟩ := seen_of h hr (front_mem hfr)
        obtain ⟨k, hk⟩ := Int.eq_ofNat_of_zero_le k0
        obtain ⟨g, hg⟩ := Int.eq_ofNat_of_zero_le l0
        rw [hk] at hca
        simp at hca
        have hit : itemT n cs r (l, a) = match way[g + 1]? with
            | some to => some [(k : Int), (r : Int), (l : Int), to, minT l (((n.roads[to.toNat]?).map fun rd : Road => rd.1).getD 0 - 1)]
            | none => none := by
          unfold itemT
          simp only [hk, hg, Int.toNat_natCast, hca, Option.map_some, Option.getD_some, hcw]
          rw [show ((g : Int) + 1).toNat = g + 1 by omega]
        by_cases hlt : g + 1 < way.length
        · have h1 : (g : Int) + 1 < way.length := by omega
          have hw : way[g + 1]? = some way[g + 1] := by simp [hlt]
          obtain ⟨t0, t1⟩ := hroad way[g + 1] (List.getElem_mem hlt)
          obtain ⟨to, hto⟩ := Int.eq_ofNat_of_zero_le t0
          rw [hto] at hw t1
          have hto2 : to < n.roads.length := by omega
          rw [hw] at hit
          simp only at hit
          simp [-aft_nx, eOpt, eRow_eq, hk, hg, eCars, Z.atI_nat, hca, eCar, eIs, hcw, h1]
          refine ⟨.int (to : Nat), by rw [atI_s]; simp [hw], ?_⟩
          rw [aft_nx]
          have hrt : n.roads[to]? = some n.roads[to] := by simp [hto2]
          have hap : (askR n cs rows (r : Int) l).length ≤ 3 := by omega
          have e7 : asSq [MO.lst (List.map tupI pre ++ List.map tupI (askR n cs rows (r : Int) l))] (eNet n) = some [.tup (n.roads.map eRoad), .tup (n.cross.map eCr)] := by simp [eNet]
          generalize n.roads[to] = rt at hrt
          simp [e7, Z.atI_nat, hrt, eRoad]
          refine ⟨by simp [lim]; omega, ?_⟩
          rw [hit]
          simp [tupI, minT, hrt, eRows]
        · have h1 : ¬ (g : Int) + 1 < way.length := by omega
          have hw : way[g + 1]? = none := List.getElem?_eq_none (by omega)
          rw [hw] at hit
          simp only at hit
          simp [eOpt, eRow_eq, hk, hg, eCars, Z.atI_nat, hca, eCar, eIs, hcw, h1, hit, eRows]
    · rintro ρ T ⟨rfl, b, d, e, f, rfl⟩
      simp [eRows]
  · rintro ρ T ⟨rfl, a, b, d, e, f, rfl⟩
    simp
    refine clo_ref (xs := (askC n cs rows (orderT n c)).map tupI) (by simp) (by omega) (by simp [tupI]) (by simp) ⟨rfl, q⟩
end C
set_option Elab.async false
set_option linter.all false
set_option maxRecDepth 100000
namespace C
open PySem L2 Z
theorem fronts_mem {rd : Road} {rows : Nat → List Row} {L : Nat} {p : Nat × Row} (h : p ∈ frontsT rd rows L) : p.1 < L ∧ p.2 ∈ rows p.1 := by
  unfold frontsT at h
  obtain ⟨l, hl, e⟩ := List.mem_filterMap.mp h
  simp at hl
  cases hf : frontT rd (rows l) with
  | none => rw [hf] at e; cases e
  | some a => rw [hf] at e; cases e; exact ⟨hl, front_mem hf⟩
end C
set_option Elab.async false
set_option linter.all false
set_option maxRecDepth 100000
/-! The plain law of letting through. -/
namespace C
open PySem L2 Z
abbrev It := List Int
def carO : It → Int | c :: _ => c | _ => 0
def roadO : It → Int | _ :: r :: _ => r | _ => 0
def laneO : It → Int | _ :: _ :: l :: _ => l | _ => 0
def toO : It → Int | _ :: _ :: _ :: t :: _ => t | _ => 0
def intoO : It → Int | _ :: _ :: _ :: _ :: i :: _ => i | _ => 0
/-- five numbers, the roads and lanes in the net -/
structure ItOk (n : Net) (cs : List Car) (rows : Nat → Nat → List Row) (it : It) : Prop where
  ex : ∃ (k r l t i : Nat), it = [(k : Int), (r : Int), (l : Int), (t : Int), (i : Int)] ∧ k < cs.length ∧ r < n.roads.length ∧ l < lns n r ∧ t < n.roads.length ∧ i < lns n t ∧
    ∃ rd a c, n.roads[r]? = some rd ∧ frontT rd (rows r l) = some a ∧ a.2.1 = (k : Int) ∧ cs[k]? = some c ∧ 0 ≤ a.2.2.2 ∧ c.2[(a.2.2.2 + 1).toNat]? = some (t : Int)
theorem itemT_ok {n : Net} {cs : List Car} {rows : Nat → Nat → List Row} (h : RowsOk n cs rows) {r : Nat} {rd : Road} (hr : n.roads[r]? = some rd) {l : Nat} (hl : l < lns n r) {a : Row} (ha : frontT rd (rows r l) = some a) {it : It} (e : itemT n cs r (l, a) = some it) : ItOk n cs rows it := by
  have hn := h.net
  have hrl := (List.getElem?_eq_some_iff.mp hr).1
  obtain ⟨way, k0, l0, ⟨ca, hca, hcw⟩, hroad⟩ := seen_of h hrl (front_mem ha)
  obtain ⟨k, hk⟩ := Int.eq_ofNat_of_zero_le k0
  unfold itemT at e
  rw [hk] at hca
  simp at hca
  simp only [hk, Int.toNat_natCast, hca, Option.map_some, Option.getD_some, hcw] at e
  cases hw : way[(a.2.2.2 + 1).toNat]? with
  | none => rw [hw] at e; cases e
  | some to =>
    rw [hw] at e
    cases e
    obtain ⟨t0, t1⟩ := hroad to (List.mem_of_getElem? hw)
    obtain ⟨t, rfl⟩ := Int.eq_ofNat_of_zero_le t0
    have ht : t < n.roads.length := by omega
    have hrt : n.roads[t]? = some n.roads[t] := by simp [ht]
    have hlt := lns_ok hn hrt
    obtain ⟨q1, q2, _⟩ := hn.road _ (List.getElem_mem ht)
    refine ⟨k, r, l, t, (minT l (n.roads[t].1 - 1)).toNat, ?_, (List.getElem?_eq_some_iff.mp hca).1, hrl, hl, ht, ?_, rd, a, ca, hr, ha, hk, hca, l0, by rw [hcw]; exact hw⟩
    · simp only [Int.toNat_natCast, hrt, Option.map_some, Option.getD_some]
      have : 0 ≤ minT l (n.roads[t].1 - 1) := by unfold minT; split <;> omega
      rw [Int.toNat_of_nonneg this]
    · have : minT l (n.roads[t].1 - 1) ≤ n.roads[t].1 - 1 := by unfold minT; split <;> omega
      have : 0 ≤ minT l (n.roads[t].1 - 1) := by unfold minT; split <;> omega
      omega
theorem askC_ok {n : Net} {cs : List Car} {rows : Nat → Nat → List Row} (h : RowsOk n cs rows) {rs : List Int} (hrs : ∀ x ∈ rs, 0 ≤ x ∧ x < n.roads.length) : ∀ it ∈ askC n cs rows rs, ItOk n cs rows it := by
  intro it hit
  obtain ⟨r, hr, hx⟩ := List.mem_flatMap.mp hit
  obtain ⟨r0, r1⟩ := hrs r hr
  obtain ⟨r, rfl⟩ := Int.eq_ofNat_of_zero_le r0
  have hrl : r < n.roads.length := by omega
  have hrd : n.roads[r]? = some n.roads[r] := by simp [hrl]
  unfold askR at hx
  simp only [Int.toNat_natCast, hrd] at hx
  obtain ⟨⟨l, a⟩, hp, e⟩ := List.mem_filterMap.mp hx
  unfold frontsT at hp
  obtain ⟨l', hl', e'⟩ := List.mem_filterMap.mp hp
  cases hf : frontT n.roads[r] (rows r l') with
  | none => rw [hf] at e'; cases e'
  | some a' =>
    rw [hf] at e'
    cases e'
    simp at hl'
    exact itemT_ok h hrd hl' hf e
theorem order_mem {n : Net} (hn : n.ok) {c : Nat} (hc : c < n.cross.length) : ∀ x ∈ orderT n c, 0 ≤ x ∧ x < n.roads.length := fun x hx => closing_mem ((order_perm hn hc).mem_iff.mp hx)
theorem ask_road {n : Net} {cs : List Car} {rows : Nat → Nat → List Row} {r : Int} (h0 : 0 ≤ r) {L : Nat} : ∀ it ∈ askR n cs rows r L, roadO it = r := by
  intro it hx
  unfold askR at hx
  split at hx
  · obtain ⟨p, _, e⟩ := List.mem_filterMap.mp hx
    unfold itemT at e
    simp only at e
    split at e
    · cases e; simp [roadO]; omega
    · cases e
  · cases hx
/-- the first car of a lane that stands in its first cell -/
def fullT (rows : Nat → Nat → List Row) (it : It) : Option Int := match rows (toO it).toNat (intoO it).toNat with
  | [] => none
  | a :: _ => if a.1 = 0 then some a.2.1 else none
inductive Why where
  | light (i : Int)
  | full (i : Int)
  | right (i : Int)
  | lane (i : Int)
def Why.txt : Why → Str
  | .light _ => PySem.Str.ofString "light"
  | .full _ => PySem.Str.ofString "full"
  | .right _ => PySem.Str.ofString "right"
  | .lane _ => PySem.Str.ofString "lane"
def Why.num : Why → Int
  | .light i => i
  | .full i => i
  | .right i => i
  | .lane i => i
def eWhy (w : Why) : D := .tup [.str w.txt, .int w.num]
def eWhyO : Option Why → D
  | none => .non
  | some w => eWhy w
def rightP (xs : List Int) (A : List It) (fl : It → Option Int) (it : It) : Option Int := (A.find? fun o => decide (xs.idxOf (roadO o) < xs.idxOf (roadO it)) && (toO o == toO it) && (fl o).isNone).map carO
def rightL (A : List It) (fl : It → Option Int) (it : It) : Option Int := (A.find? fun o => (roadO o != roadO it) && (toO o == toO it) && (fl o).isNone).map carO
def rightT (n : Net) (c : Nat) (A : List It) (fl : It → Option Int) (it : It) : Option Int := match n.cross[c]? with
  | some (.ord xs, _) => rightP xs A fl it
  | _ => none
def ownT (own : List It) (it : It) : Option Int := (own.find? fun o => (toO o == toO it) && (intoO o == intoO it)).map carO
def causeT (n : Net) (c : Nat) (A : List It) (G : List Int) (fl : It → Option Int) (own : List It) (it : It) : Option Why :=
  if roadO it ∈ G then match fl it with
    | some f => some (.full f)
    | none => match rightT n c A fl it with
      | some o => some (.right o)
      | none => (ownT own it).map .lane
  else some (.light c)
theorem find_take {α : Type} {p q : α → Bool} {A : List α} {i : Nat} (h1 : ∀ j a, A[j]? = some a → j < i → p a = q a) (h2 : ∀ j a, A[j]? = some a → i ≤ j → p a = false) : A.find? p = (A.take i).find? q := by
  induction A generalizing i with
  | nil => simp
  | cons a A ih =>
    cases i with
    | zero =>
      simp only [List.take_zero, List.find?_nil]
      refine List.find?_eq_none.mpr fun x hx => ?_
      obtain ⟨j, hj⟩ := List.getElem?_of_mem hx
      simp [h2 j x hj (Nat.zero_le _)]
    | succ i =>
      have e := h1 0 a rfl (Nat.succ_pos _)
      have ih2 := ih (i := i) (fun j b hj hi => h1 (j + 1) b (by simpa using hj) (by omega)) (fun j b hj hi => h2 (j + 1) b (by simpa using hj) (by omega))
      simp only [List.take_succ_cons, List.find?_cons, e, ih2]
theorem nodup_closing (rs : List Road) (k : Int) : (closing rs k).Nodup := by
  unfold closing
  refine List.pairwise_map.mpr (List.Pairwise.imp ?_ (List.Pairwise.filter _ List.pairwise_lt_range))
  intro a b h
  omega
theorem idx_pw : ∀ {xs : List Int}, xs.Nodup → xs.Pairwise fun a b => xs.idxOf a ≤ xs.idxOf b := by
  intro xs h
  rw [List.pairwise_iff_getElem]
  intro i j hi hj hij
  rw [h.idxOf_getElem i hi, h.idxOf_getElem j hj]
  omega
theorem ask_pw {n : Net} {cs : List Car} {rows : Nat → Nat → List Row} {xs : List Int} (h0 : ∀ x ∈ xs, 0 ≤ x) (hx : xs.Nodup) : (askC n cs rows xs).Pairwise fun a b => xs.idxOf (roadO a) ≤ xs.idxOf (roadO b) := by
  unfold askC
  rw [List.pairwise_flatMap]
  refine ⟨fun r hr => ?_, ?_⟩
  · have : ∀ a ∈ askR n cs rows r (lns n r.toNat), roadO a = r := ask_road (h0 r hr)
    exact List.Pairwise.imp_of_mem (R := fun _ _ => True) (fun ha hb _ => by rw [this _ ha, this _ hb]; exact Nat.le_refl _) (List.pairwise_of_forall fun _ _ => trivial)
  · exact List.Pairwise.imp_of_mem (fun {a b} ha hb h x hx y hy => by rw [ask_road (h0 a ha) x hx, ask_road (h0 b hb) y hy]; exact h) (idx_pw hx)
theorem ask_in {n : Net} {cs : List Car} {rows : Nat → Nat → List Row} {xs : List Int} (h0 : ∀ x ∈ xs, 0 ≤ x) {it : It} (h : it ∈ askC n cs rows xs) : roadO it ∈ xs := by
  obtain ⟨r, hr, hx⟩ := List.mem_flatMap.mp h
  rw [ask_road (h0 r hr) it hx]
  exact hr
theorem idx_inj : ∀ {xs : List Int} {a b : Int}, a ∈ xs → xs.idxOf a = xs.idxOf b → a = b
  | [], _, _, h, _ => by cases h
  | x :: xs, a, b, h, e => by
    simp only [List.idxOf_cons] at e
    by_cases ca : x = a
    · by_cases cb : x = b
      · rw [← ca, ← cb]
      · have h1 : (x == a) = true := by simp [ca]
        have h2 : (x == b) = false := by simp [cb]
        simp [h1, h2] at e
    · by_cases cb : x = b
      · have h1 : (x == a) = false := by simp [ca]
        have h2 : (x == b) = true := by simp [cb]
        simp [h1, h2] at e
      · have h1 : (x == a) = false := by simp [ca]
        have h2 : (x == b) = false := by simp [cb]
        simp [h1, h2] at e
        rcases List.mem_cons.mp h with h | h
        · exact (ca h.symm).elim
        · exact idx_inj h e
theorem right_eq {n : Net} {cs : List Car} {rows : Nat → Nat → List Row} {xs : List Int} (h0 : ∀ x ∈ xs, 0 ≤ x) (hx : xs.Nodup) {fl : It → Option Int} {i : Nat} {it : It} (hi : (askC n cs rows xs)[i]? = some it) :
    rightP xs (askC n cs rows xs) fl it = rightL ((askC n cs rows xs).take i) fl it := by
  unfold rightP rightL
  have pw := ask_pw (n := n) (cs := cs) (rows := rows) h0 hx
  rw [List.pairwise_iff_getElem] at pw
  obtain ⟨hil, hie⟩ := List.getElem?_eq_some_iff.mp hi
  congr 1
  refine find_take (fun j a hj hji => ?_) (fun j a hj hij => ?_)
  · obtain ⟨hjl, hje⟩ := List.getElem?_eq_some_iff.mp hj
    have h1 := pw j i hjl hil hji
    rw [hje, hie] at h1
    have ha := ask_in h0 (List.mem_of_getElem? hj)
    have hb := ask_in h0 (List.mem_of_getElem? hi)
    congr 2
    rw [Bool.eq_iff_iff]
    simp only [decide_eq_true_eq, bne_iff_ne, ne_eq]
    constructor
    · intro h e; rw [e] at h; omega
    · intro h
      rcases Nat.lt_or_ge (xs.idxOf (roadO a)) (xs.idxOf (roadO it)) with g | g
      · exact g
      · exact (h (idx_inj ha (by omega))).elim
  · obtain ⟨hjl, hje⟩ := List.getElem?_eq_some_iff.mp hj
    have h1 : xs.idxOf (roadO it) ≤ xs.idxOf (roadO a) := by
      rcases Nat.lt_or_ge i j with g | g
      · have h1 := pw i j hil hjl g
        rw [hje, hie] at h1
        exact h1
      · have : i = j := by omega
        subst this
        rw [hi] at hj; cases hj; exact Nat.le_refl _
    have : ¬ xs.idxOf (roadO a) < xs.idxOf (roadO it) := by omega
    simp [this]
/-- let through one by one -/
def stepT (F : List It → It → Option Why) (p : List It × List (It × Why)) (it : It) : List It × List (It × Why) := match F p.1 it with
  | none => (p.1 ++ [it], p.2)
  | some w => (p.1, p.2 ++ [(it, w)])
def runT (F : List It → It → Option Why) (A : List It) : List It × List (It × Why) := A.foldl (stepT F) ([], [])
theorem runT_succ {F : List It → It → Option Why} {A : List It} {i : Nat} {it : It} (h : A[i]? = some it) : runT F (A.take (i + 1)) = stepT F (runT F (A.take i)) it := by
  unfold runT
  rw [List.take_add_one, h]
  simp
theorem runT_nil {F : List It → It → Option Why} : runT F [] = ([], []) := rfl
theorem runT_len {F : List It → It → Option Why} (A : List It) : (runT F A).1.length + (runT F A).2.length = A.length ∧ (∀ x ∈ (runT F A).1, x ∈ A) ∧ (∀ x ∈ (runT F A).2, x.1 ∈ A) := by
  suffices h : ∀ (A : List It) (p : List It × List (It × Why)), (A.foldl (stepT F) p).1.length + (A.foldl (stepT F) p).2.length = p.1.length + p.2.length + A.length ∧ (∀ x ∈ (A.foldl (stepT F) p).1, x ∈ p.1 ∨ x ∈ A) ∧ (∀ x ∈ (A.foldl (stepT F) p).2, x ∈ p.2 ∨ x.1 ∈ A) by
    obtain ⟨h1, h2, h3⟩ := h A ([], [])
    exact ⟨by simpa [runT] using h1, fun x hx => by simpa using h2 x hx, fun x hx => by simpa using h3 x hx⟩
  intro A
  induction A with
  | nil => intro p; exact ⟨by simp, fun x hx => .inl hx, fun x hx => .inl hx⟩
  | cons a A ih =>
    intro p
    obtain ⟨h1, h2, h3⟩ := ih (stepT F p a)
    simp only [List.foldl_cons]
    have hs : (stepT F p a).1.length + (stepT F p a).2.length = p.1.length + p.2.length + 1 ∧ (∀ x ∈ (stepT F p a).1, x ∈ p.1 ∨ x = a) ∧ (∀ x ∈ (stepT F p a).2, x ∈ p.2 ∨ x.1 = a) := by
      unfold stepT
      split
      · exact ⟨by simp; omega, fun x hx => by simpa using hx, fun x hx => .inl hx⟩
      · refine ⟨by simp; omega, fun x hx => .inl hx, fun x hx => ?_⟩
        rcases List.mem_append.mp hx with hx | hx
        · exact .inl hx
        · rw [List.mem_singleton] at hx; subst hx; exact .inr rfl
    obtain ⟨s1, s2, s3⟩ := hs
    refine ⟨by rw [h1]; simp only [List.length_cons]; omega, fun x hx => ?_, fun x hx => ?_⟩
    · rcases h2 x hx with h | h
      · rcases s2 x h with h | h
        · exact .inl h
        · exact .inr (h ▸ List.mem_cons_self)
      · exact .inr (List.mem_cons_of_mem _ h)
    · rcases h3 x hx with h | h
      · rcases s3 x h with h | h
        · exact .inl h
        · exact .inr (h ▸ List.mem_cons_self)
      · exact .inr (List.mem_cons_of_mem _ h)
end C
set_option Elab.async false
set_option linter.all false
set_option maxRecDepth 100000
namespace Z
open PySem L2
theorem wp_call0r {f : List D → M D} {ds es : List D} {S : Store} {Q : D → Store → Prop} (he : ds.map (rk 0 S 4) = es) (hd : nrs es = true) (h : wp (f es) [] fun d S1 => S1 = [] ∧ noL d = true ∧ Q d S) : wp (callF 0 f ds) S Q := by
  obtain ⟨d, S1, e, h1, hn, q⟩ := h
  refine ⟨d, S, ?_, q⟩
  have e2 : es.all (below 0) = true := List.all_eq_true.mpr (belows_mem (nrs_belows 0 es hd))
  unfold callF
  rw [he, if_pos (by simp [e2])]
  subst h1
  simp [e, hn]
theorem rk_ref0 {n : Nat} {S : Store} {xs : List D} (h : S[n]? = some (.lst xs)) (hx : xs.all nr = true) : rk 0 S 4 (.ref n) = .lst xs := by
  show rsF (rkG 0 S (rk 0 S 3)) (.ref n) = _
  unfold rsF rkG rsG
  rw [if_neg (by omega), h]
  simp only
  rw [rk_map hx]
end Z
namespace C
open PySem L2 Z
def eIO : Option Int → D
  | none => .non
  | some i => .int i
theorem ItOk.nr {n : Net} {cs : List Car} {rows : Nat → Nat → List Row} {it : It} (h : ItOk n cs rows it) : nr (tupI it) = true := by simp [tupI]
section
variable {n : Net} {cs : List Car} {rows : Nat → Nat → List Row} {it : It}
theorem full_w (h : ItOk n cs rows it) {S : Store} {Q : D → Store → Prop} (q : Q (eIO (fullT rows it)) S) : wp (callF 0 f_full_by [eRows n.roads.length (lns n) rows, tupI it]) S Q := by
  obtain ⟨k, r, l, t, i, rfl, hk, hr, hl, ht, hi, _⟩ := h.ex
  refine wp_call0 (by simp [nrs, tupI]) ?_
  unfold f_full_by b_full_by
  simp [-aft_nx, startD_eq, tupI, eRows, Z.atI_nat, ht, hi]
  rw [aft_nx]
  simp only [fullT, toO, intoO, Int.toNat_natCast] at q
  cases hrow : rows t i with
  | nil =>
    rw [hrow] at q
    simp
    exact q
  | cons a as =>
    rw [hrow] at q
    simp only at q
    by_cases h0 : a.1 = 0
    · rw [if_pos h0] at q
      simp [eRow_eq, h0]
      exact q
    · rw [if_neg h0] at q
      simp [eRow_eq, h0]
      exact q
end
def kvO (o : It) : List Key × D := ([.inl (toO o), .inl (intoO o)], .int (carO o))
theorem val_own {own : List It} {t i : Int} : valD (own.map kvO) [.inl t, .inl i] = ((own.find? fun o => (toO o == t) && (intoO o == i)).map carO).map .int := by
  unfold valD
  rw [List.find?_map]
  have : (own.find? ((fun kv : List Key × D => decide (kv.1 = [.inl t, .inl i])) ∘ kvO)) = own.find? fun o => (toO o == t) && (intoO o == i) := by
    congr 1
    funext o
    rw [Bool.eq_iff_iff]
    simp [kvO]
  rw [this]
  cases own.find? fun o => (toO o == t) && (intoO o == i) <;> simp [kvO]
theorem put_own {own : List It} {o : It} (h : ownT own o = none) : putD (own.map kvO) [.inl (toO o), .inl (intoO o)] (.int (carO o)) = (own ++ [o]).map kvO := by
  unfold putD
  have : (own.map kvO).any (fun kv => decide (kv.1 = [.inl (toO o), .inl (intoO o)])) = false := by
    unfold ownT at h
    rw [Option.map_eq_none_iff, List.find?_eq_none] at h
    rw [List.any_eq_false]
    intro kv hkv
    obtain ⟨x, hx, rfl⟩ := List.mem_map.mp hkv
    have := h x hx
    simpa [kvO] using this
  rw [this]
  simp [kvO]
theorem sokL : ∀ x ∈ ["light", "full", "right", "lane", "order", "lights"], PyData.strOk (PySem.Str.ofString x) = true := by decide +kernel
section
variable {n : Net} {cs : List Car} {rows : Nat → Nat → List Row}
theorem cause_w {c : Nat} {A : List It} {G : List Int} {own : List It} {it : It} (hc : c < n.cross.length) (hA : ∀ a ∈ A, ItOk n cs rows a) (hit : it ∈ A) (hin : ∀ xs o, n.cross[c]? = some (.ord xs, o) → ∀ a ∈ A, roadO a ∈ xs) {e g : Nat} {T : Store}
    (he : T[e]? = some (.dtt (own.map kvO))) (hg : T[g]? = some (.lst (G.map .int))) {Q : D → Store → Prop} (q : Q (eWhyO (causeT n c A G (fullT rows) own it)) T) :
    wp (f_cause_at [eNet n, .int (c : Nat), .lst (A.map tupI), tupI it, eRows n.roads.length (lns n) rows, .ref e, .ref g]) T Q := by
  have hio := hA it hit
  have hio2 := hio
  obtain ⟨k, r, l, t, i, hie, hk, hr, hl, ht, hi, _⟩ := hio.ex
  have hcr : n.cross[c]? = some n.cross[c] := by simp [hc]
  have eN : ∀ S : Store, asSq S (eNet n) = some [.tup (n.roads.map eRoad), .tup (n.cross.map eCr)] := fun S => by simp [eNet]
  have eI : tupI it = .tup [.int k, .int r, .int l, .int t, .int i] := by rw [hie]; rfl
  have eG : asSq T (.ref g) = some (G.map .int) := asSq_ref.mpr hg
  unfold f_cause_at b_cause_at
  have sI : ∀ S : Store, asSq S (tupI it) = some [.int k, .int r, .int l, .int t, .int i] := fun S => by rw [eI]; simp
  simp [-aft_nx, startD_eq, sI]
  unfold causeT at q
  have e1 : roadO it = (r : Int) := by rw [hie]; rfl
  have e2 : toO it = (t : Int) := by rw [hie]; rfl
  have e3 : intoO it = (i : Int) := by rw [hie]; rfl
  rw [e1] at q
  refine wp_dInS eG ?_
  by_cases hG : (r : Int) ∈ G
  · rw [if_pos hG] at q
    simp [-aft_nx, hG]
    rw [aft_nx]
    simp [-aft_nx]
    refine full_w hio2 ?_
    rw [aft_nx]
    cases hf : fullT rows it with
    | some f =>
      rw [hf] at q
      simp [-aft_nx, eIO]
      exact q
    | none =>
      rw [hf] at q
      simp only at q
      simp [-aft_nx, eIO]
      rw [aft_nx]
      simp only [wps_seq]
      have fin : ∀ a b d : Option D, ownT own it = ownT own it → Q (eWhyO ((ownT own it).map .lane)) T → wps (mSeq (mIfS (mB (mDIn false (mTup (mCons (mOp dIx (mVar 3) (mC (.int 3))) (mCons (mOp dIx (mVar 3) (mC (.int 4))) mNil))) (mVar 5))) (mRet (mTup (mCons (mC (.str (PySem.Str.ofString "lane"))) (mCons (mDGet (mVar 5) (mTup (mCons (mOp dIx (mVar 3) (mC (.int 3))) (mCons (mOp dIx (mVar 3) (mC (.int 4))) mNil)))) mNil)))) mNext)
          (mRet (mC .non))) [some (eNet n), some (.int (c : Nat)), some (.lst (A.map tupI)), some (tupI it), some (eRows n.roads.length (lns n) rows), some (.ref e), some (.ref g), a, b, d] T (fun o S' => ∃ d, outD o = some d ∧ Q d S') := by
        intro a b d _ q
        have hv := val_own (own := own) (t := t) (i := i)
        have ho : ownT own it = ((own.find? fun o => (toO o == (t : Int)) && (intoO o == (i : Int))).map carO) := by unfold ownT; rw [e2, e3]
        rw [← ho] at hv
        simp [sI, dGetO, he, keysD, keyD, hv]
        cases hw : ownT own it with
        | none =>
          rw [hw] at q
          simp
          exact q
        | some w =>
          rw [hw] at q
          simp [sI, dGetO, he, keysD, keyD, hv, hw]
          exact q
      unfold rightT at q
      rw [hcr] at q
      have hin2 := fun xs o (h : n.cross[c] = (.ord xs, o)) => hin xs o (by rw [hcr, h])
      generalize n.cross[c] = cr at q hcr hin2
      rcases cr with ⟨rl, o⟩
      cases rl with
      | lig ps =>
        simp only at q
        simp [-aft_nx, eN, Z.atI_nat, hcr, eCr, eRule, wp_dEqS sok2 sok1, sne]
        rw [aft_nx]
        exact fin _ _ _ rfl q
      | ord xs =>
        simp only at q
        have hx := hin2 xs o rfl
        simp [-aft_nx, eN, Z.atI_nat, hcr, eCr, eRule, wp_dEqS sok1 sok1, eIs]
        rw [aft_nx]
        simp [-aft_nx]
        unfold rightP at q
        refine forL_map (fun j ρ T' => T' = T ∧ (∀ a ∈ A.take j, (decide (xs.idxOf (roadO a) < xs.idxOf (roadO it)) && (toO a == toO it) && (fullT rows a).isNone) = false) ∧ ∃ a, ρ = [some (eNet n), some (.int (c : Nat)), some (.lst (A.map tupI)), some (tupI it), some (eRows n.roads.length (lns n) rows), some (.ref e), some (.ref g), some .non, some (.tpi xs), a]) tupI A ⟨rfl, by simp, _, rfl⟩ ?_ ?_
        · rintro j a ρ T' ha ⟨rfl, hb, w, rfl⟩
          have ham := List.mem_of_getElem? ha
          have hao := hA a ham
          obtain ⟨k2, r2, l2, t2, i2, hae, _⟩ := hao.ex
          have eA : tupI a = .tup [.int k2, .int r2, .int l2, .int t2, .int i2] := by rw [hae]; rfl
          have sA : ∀ S : Store, asSq S (tupI a) = some [.int k2, .int r2, .int l2, .int t2, .int i2] := fun S => by rw [eA]; simp
          have f1 : roadO a = (r2 : Int) := by rw [hae]; rfl
          have f2 : toO a = (t2 : Int) := by rw [hae]; rfl
          have f0 : carO a = (k2 : Int) := by rw [hae]; rfl
          have x1 := hx a ham
          have x2 := hx it hit
          rw [f1] at x1
          rw [e1] at x2
          have htk : A.take (j + 1) = A.take j ++ [a] := by rw [List.take_add_one, ha]; rfl
          simp [-aft_nx, sA, sI, x1, x2]
          have more : (decide (xs.idxOf (roadO a) < xs.idxOf (roadO it)) && (toO a == toO it) && (fullT rows a).isNone) = false → ∀ b ∈ A.take (j + 1), (decide (xs.idxOf (roadO b) < xs.idxOf (roadO it)) && (toO b == toO it) && (fullT rows b).isNone) = false := by
            intro h b hbm
            rw [htk] at hbm
            rcases List.mem_append.mp hbm with hbm | hbm
            · exact hb b hbm
            · rw [List.mem_singleton] at hbm; subst hbm; exact h
          by_cases c1 : xs.idxOf (r2 : Int) < xs.idxOf (r : Int)
          · by_cases c2 : (t2 : Int) = t
            · have c2' : t2 = t := by omega
              simp [-aft_nx, c1, c2, c2']
              right
              refine full_w hao ?_
              cases hfa : fullT rows a with
              | none =>
                have hfd : A.find? (fun o => decide (xs.idxOf (roadO o) < xs.idxOf (roadO it)) && (toO o == toO it) && (fullT rows o).isNone) = some a := by
                  rw [List.find?_eq_some_iff_getElem]
                  obtain ⟨hjl, hje⟩ := List.getElem?_eq_some_iff.mp ha
                  refine ⟨by simp [f1, f2, e1, e2, c1, c2', hfa], j, hjl, hje, fun m hm => ?_⟩
                  have := hb A[m] (by rw [List.mem_take_iff_getElem]; exact ⟨m, by omega, rfl⟩)
                  rw [this]; rfl
                rw [hfd] at q
                simp [eIO, sA]
                simpa [eWhyO, eWhy, Why.txt, Why.num, f0] using q
              | some f =>
                have hb2 := more (by simp [hfa])
                simp [eIO]
                simpa using hb2
            · have hb2 := more (by simp [f2, e2]; omega)
              have c2' : ¬ t2 = t := by omega
              simp [c1, c2, c2']
              exact .inr (by simpa using hb2)
          · have hb2 := more (by simp [f1, e1]; omega)
            simp [c1]
            exact ⟨by omega, by simpa using hb2⟩
        · rintro ρ T' ⟨rfl, hb, w, rfl⟩
          refine ⟨by simp, ?_⟩
          rw [aft_nx]
          rw [List.take_length] at hb
          have hfd : A.find? (fun o => decide (xs.idxOf (roadO o) < xs.idxOf (roadO it)) && (toO o == toO it) && (fullT rows o).isNone) = none := by
            rw [List.find?_eq_none]
            intro a ha
            rw [hb a ha]; simp
          rw [hfd] at q
          exact fin _ _ _ rfl q
  · rw [if_neg hG] at q
    simp [-aft_nx, hG, sI]
    exact q
end
end C
set_option Elab.async false
set_option linter.all false
set_option maxRecDepth 100000
namespace Z
open PySem L2
theorem eqD_pair {S : Store} {a b c d : Int} : eqD S (.tup [.int a, .int b]) (.tup [.int c, .int d]) = some ((a == c) && (b == d)) := by
  have h1 : ∀ x y : Int, fit 60 (.tup [.int x, .int y]) = true := fun x y => by simp [fit]
  rw [eqD_see (rs_fit (h1 a b)) (rs_fit (h1 c d)) (h1 a b) (h1 c d)]
  simp [toP, toPs, PyData.eqv, PyData.eqvAll]
end Z
namespace C
open PySem L2 Z
section
variable {n : Net} {cs : List Car} {rows : Nat → Nat → List Row}
end
end C
set_option Elab.async false
set_option linter.all false
set_option maxRecDepth 100000
namespace C
open PySem L2 Z
/-- the roads with green after a time -/
def pickG : List (Int × List Int) → Int → List Int
  | [], _ => []
  | p :: ps, r => if r < p.1 then p.2 else pickG ps (r - p.1)
def durs (ps : List (Int × List Int)) : Int := (ps.map (·.1)).sum
theorem durs_pos {ps : List (Int × List Int)} (h : ∀ p ∈ ps, 1 ≤ p.1 ∧ p.1 ≤ 9) (hn : ps ≠ []) : 0 < durs ps := by
  have all : ∀ {ps : List (Int × List Int)}, (∀ p ∈ ps, 1 ≤ p.1 ∧ p.1 ≤ 9) → 0 ≤ durs ps := by
    intro ps
    induction ps with
    | nil => intro _; simp [durs]
    | cons p ps ih =>
      intro h
      have := ih fun q hq => h q (List.mem_cons_of_mem _ hq)
      have hp := h p List.mem_cons_self
      simp only [durs, List.map_cons, List.sum_cons] at this ⊢
      omega
  cases ps with
  | nil => exact (hn rfl).elim
  | cons p ps =>
    have := all (ps := ps) fun q hq => h q (List.mem_cons_of_mem _ hq)
    have hp := h p List.mem_cons_self
    simp only [durs, List.map_cons, List.sum_cons] at this ⊢
    omega
def greenT (n : Net) (c : Nat) (t : Int) : List Int := match n.cross[c]? with
  | some (.ord _, _) => closing n.roads c
  | some (.lig ps, _) => pickG ps (t % durs ps)
  | none => []
theorem closing_sorted (rs : List Road) (k : Int) : (closing rs k).Pairwise (· ≤ ·) := by
  unfold closing
  refine List.pairwise_map.mpr (List.Pairwise.imp ?_ (List.Pairwise.filter _ List.pairwise_lt_range))
  intro a b h
  omega
theorem pickG_sub {cl : List Int} : ∀ {ps : List (Int × List Int)} (r : Int), (∀ p ∈ ps, p.2.Sublist cl) → (pickG ps r).Sublist cl
  | [], _, _ => by simp [pickG]
  | p :: ps, r, h => by
    unfold pickG
    split
    · exact h p List.mem_cons_self
    · exact pickG_sub _ fun q hq => h q (List.mem_cons_of_mem _ hq)
theorem greenT_sub {n : Net} (hn : n.ok) {c : Nat} {t : Int} : (greenT n c t).Sublist (closing n.roads c) := by
  unfold greenT
  split
  · exact List.Sublist.refl _
  · rename_i ps o h
    exact pickG_sub _ (hn.rule c _ h).2.2.2
  · simp
section
variable {n : Net}
theorem greens_w (hn : n.ok) {c : Nat} (hc : c < n.cross.length) {t : Int} {S : Store} {Q : D → Store → Prop} (q : Q (.ref S.length) (S ++ [.lst ((greenT n c t).map .int)])) : wp (f_greens [eNet n, .int (c : Nat), .int t]) S Q := by
  have h : n.cross[c]? = some n.cross[c] := by simp [hc]
  have ho := hn.rule c _ h
  have eN : ∀ S : Store, asSq S (eNet n) = some [.tup (n.roads.map eRoad), .tup (n.cross.map eCr)] := fun S => by simp [eNet]
  unfold greenT at q
  rw [h] at q
  unfold f_greens b_greens
  generalize n.cross[c] = cr at q h ho
  rcases cr with ⟨r, o⟩
  cases r with
  | ord xs =>
    simp [startD_eq, eN, Z.atI_nat, h, eCr, eRule, wp_dEqS sok1 sok1, eIs]
    have e : srtI xs = closing n.roads c := srt_uniq ((srtI_perm xs).trans ho) (srtI_sorted xs) (closing_sorted _ _)
    rw [e]
    exact q
  | lig ps =>
    simp only at q
    obtain ⟨g, hgg⟩ : ∃ g, pickG ps (t % durs ps) = g := ⟨_, rfl⟩
    rw [hgg] at q
    obtain ⟨p1, p2, p3, p4⟩ := ho
    have hd := durs_pos p3 p1
    simp [startD_eq, eN, Z.atI_nat, h, eCr, eRule, wp_dEqS sok2 sok1, sne, eIs]
    refine lcL_all _ (fun p : Int × List Int => .int p.1) _ rfl (fun p hp => ?_) ?_
    · simp [ePh]
    · simp [lim]
      refine ⟨by omega, hd, ?_⟩
      refine forL_map (fun i ρ T => T = S ∧ ∃ a b r, ρ = [some (eNet n), some (.int (c : Nat)), some (.int t), some (.int r), some (.str (PySem.Str.ofString "lights")), some (.tup (ps.map ePh)), a, b, none] ∧ 0 ≤ r ∧ pickG (ps.drop i) r = g) _ _ ⟨rfl, _, _, _, rfl, Int.emod_nonneg _ (Int.ne_of_gt hd), hgg⟩ ?_ ?_
      · rintro i p ρ T hp ⟨rfl, a, b, r, rfl, h0, hr⟩
        have hi : i < ps.length := (List.getElem?_eq_some_iff.mp hp).1
        rw [List.drop_eq_getElem_cons hi] at hr
        have : ps[i] = p := by simpa [hi] using hp
        rw [this] at hr
        unfold pickG at hr
        by_cases hlt : r < p.1
        · rw [if_pos hlt] at hr
          simp [ePh, hlt, eIs]
          rw [hr]
          exact q
        · rw [if_neg hlt] at hr
          simp [ePh, hlt]
          exact ⟨_, _, _, ⟨rfl, rfl, rfl⟩, by omega, hr⟩
      · rintro ρ T ⟨rfl, a, b, r, rfl, h0, hr⟩
        simp [pickG] at hr
        rw [hr] at q
        simp
        exact q
end
end C
set_option Elab.async false
set_option linter.all false
set_option maxRecDepth 100000
namespace Z
open PySem L2
theorem pre_get {S T : Store} (h : S <+: T) {i : Nat} {o : MO} (e : S[i]? = some o) : T[i]? = some o := by
  obtain ⟨U, rfl⟩ := h
  rw [List.getElem?_append_left (List.getElem?_eq_some_iff.mp e).1]
  exact e
theorem pre_app {S T : Store} (h : S <+: T) (U : Store) : S <+: T ++ U := h.trans (List.prefix_append _ _)
theorem pre_set {S T : Store} (h : S <+: T) {i : Nat} (hi : S.length ≤ i) (o : MO) : S <+: T.set i o := by
  obtain ⟨U, rfl⟩ := h
  rw [List.set_append_right _ _ hi]
  exact List.prefix_append _ _
theorem rk_tup {k f : Nat} {S : Store} {xs : List D} : rk k S f (.tup xs) = .tup (xs.map (rk k S f)) := by
  have aux : ∀ (g : Nat → D) (ys : List D), rsFs g ys = ys.map (rsF g) := by
    intro g ys
    induction ys with
    | nil => rfl
    | cons y ys ih => simp [rsFs, ih]
  cases f with
  | zero =>
    show D.tup xs = .tup (xs.map fun d => d)
    simp
  | succ f =>
    show rsF _ (.tup xs) = _
    unfold rsF
    rw [aux]
    rfl
theorem clo0 {d v : D} {T : Store} (h : rk 0 T 4 d = v) (hv : nr v = true) : clo 0 d T = some (v, []) := by
  unfold clo
  rw [h, nr_below 0 v hv]
  simp
end Z
namespace C
open PySem L2 Z
def crossT (n : Net) (cs : List Car) (rows : Nat → Nat → List Row) (time : Int) (c : Nat) : List It × List (It × Why) := runT (causeT n c (askC n cs rows (orderT n c)) (greenT n c time) (fullT rows)) (askC n cs rows (orderT n c))
def goodT (n : Net) (cs : List Car) (rows : Nat → Nat → List Row) (time : Int) (k : Nat) : List It := (List.range k).flatMap fun c => (crossT n cs rows time c).1
def cauT (n : Net) (cs : List Car) (rows : Nat → Nat → List Row) (time : Int) (k : Nat) : List (It × Why) := (List.range k).flatMap fun c => (crossT n cs rows time c).2
def eCau (p : It × Why) : D := .tup [.int (carO p.1), eWhy p.2]
@[simp] theorem nr_eWhy {w : Why} : nr (eWhy w) = true := by simp [eWhy]
@[simp] theorem nr_eCau {p : It × Why} : nr (eCau p) = true := by simp [eCau]
@[simp] theorem nr_tupI {p : List Int} : nr (tupI p) = true := by simp [tupI]
theorem good_succ (n : Net) (cs : List Car) (rows : Nat → Nat → List Row) (time : Int) (k : Nat) : goodT n cs rows time (k + 1) = goodT n cs rows time k ++ (crossT n cs rows time k).1 := by simp [goodT, List.range_succ]
theorem cau_succ (n : Net) (cs : List Car) (rows : Nat → Nat → List Row) (time : Int) (k : Nat) : cauT n cs rows time (k + 1) = cauT n cs rows time k ++ (crossT n cs rows time k).2 := by simp [cauT, List.range_succ]
theorem ask_len {n : Net} (hn : n.ok) (cs : List Car) (rows : Nat → Nat → List Row) {c : Nat} (hc : c < n.cross.length) : (askC n cs rows (orderT n c)).length ≤ 36 := by
  have h1 := askC_len cs rows (lns_le hn) (orderT n c)
  have h2 := closing_len n.roads c
  have h3 := (order_perm hn hc).length_eq
  have := hn.few
  omega
theorem let_len {n : Net} (hn : n.ok) (cs : List Car) (rows : Nat → Nat → List Row) (time : Int) : ∀ k, k ≤ n.cross.length → (goodT n cs rows time k).length + (cauT n cs rows time k).length ≤ 36 * k
  | 0, _ => by simp [goodT, cauT]
  | k + 1, h => by
    have h1 := let_len hn cs rows time k (by omega)
    have h2 := ask_len hn cs rows (c := k) (by omega)
    have h3 := (runT_len (F := causeT n k (askC n cs rows (orderT n k)) (greenT n k time) (fullT rows)) (askC n cs rows (orderT n k))).1
    rw [good_succ, cau_succ, List.length_append, List.length_append]
    unfold crossT
    omega
structure Let (S0 T : Store) (e : Nat) (g k : List D) (d : List (List Key × D)) (G : List D) : Prop where
  pre : S0 <+: T
  g : T[S0.length]? = some (.lst g)
  k : T[S0.length + 1]? = some (.lst k)
  d : T[e]? = some (.dtt d)
  gr : T[e + 1]? = some (.lst G)
  he : S0.length + 2 ≤ e
section
variable {S0 T : Store} {e : Nat} {g k : List D} {d : List (List Key × D)} {G : List D}
theorem lt_of {T : Store} {i : Nat} {o : MO} (h : T[i]? = some o) : i < T.length := (List.getElem?_eq_some_iff.mp h).1
theorem Let.putG (h : Let S0 T e g k d G) (g' : List D) : Let S0 (T.set S0.length (.lst g')) e g' k d G := by
  have := h.he
  exact ⟨pre_set h.pre (Nat.le_refl _) _, by rw [List.getElem?_set_self (lt_of h.g)], by rw [List.getElem?_set_ne (by omega)]; exact h.k, by rw [List.getElem?_set_ne (by omega)]; exact h.d, by rw [List.getElem?_set_ne (by omega)]; exact h.gr, h.he⟩
theorem Let.putC (h : Let S0 T e g k d G) (k' : List D) : Let S0 (T.set (S0.length + 1) (.lst k')) e g k' d G := by
  have := h.he
  exact ⟨pre_set h.pre (by omega) _, by rw [List.getElem?_set_ne (by omega)]; exact h.g, by rw [List.getElem?_set_self (lt_of h.k)], by rw [List.getElem?_set_ne (by omega)]; exact h.d, by rw [List.getElem?_set_ne (by omega)]; exact h.gr, h.he⟩
theorem Let.putD (h : Let S0 T e g k d G) (d' : List (List Key × D)) : Let S0 (T.set e (.dtt d')) e g k d' G := by
  have := h.he
  exact ⟨pre_set h.pre (by omega) _, by rw [List.getElem?_set_ne (by omega)]; exact h.g, by rw [List.getElem?_set_ne (by omega)]; exact h.k, by rw [List.getElem?_set_self (lt_of h.d)], by rw [List.getElem?_set_ne (by omega)]; exact h.gr, h.he⟩
end
theorem take_mem {F : List It → It → Option Why} {A : List It} {j : Nat} : (∀ x ∈ (runT F (A.take j)).1, x ∈ A) ∧ (runT F (A.take j)).1.length + (runT F (A.take j)).2.length ≤ A.length := by
  obtain ⟨h1, h2, h3⟩ := runT_len (F := F) (A.take j)
  refine ⟨fun x hx => List.mem_of_mem_take (h2 x hx), ?_⟩
  rw [h1, List.length_take]
  omega
def eDue (n : Net) (cs : List Car) (rows : Nat → Nat → List Row) (time : Int) : D := .tup [.lst ((goodT n cs rows time n.cross.length).map tupI), .lst ((cauT n cs rows time n.cross.length).map eCau)]
theorem let_body {n : Net} {cs : List Car} {rows : Nat → Nat → List Row} (h : RowsOk n cs rows) {time : Int} {S0 : Store} {Qo : Out → Store → Prop}
    (q : ∀ T, S0 <+: T → T[S0.length]? = some (.lst ((goodT n cs rows time n.cross.length).map tupI)) → T[S0.length + 1]? = some (.lst ((cauT n cs rows time n.cross.length).map eCau)) → Qo (.rt (.tup [.ref S0.length, .ref (S0.length + 1)])) T) :
    wps b_let_through (startD 12 [eNet n, eCars cs, .int time, eRows n.roads.length (lns n) rows]) S0 Qo := by
  have hn := h.net
  have hcf := hn.cfew
  have eN : ∀ S : Store, asSq S (eNet n) = some [.tup (n.roads.map eRoad), .tup (n.cross.map eCr)] := fun S => by simp [eNet]
  unfold b_let_through
  simp [-aft_nx, startD_eq]
  rw [aft_nx]
  simp [-aft_nx]
  rw [aft_nx]
  simp [-aft_nx, eN, okR]
  refine ⟨by omega, ?_⟩
  refine forL_rng (fun c ρ T => S0 <+: T ∧ T[S0.length]? = some (.lst ((goodT n cs rows time c).map tupI)) ∧ T[S0.length + 1]? = some (.lst ((cauT n cs rows time c).map eCau)) ∧ ∃ x a b d e f, ρ = [some (eNet n), some (eCars cs), some (.int time), some (eRows n.roads.length (lns n) rows), some (.ref S0.length), some (.ref (S0.length + 1)), x, a, b, d, e, f]) ⟨by simp, by simp [goodT], by simp [cauT], _, _, _, _, _, _, rfl⟩ ?_ ?_
  · rintro c ρ T hc ⟨hp, hg, hk, x, a, b, d, e, f, rfl⟩
    simp [-aft_nx]
    refine asking_at_w h hc ?_
    rw [aft_nx]
    simp [-aft_nx]
    rw [aft_nx]
    simp [-aft_nx]
    refine greens_w hn hc ?_
    rw [aft_nx]
    have hlg := let_len hn cs rows time c (by omega)
    have hal := ask_len hn cs rows hc
    have hom := order_mem hn hc
    have hA := askC_ok h hom
    have hT1 := lt_of hk
    rw [good_succ, cau_succ]
    generalize hgl : goodT n cs rows time c = gl at hg hlg
    generalize hkl : cauT n cs rows time c = kl at hk hlg
    have hL : Let S0 (T ++ [MO.dtt []] ++ [MO.lst ((greenT n c time).map .int)]) T.length (gl.map tupI) (kl.map eCau) [] ((greenT n c time).map .int) := by
      refine ⟨pre_app (pre_app hp _) _, ?_, ?_, ?_, ?_, by omega⟩
      · rw [List.append_assoc, List.getElem?_append_left (lt_of hg)]; exact hg
      · rw [List.append_assoc, List.getElem?_append_left hT1]; exact hk
      · rw [List.append_assoc, List.getElem?_append_right (Nat.le_refl _)]; simp
      · rw [List.append_assoc, List.getElem?_append_right (by omega)]; simp
    have eL : (T ++ [MO.dtt []]).length = T.length + 1 := by simp
    rw [eL]
    generalize T ++ [MO.dtt []] ++ [MO.lst ((greenT n c time).map .int)] = T2 at hL
    generalize T.length = ee at hL
    unfold crossT
    have hin : ∀ xs o, n.cross[c]? = some (.ord xs, o) → ∀ a ∈ askC n cs rows (orderT n c), roadO a ∈ xs := fun xs o hx a ha => by
      have e1 : orderT n c = xs := by unfold orderT; rw [hx]
      rw [e1] at ha hom
      exact ask_in (fun x hx => (hom x hx).1) ha
    generalize askC n cs rows (orderT n c) = A at hal hA hin
    generalize hF : causeT n c A (greenT n c time) (fullT rows) = F
    clear hg hk hT1 eL hp
    simp [-aft_nx]
    refine forL_map (fun j ρ T => Let S0 T ee ((gl ++ (runT F (A.take j)).1).map tupI) ((kl ++ (runT F (A.take j)).2).map eCau) (((runT F (A.take j)).1).map kvO) ((greenT n c time).map .int) ∧ ∃ a b, ρ = [some (eNet n), some (eCars cs), some (.int time), some (eRows n.roads.length (lns n) rows), some (.ref S0.length), some (.ref (S0.length + 1)), some (.int (c : Nat)), some (.lst (A.map tupI)), some (.ref ee), some (.ref (ee + 1)), a, b]) tupI A ⟨by simpa [runT_nil] using hL, _, _, rfl⟩ ?_ ?_
    · rintro j it ρ T hj ⟨hL, a, b, rfl⟩
      have hit := List.mem_of_getElem? hj
      have hio := hA it hit
      obtain ⟨k, r, l, t, i, hie, _⟩ := hio.ex
      have eI : tupI it = .tup [.int k, .int r, .int l, .int t, .int i] := by rw [hie]; rfl
      have sI : ∀ S : Store, asSq S (tupI it) = some [.int k, .int r, .int l, .int t, .int i] := fun S => by rw [eI]; simp
      obtain ⟨hm, hml⟩ := take_mem (F := F) (A := A) (j := j)
      rw [runT_succ hj]
      generalize runT F (A.take j) = p at hL hm hml
      obtain ⟨own, cz⟩ := p
      simp only at hL hm hml
      refine ⟨by simp, _, rfl, ?_⟩
      simp [-aft_nx]
      refine cause_w hc hA hit hin hL.d hL.gr ?_
      rw [hF]
      rw [aft_nx]
      unfold stepT
      cases hw : F own it with
      | none =>
        have hon : ownT own it = none := by
          rw [← hF] at hw
          unfold causeT at hw
          split at hw
          · split at hw
            · cases hw
            · split at hw
              · cases hw
              · simpa using hw
          · cases hw
        have e0 : carO it = (k : Int) := by rw [hie]; rfl
        have e2 : toO it = (t : Int) := by rw [hie]; rfl
        have e3 : intoO it = (i : Int) := by rw [hie]; rfl
        have hput := put_own hon
        rw [e0, e2, e3] at hput
        have hdp : dPutS T (.ref ee) (.tup [.int t, .int i]) (.int k) = some (T.set ee (.dtt ((own ++ [it]).map kvO))) := by
          have : (own.map kvO).length < lim := by simp [lim]; omega
          simp only [dPutS, hL.d, keysD, keyD, Option.map_some, Option.bind_some, if_pos this, hput]
        have hL2 := hL.putD ((own ++ [it]).map kvO)
        have hL3 := hL2.putG ((gl ++ own).map tupI ++ [tupI it])
        have hg2 := hL2.g
        simp only [List.map_append, List.map_cons, List.map_nil] at hg2 hL3 hdp ⊢
        simp [eWhyO, sI, hdp, hg2]
        refine ⟨?_, ?_⟩
        · simp [lim]; omega
        · simpa using hL3
      | some w =>
        have e0 : carO it = (k : Int) := by rw [hie]; rfl
        have hL2 := hL.putC ((kl ++ cz).map eCau ++ [eCau (it, w)])
        simp [eWhyO, sI]
        have eW : isN (eWhy w) = false := rfl
        simp [eW, hL.k, sI]
        refine ⟨?_, ?_⟩
        · simp [lim]; omega
        · simpa [eCau, e0] using hL2
    · rintro ρ T ⟨hL, a, b, rfl⟩
      rw [List.take_length] at hL
      simp
      exact ⟨hL.pre, by simpa using hL.g, by simpa using hL.k⟩
  · rintro ρ T ⟨hp, hg, hk, x, a, b, d, e, f, rfl⟩
    simp
    exact q T hp hg hk
theorem let_through_c {n : Net} {cs : List Car} {rows : Nat → Nat → List Row} (h : RowsOk n cs rows) {time : Int} {S : Store} {Q : D → Store → Prop} (q : Q (eDue n cs rows time) S) :
    wp (callF 0 f_let_through [eNet n, eCars cs, .int time, eRows n.roads.length (lns n) rows]) S Q := by
  refine wp_call0 (by simp [nrs]) ?_
  unfold f_let_through
  rw [wp_mBody]
  refine let_body h fun T h1 h2 h3 => ⟨_, rfl, eDue n cs rows time, [], ?_, rfl, q⟩
  refine clo0 ?_ (by simp [eDue])
  rw [rk_tup]
  simp only [List.map_cons, List.map_nil]
  rw [rk_ref0 h2 (by simp), rk_ref0 h3 (by simp)]
  rfl
end C
set_option Elab.async false
set_option linter.all false
set_option maxRecDepth 100000
namespace C
open PySem L2 Z
structure LetL (T : Store) (oo : Nat) (k own : List D) : Prop where
  k : T[0]? = some (.lst k)
  o : T[oo]? = some (.lst own)
  h : 0 < oo
theorem LetL.putK {T : Store} {o : Nat} {k own : List D} (h : LetL T o k own) (k' : List D) : LetL (T.set 0 (.lst k')) o k' own := by
  have := h.h
  exact ⟨by rw [List.getElem?_set_self (lt_of h.k)], by rw [List.getElem?_set_ne (by omega)]; exact h.o, h.h⟩
theorem LetL.putO {T : Store} {o : Nat} {k own : List D} (h : LetL T o k own) (o' : List D) : LetL (T.set o (.lst o')) o k o' := by
  have := h.h
  exact ⟨by rw [List.getElem?_set_ne (by omega)]; exact h.k, by rw [List.getElem?_set_self (lt_of h.o)], h.h⟩
end C
set_option Elab.async false
set_option linter.all false
set_option maxRecDepth 100000
/-! Rows of a sound state, behind the changes of lane too. -/
namespace C
open PySem L2 Z
structure RowsP (n : Net) (cs : List Car) (t : Int) (rows : Nat → Nat → List Row) (arr : List (Int × Int)) : Prop where
  part : Part n cs t cs.length rows arr
  asc : ∀ r l, (rows r l).Pairwise fun a b => a.1 < b.1
  emp : ∀ r l, lns n r ≤ l → rows r l = []
/-- only the lanes that there are -/
def cutRows (n : Net) (rows : Nat → Nat → List Row) (r l : Nat) : List Row := if l < lns n r then rows r l else []
theorem cut_eRows (n : Net) (rows : Nat → Nat → List Row) (R : Nat) : eRows R (lns n) (cutRows n rows) = eRows R (lns n) rows := by
  unfold eRows
  congr 1
  refine List.map_congr_left fun r _ => ?_
  congr 1
  refine List.map_congr_left fun l hl => ?_
  simp at hl
  simp [cutRows, hl]
theorem cut_rowsP {n : Net} {cs : List Car} {s : St} (hs : Sound n cs s) : RowsP n cs s.time (cutRows n s.rows) s.arr := by
  have m : ∀ {r l a}, a ∈ cutRows n s.rows r l → a ∈ s.rows r l := fun {r l a} h => by unfold cutRows at h; split at h; exact h; cases h
  refine ⟨⟨fun r l a ha => hs.part.row r l a (m ha), fun r l => ?_, fun r l => ?_, fun r l r' l' a b ha hb e => hs.part.uniq r l r' l' a b (m ha) (m hb) e, fun p hp => ?_, hs.part.asc, hs.part.alen⟩, fun r l => ?_, fun r l h => ?_⟩
  · unfold cutRows; split
    · exact hs.part.len r l
    · simp
  · unfold cutRows; split
    · exact hs.part.cells r l
    · simp
  · obtain ⟨h1, h2, h3, h4, h5⟩ := hs.part.gone p hp
    exact ⟨h1, h2, h3, h4, fun r l a ha => h5 r l a (m ha)⟩
  · unfold cutRows; split
    · exact hs.asc r l
    · simp
  · unfold cutRows; rw [if_neg (by omega)]
theorem accR_mem2 {tg : Nat → Row → Nat} {rows : List Row} {f : Nat → List Row} {l : Nat} {a : Row} : ∀ k, a ∈ accR tg rows f k l ↔ a ∈ f l ∨ ∃ i, i < k ∧ rows[i]? = some a ∧ tg i a = l
  | 0 => by simp [accR]
  | k + 1 => by
    have ih := accR_mem2 (tg := tg) (rows := rows) (f := f) (l := l) (a := a) k
    unfold accR
    cases hb : rows[k]? with
    | none =>
      simp only
      rw [ih]
      constructor
      · rintro (h | ⟨i, hi, h⟩)
        · exact .inl h
        · exact .inr ⟨i, by omega, h⟩
      · rintro (h | ⟨i, hi, h1, h2⟩)
        · exact .inl h
        · have : i ≠ k := fun e => by rw [e, hb] at h1; cases h1
          exact .inr ⟨i, by omega, h1, h2⟩
    | some b =>
      simp only [stepR]
      by_cases hl : l = tg k b
      · rw [if_pos hl, List.mem_append, ih, List.mem_singleton]
        constructor
        · rintro ((h | ⟨i, hi, h⟩) | h)
          · exact .inl h
          · exact .inr ⟨i, by omega, h⟩
          · subst h; exact .inr ⟨k, by omega, hb, hl.symm⟩
        · rintro (h | ⟨i, hi, h1, h2⟩)
          · exact .inl (.inl h)
          · rcases Nat.lt_or_ge i k with g | g
            · exact .inl (.inr ⟨i, g, h1, h2⟩)
            · have : i = k := by omega
              subst this
              rw [hb] at h1; cases h1
              exact .inr rfl
      · rw [if_neg hl, ih]
        constructor
        · rintro (h | ⟨i, hi, h⟩)
          · exact .inl h
          · exact .inr ⟨i, by omega, h⟩
        · rintro (h | ⟨i, hi, h1, h2⟩)
          · exact .inl h
          · rcases Nat.lt_or_ge i k with g | g
            · exact .inr ⟨i, g, h1, h2⟩
            · have : i = k := by omega
              subst this
              rw [hb] at h1; cases h1
              exact (hl h2.symm).elim
theorem accL_mem2 {tg : Nat → Nat → Row → Nat} {lanes : Nat → List Row} {l : Nat} {a : Row} : ∀ J, a ∈ accL tg lanes J l ↔ ∃ j, j < J ∧ ∃ i, (lanes j)[i]? = some a ∧ tg j i a = l
  | 0 => by simp [accL]
  | J + 1 => by
    show a ∈ accR (tg J) (lanes J) (accL tg lanes J) (lanes J).length l ↔ _
    rw [accR_mem2, accL_mem2 J]
    constructor
    · rintro (⟨j, hj, i, h⟩ | ⟨i, hi, h⟩)
      · exact ⟨j, by omega, i, h⟩
      · exact ⟨J, by omega, i, h⟩
    · rintro ⟨j, hj, i, h1, h2⟩
      rcases Nat.lt_or_ge j J with g | g
      · exact .inl ⟨j, g, i, h1, h2⟩
      · have : j = J := by omega
        subst this
        exact .inr ⟨i, (List.getElem?_eq_some_iff.mp h1).1, h1, h2⟩
theorem accL_nodup {tg : Nat → Nat → Row → Nat} {lanes : Nat → List Row} {l : Nat} (h : ∀ j i j' i' a b, (lanes j)[i]? = some a → (lanes j')[i']? = some b → tg j i a = l → tg j' i' b = l → (j ≠ j' ∨ i ≠ i') → a.1 ≠ b.1) :
    ∀ J, ((accL tg lanes J l).map (·.1)).Nodup
  | 0 => by simp [accL]
  | J + 1 => by
    suffices g : ∀ k, k ≤ (lanes J).length → ((accR (tg J) (lanes J) (accL tg lanes J) k l).map (·.1)).Nodup from g _ (Nat.le_refl _)
    intro k
    induction k with
    | zero => intro _; exact accL_nodup h J
    | succ k ih =>
      intro hk
      have ih := ih (by omega)
      unfold accR
      have hb : (lanes J)[k]? = some ((lanes J)[k]'(by omega)) := by simp
      rw [hb]
      simp only [stepR]
      by_cases hl : l = tg J k ((lanes J)[k]'(by omega))
      · rw [if_pos hl, List.map_append]
        refine List.nodup_append.mpr ⟨ih, by simp, fun x hx y hy e => ?_⟩
        simp at hy
        obtain ⟨b, hb2, rfl⟩ := List.mem_map.mp hx
        rw [accR_mem2] at hb2
        rw [hy] at e
        rcases hb2 with hb2 | ⟨i, hi, h1, h2⟩
        · obtain ⟨j, hj, i, h1, h2⟩ := (accL_mem2 J).mp hb2
          exact h j i J k b _ h1 hb h2 hl.symm (.inl (by omega)) e
        · exact h J i J k b _ h1 hb h2 hl.symm (.inr (by omega)) e
      · rw [if_neg hl]; exact ih
theorem nodup_len : ∀ (k : Nat) {l : List Int}, l.Nodup → (∀ x ∈ l, 0 ≤ x ∧ x < k) → l.length ≤ k
  | 0, l, _, h => by
    cases l with
    | nil => simp
    | cons a l => have := h a List.mem_cons_self; omega
  | k + 1, l, hn, h => by
    by_cases hk : (k : Int) ∈ l
    · have h1 := nodup_len k (hn.erase (k : Int)) fun x hx => by
        have h2 := (hn.mem_erase_iff).mp hx
        have := h x h2.2
        have := h2.1
        omega
      have := List.length_erase_of_mem hk
      have := List.length_pos_of_mem hk
      omega
    · have := nodup_len k hn fun x hx => by
        have := h x hx
        have : x ≠ (k : Int) := fun e => hk (e ▸ hx)
        omega
      omega
theorem pos_uniq {rows : List Row} (hd : (rows.map (·.1)).Nodup) {i j : Nat} {a : Row} (h1 : rows[i]? = some a) (h2 : rows[j]? = some a) : i = j := by
  have g1 : (rows.map (·.1))[i]? = some a.1 := by rw [List.getElem?_map, h1]; rfl
  have g2 : (rows.map (·.1))[j]? = some a.1 := by rw [List.getElem?_map, h2]; rfl
  obtain ⟨k1, e1⟩ := List.getElem?_eq_some_iff.mp g1
  obtain ⟨k2, e2⟩ := List.getElem?_eq_some_iff.mp g2
  exact (List.getElem_inj hd).mp (e1.trans e2.symm)
theorem toI_inj {time : Int} {j j' : Nat} (h : (toI time j).toNat = (toI time j').toNat) (h1 : 0 ≤ toI time j) (h2 : 0 ≤ toI time j') : j = j' := by
  unfold toI at h h1 h2
  split at h <;> simp_all <;> omega
theorem tgt_free {rd : Road} {time : Int} {L : Nat} {lanes : Nat → List Row} {j i j' i' l : Nat} {a b : Row} (ha : (lanes j)[i]? = some a) (hb : (lanes j')[i']? = some b) (h1 : tgt rd time L lanes j i a = l) (h2 : tgt rd time L lanes j' i' b = l)
    (hne : j ≠ j' ∨ i ≠ i') (hd : ∀ j, ((lanes j).map (·.1)).Nodup) : a.1 ≠ b.1 := by
  intro e
  have goes : ∀ {j i j' : Nat} {a b : Row}, (lanes j')[i']? = some b → True := fun _ => trivial
  have free : ∀ {rows : List Row} {k : Nat} {x : Row} {other : List Row}, goesT rd rows k x other = true → ∀ y ∈ other, y.1 ≠ x.1 := fun {rows k x other} g y hy e => by
    unfold goesT at g
    split at g
    · cases g
    · rw [if_pos ⟨y, hy, e⟩] at g; cases g
  by_cases hj : j = j'
  · subst hj
    have hi : i ≠ i' := hne.elim (fun z => (z rfl).elim) id
    have g1 : ((lanes j).map (·.1))[i]? = some a.1 := by rw [List.getElem?_map, ha]; rfl
    have g2 : ((lanes j).map (·.1))[i']? = some a.1 := by rw [List.getElem?_map, hb, e]; rfl
    obtain ⟨k1, e1⟩ := List.getElem?_eq_some_iff.mp g1
    obtain ⟨k2, e2⟩ := List.getElem?_eq_some_iff.mp g2
    exact hi ((List.getElem_inj (hd j)).mp (e1.trans e2.symm))
  · unfold tgt at h1 h2
    split at h1
    · rename_i c1
      split at h2
      · rename_i c2
        exact hj (toI_inj (h1.trans h2.symm) c1.1.1 c2.1.1)
      · have := free c1.2 b (by rw [h1, ← h2]; exact List.mem_of_getElem? hb)
        exact this e.symm
    · split at h2
      · rename_i c2
        have := free c2.2 a (by rw [h2, ← h1]; exact List.mem_of_getElem? ha)
        exact this e
      · exact hj (h1.trans h2.symm)
theorem chg_mem {n : Net} {s : St} {r l : Nat} {a : Row} (h : a ∈ chg n s r l) : ∃ rd, n.roads[r]? = some rd ∧ ∃ j, j < lns n r ∧ ∃ i, (s.rows r j)[i]? = some a ∧ tgt rd s.time (lns n r) (s.rows r) j i a = l := by
  unfold chg at h
  cases hr : n.roads[r]? with
  | none => rw [hr] at h; cases h
  | some rd =>
    rw [hr] at h
    exact ⟨rd, rfl, (accL_mem2 _).mp ((srtR_perm _).mem_iff.mp h)⟩
theorem chg_rowsP {n : Net} (hn : n.ok) {cs : List Car} (hc : CarsOk n cs) {s : St} (hs : RowsP n cs s.time s.rows s.arr) : RowsP n cs s.time (chg n s) s.arr := by
  have old : ∀ {r l a}, a ∈ chg n s r l → ∃ j, a ∈ s.rows r j := fun h => by
    obtain ⟨rd, _, j, _, i, h1, _⟩ := chg_mem h
    exact ⟨j, List.mem_of_getElem? h1⟩
  have cells : ∀ r l, ((chg n s r l).map (·.1)).Nodup := fun r l => by
    unfold chg
    cases hr : n.roads[r]? with
    | none => simp
    | some rd =>
      simp only
      refine (((srtR_perm _).map (·.1)).nodup_iff).mpr ?_
      exact accL_nodup (fun j i j' i' a b ha hb h1 h2 hne => tgt_free ha hb h1 h2 hne fun j => hs.part.cells r j) _
  have uniq : ∀ r l r' l' a b, a ∈ chg n s r l → b ∈ chg n s r' l' → a.2.1 = b.2.1 → r = r' ∧ l = l' ∧ a = b := fun r l r' l' a b ha hb e => by
    obtain ⟨rd, hr, j, hj, i, h1, h2⟩ := chg_mem ha
    obtain ⟨rd', hr', j', hj', i', h1', h2'⟩ := chg_mem hb
    obtain ⟨rfl, rfl, rfl⟩ := hs.part.uniq r j r' j' a b (List.mem_of_getElem? h1) (List.mem_of_getElem? h1') e
    rw [hr] at hr'; cases hr'
    have := pos_uniq (hs.part.cells r j) h1 h1'
    subst this
    exact ⟨rfl, h2.symm.trans h2', rfl⟩
  have row : ∀ r l a, a ∈ chg n s r l → RowOk n cs r a ∧ a.2.1 < cs.length := fun r l a ha => let ⟨j, h⟩ := old ha; hs.part.row r j a h
  refine ⟨⟨row, fun r l => ?_, cells, uniq, fun p hp => ?_, hs.part.asc, hs.part.alen⟩, fun r l => ?_, fun r l hl => ?_⟩
  · have hcar : ((chg n s r l).map fun a => a.2.1).Nodup := by
      have h0 := List.pairwise_map.mp (cells r l)
      exact List.pairwise_map.mpr (List.Pairwise.imp_of_mem (fun {a b} ha hb h e => h (by rw [(uniq r l r l a b ha hb e).2.2])) h0)
    have := nodup_len cs.length hcar fun x hx => by
      obtain ⟨a, ha, rfl⟩ := List.mem_map.mp hx
      obtain ⟨h1, h2⟩ := row r l a ha
      exact ⟨h1.car.1, h2⟩
    simpa using this
  · obtain ⟨h1, h2, h3, h4, h5⟩ := hs.part.gone p hp
    exact ⟨h1, h2, h3, h4, fun r l a ha => let ⟨j, h⟩ := old ha; h5 r j a h⟩
  · have hro : ∀ a ∈ chg n s r l, RowOk n cs r a := fun a ha => (row r l a ha).1
    have hcl := cells r l
    unfold chg at hro hcl ⊢
    cases hr : n.roads[r]? with
    | none => simp
    | some rd =>
      rw [hr] at hro hcl
      simp only at hro hcl ⊢
      exact srtR_asc hn hc (fun a ha => hro a ((srtR_perm _).mem_iff.mpr ha)) ((((srtR_perm _).map (·.1)).nodup_iff).mp hcl)
  · rw [List.eq_nil_iff_forall_not_mem]
    intro a ha
    obtain ⟨rd, hr, j, hj, i, h1, h2⟩ := chg_mem ha
    unfold tgt at h2
    split at h2
    · rename_i c; omega
    · omega
end C
set_option Elab.async false
set_option linter.all false
set_option maxRecDepth 100000
/-! Who is let through: no two from one lane, no two into one lane. -/
namespace C
open PySem L2 Z
theorem closing_end {rs : List Road} {k x : Int} (h : x ∈ closing rs k) : ∃ rd, rs[x.toNat]? = some rd ∧ rd.2.2.2 = k := by
  unfold closing at h
  obtain ⟨i, hi, rfl⟩ := List.mem_map.mp h
  have h2 := (List.mem_filter.mp hi).2
  cases hr : rs[i]? with
  | none => rw [hr] at h2; simp at h2
  | some rd => rw [hr] at h2; exact ⟨rd, by simpa using hr, by simpa using h2⟩
theorem RowsP.ok {n : Net} {cs : List Car} {t : Int} {rows : Nat → Nat → List Row} {arr : List (Int × Int)} (hn : n.ok) (hc : CarsOk n cs) (h : RowsP n cs t rows arr) : RowsOk n cs rows := ⟨hn, hc, fun r _ l a ha => (h.part.row r l a ha).1⟩
theorem runT_sub {F : List It → It → Option Why} {A : List It} : (runT F A).1.Sublist A := by
  suffices h : ∀ (A : List It) (p : List It × List (It × Why)), (A.foldl (stepT F) p).1.Sublist (p.1 ++ A) by
    have := h A ([], [])
    simpa [runT] using this
  intro A
  induction A with
  | nil => intro p; simp
  | cons a A ih =>
    intro p
    have := ih (stepT F p a)
    simp only [List.foldl_cons]
    refine this.trans ?_
    unfold stepT
    split
    · simp
    · exact (List.Sublist.refl _).append (List.sublist_cons_self _ _)
theorem runT_pw {F : List It → It → Option Why} {R : It → It → Prop} (h : ∀ own it, F own it = none → ∀ o ∈ own, R o it) (A : List It) : (runT F A).1.Pairwise R := by
  suffices g : ∀ (A : List It) (p : List It × List (It × Why)), p.1.Pairwise R → (A.foldl (stepT F) p).1.Pairwise R from g A ([], []) .nil
  intro A
  induction A with
  | nil => intro p hp; exact hp
  | cons a A ih =>
    intro p hp
    simp only [List.foldl_cons]
    refine ih _ ?_
    unfold stepT
    cases hw : F p.1 a with
    | none =>
      simp only
      exact List.pairwise_append.mpr ⟨hp, by simp, fun x hx y hy => by rw [List.mem_singleton] at hy; subst hy; exact h p.1 y hw x hx⟩
    | some w => exact hp
theorem runT_from1 {F : List It → It → Option Why} {A : List It} : ∀ x ∈ (runT F A).1, ∃ own, F own x = none := by
  suffices g : ∀ (A : List It) (p : List It × List (It × Why)), (∀ x ∈ p.1, ∃ own, F own x = none) → ∀ x ∈ (A.foldl (stepT F) p).1, ∃ own, F own x = none from g A ([], []) (by simp)
  intro A
  induction A with
  | nil => intro p hp; exact hp
  | cons a A ih =>
    intro p hp
    simp only [List.foldl_cons]
    refine ih _ ?_
    unfold stepT
    cases hw : F p.1 a with
    | none =>
      simp only
      intro x hx
      rcases List.mem_append.mp hx with hx | hx
      · exact hp x hx
      · rw [List.mem_singleton] at hx; subst hx; exact ⟨_, hw⟩
    | some w => exact hp
theorem cause_none {n : Net} {c : Nat} {A own : List It} {G : List Int} {fl : It → Option Int} {it : It} (h : causeT n c A G fl own it = none) : fl it = none ∧ ownT own it = none := by
  unfold causeT at h
  split at h
  · split at h
    · cases h
    · rename_i hf
      split at h
      · cases h
      · exact ⟨hf, by simpa using h⟩
  · cases h
/-- one that may be let through -/
structure Goer (n : Net) (cs : List Car) (rows : Nat → Nat → List Row) (c : Nat) (it : It) : Prop where
  ok : ItOk n cs rows it
  full : fullT rows it = none
  fin : ∃ rd, n.roads[(roadO it).toNat]? = some rd ∧ rd.2.2.2 = (c : Int)
  out : ∃ cr, n.cross[c]? = some cr ∧ toO it ∈ cr.2
section
variable {n : Net} {cs : List Car} {rows : Nat → Nat → List Row}
theorem cross_goer (h : RowsOk n cs rows) {time : Int} {c : Nat} (hc : c < n.cross.length) : ∀ it ∈ (crossT n cs rows time c).1, Goer n cs rows c it := by
  intro it hit
  have hn := h.net
  have hA := (runT_len (F := causeT n c (askC n cs rows (orderT n c)) (greenT n c time) (fullT rows)) (askC n cs rows (orderT n c))).2.1 it hit
  have hok := askC_ok h (order_mem hn hc) it hA
  obtain ⟨own, ho⟩ := runT_from1 it hit
  have hr : roadO it ∈ closing n.roads c := (order_perm hn hc).mem_iff.mp (ask_in (fun x hx => (order_mem hn hc x hx).1) hA)
  obtain ⟨rd, hrd, hend⟩ := closing_end hr
  refine ⟨hok, (cause_none ho).1, ⟨rd, hrd, hend⟩, ?_⟩
  obtain ⟨k, r, l, t, i, rfl, hk, hrl, hl, ht, hi, rd', a, cr, h1, h2, h3, h4, h5, h6⟩ := hok.ex
  have hro := h.row r hrl l a (front_mem h2)
  obtain ⟨_, _, c2, g1, g2⟩ := hro.car
  rw [h3] at g1
  simp at g1
  rw [h4] at g1; cases g1
  have lead := (h.cars.car cr (List.mem_of_getElem? h4)).2.2.lead a.2.2.2.toNat _ _ g2 (by rw [show a.2.2.2.toNat + 1 = (a.2.2.2 + 1).toNat by omega]; exact h6)
  obtain ⟨rd2, cr2, q1, q2, q3, q4⟩ := lead
  simp only [roadO, Int.toNat_natCast] at hrd
  simp only [Int.toNat_natCast] at q1
  rw [hrd] at q1; cases q1
  rw [hend] at q3
  simp at q3
  exact ⟨cr2, q3, q4⟩
/-- from different lanes -/
def Apart (a b : It) : Prop := roadO a ≠ roadO b ∨ laneO a ≠ laneO b
/-- into different lanes -/
def ApartTo (a b : It) : Prop := toO a ≠ toO b ∨ intoO a ≠ intoO b
theorem frontsT_pw (rd : Road) (rs : Nat → List Row) (L : Nat) : (frontsT rd rs L).Pairwise fun p q => p.1 < q.1 := by
  unfold frontsT
  rw [List.pairwise_filterMap]
  refine List.pairwise_lt_range.imp ?_
  intro i j hij p hp q hq
  cases h1 : frontT rd (rs i) with
  | none => rw [h1] at hp; cases hp
  | some a =>
    cases h2 : frontT rd (rs j) with
    | none => rw [h2] at hq; cases hq
    | some b => rw [h1] at hp; rw [h2] at hq; cases hp; cases hq; exact hij
theorem itemT_lane {r : Nat} {p : Nat × Row} {it : It} (e : itemT n cs r p = some it) : laneO it = (p.1 : Int) := by
  unfold itemT at e
  simp only at e
  split at e
  · cases e; rfl
  · cases e
theorem askR_apart (r : Int) (L : Nat) : (askR n cs rows r L).Pairwise fun a b => laneO a ≠ laneO b := by
  unfold askR
  split
  · rename_i rd _
    rw [List.pairwise_filterMap]
    refine (frontsT_pw rd (rows r.toNat) L).imp ?_
    intro p q hpq a ha b hb
    rw [itemT_lane ha, itemT_lane hb]
    omega
  · simp
theorem ask_apart {xs : List Int} (h0 : ∀ x ∈ xs, 0 ≤ x) (hx : xs.Nodup) : (askC n cs rows xs).Pairwise Apart := by
  unfold askC
  rw [List.pairwise_flatMap]
  refine ⟨fun r _ => (askR_apart r _).imp fun h => .inr h, ?_⟩
  exact List.Pairwise.imp_of_mem (fun {a b} ha hb h x hx y hy => .inl (by rw [ask_road (h0 a ha) x hx, ask_road (h0 b hb) y hy]; exact h)) hx
theorem good_pw (h : RowsOk n cs rows) {time : Int} : (goodT n cs rows time n.cross.length).Pairwise Apart ∧ (goodT n cs rows time n.cross.length).Pairwise ApartTo ∧ ∀ it ∈ goodT n cs rows time n.cross.length, ∃ c, c < n.cross.length ∧ Goer n cs rows c it := by
  have hn := h.net
  have go : ∀ c, c < n.cross.length → ∀ it ∈ (crossT n cs rows time c).1, Goer n cs rows c it := fun c hc => cross_goer h hc
  have nonneg : ∀ {c : Nat} {it : It}, Goer n cs rows c it → 0 ≤ roadO it := fun g => by
    obtain ⟨k, r, l, t, i, rfl, _⟩ := g.ok.ex
    simp [roadO]
  refine ⟨?_, ?_, fun it hit => ?_⟩
  · unfold goodT
    rw [List.pairwise_flatMap]
    refine ⟨fun c hc => ?_, ?_⟩
    · have hc : c < n.cross.length := by simpa using hc
      have hnd : (orderT n c).Nodup := (order_perm hn hc).nodup_iff.mpr (nodup_closing _ _)
      exact (ask_apart (fun x hx => (order_mem hn hc x hx).1) hnd).sublist runT_sub
    · refine List.Pairwise.imp_of_mem (fun {c d} hc hd hcd x hx y hy => .inl fun e => ?_) List.pairwise_lt_range
      obtain ⟨r1, q1, q2⟩ := (go c (by simpa using hc) x hx).fin
      obtain ⟨r2, q3, q4⟩ := (go d (by simpa using hd) y hy).fin
      rw [e, q3] at q1; cases q1
      omega
  · unfold goodT
    rw [List.pairwise_flatMap]
    refine ⟨fun c hc => ?_, ?_⟩
    · refine runT_pw (fun own it ho o hoo => ?_) _
      have := (cause_none ho).2
      unfold ownT at this
      rw [Option.map_eq_none_iff, List.find?_eq_none] at this
      have := this o hoo
      simp only [Bool.and_eq_true, beq_iff_eq, not_and] at this
      by_cases e : toO o = toO it
      · exact .inr (this e)
      · exact .inl e
    · refine List.Pairwise.imp_of_mem (fun {c d} hc hd hcd x hx y hy => .inl fun e => ?_) List.pairwise_lt_range
      obtain ⟨r1, q1, q2⟩ := (go c (by simpa using hc) x hx).out
      obtain ⟨r2, q3, q4⟩ := (go d (by simpa using hd) y hy).out
      rw [e] at q2
      have := hn.disj c d r1 r2 q1 q3 _ q2 q4
      omega
  · obtain ⟨c, hc, hx⟩ := List.mem_flatMap.mp hit
    exact ⟨c, by simpa using hc, go c (by simpa using hc) it hx⟩
/-- the row of one that is let through -/
theorem goer_row {c : Nat} {it : It} (g : Goer n cs rows c it) : ∃ rd a, n.roads[(roadO it).toNat]? = some rd ∧ frontT rd (rows (roadO it).toNat (laneO it).toNat) = some a ∧ a.2.1 = carO it := by
  obtain ⟨k, r, l, t, i, rfl, hk, hr, hl, ht, hi, rd, a, cr, h1, h2, h3, h4, h5, h6⟩ := g.ok.ex
  exact ⟨rd, a, by simpa [roadO] using h1, by simpa [roadO, laneO] using h2, by simpa [carO] using h3⟩
theorem goer_nat {c : Nat} {it : It} (g : Goer n cs rows c it) : 0 ≤ roadO it ∧ 0 ≤ laneO it ∧ 0 ≤ toO it ∧ 0 ≤ intoO it ∧ 0 ≤ carO it ∧ carO it < cs.length ∧ (toO it).toNat < n.roads.length ∧ (intoO it).toNat < lns n (toO it).toNat := by
  obtain ⟨k, r, l, t, i, rfl, hk, hr, hl, ht, hi, _⟩ := g.ok.ex
  simp [roadO, laneO, toO, intoO, carO, hk, ht, hi]
/-- one car, one that is let through -/
theorem good_car (h : RowsOk n cs rows) {t : Int} {arr : List (Int × Int)} (hp : RowsP n cs t rows arr) {time : Int} {x y : It} (hx : x ∈ goodT n cs rows time n.cross.length) (hy : y ∈ goodT n cs rows time n.cross.length) (e : carO x = carO y) : x = y := by
  obtain ⟨pw, _, go⟩ := good_pw h (time := time)
  obtain ⟨c, _, gx⟩ := go x hx
  obtain ⟨d, _, gy⟩ := go y hy
  obtain ⟨r1, a1, q1, q2, q3⟩ := goer_row gx
  obtain ⟨r2, a2, q4, q5, q6⟩ := goer_row gy
  obtain ⟨f1, f2, f3⟩ := hp.part.uniq _ _ _ _ a1 a2 (front_mem q2) (front_mem q5) (by rw [q3, q6, e])
  obtain ⟨n1, n2, _⟩ := goer_nat gx
  obtain ⟨m1, m2, _⟩ := goer_nat gy
  have same : ¬ Apart x y ∧ ¬ Apart y x := ⟨fun z => z.elim (fun z => z (by omega)) (fun z => z (by omega)), fun z => z.elim (fun z => z (by omega)) (fun z => z (by omega))⟩
  obtain ⟨i, hi, rfl⟩ := List.getElem_of_mem hx
  obtain ⟨j, hj, rfl⟩ := List.getElem_of_mem hy
  rw [List.pairwise_iff_getElem] at pw
  rcases Nat.lt_trichotomy i j with z | z | z
  · exact (same.1 (pw i j hi hj z)).elim
  · subst z; rfl
  · exact (same.2 (pw j i hj hi z)).elim
end
end C
set_option Elab.async false
set_option linter.all false
set_option maxRecDepth 100000
/-! The rows behind moving, and that they are sound. -/
namespace C
open PySem L2 Z
def lastLeg (cs : List Car) (a : Row) : Bool := ((cs[a.2.1.toNat]?).map fun c : Car => decide (a.2.2.2 + 1 = (c.2.length : Int))).getD false
def lenT (rd : Road) (rows : List Row) (k : Nat) (a : Row) : Int := if roomT rows k a rd.2.1 < wantT rd a then roomT rows k a rd.2.1 else wantT rd a
def moveT (rd : Road) (rows : List Row) (k : Nat) (a : Row) : Row := (a.1 + lenT rd rows k a, a.2.1, lenT rd rows k a, a.2.2.2)
def leavesB (cs : List Car) (rd : Road) (rows : List Row) (a : Row) : Bool := decide (frontT rd rows = some a) && lastLeg cs a
def keepB (cs : List Car) (th : List Int) (rd : Road) (rows : List Row) (a : Row) : Bool := !leavesB cs rd rows a && !decide (a.2.1 ∈ th)
def stayL (cs : List Car) (th : List Int) (rd : Road) (rows : List Row) : List Row := rows.zipIdx.filterMap fun p => if keepB cs th rd rows p.1 = true then some (moveT rd rows p.2 p.1) else none
def stayT (n : Net) (cs : List Car) (th : List Int) (rows : Nat → Nat → List Row) (r l : Nat) : List Row := match n.roads[r]? with
  | some rd => stayL cs th rd (rows r l)
  | none => []
def leftL (cs : List Car) (rd : Road) (rows : List Row) : List Int := match frontT rd rows with
  | some a => if lastLeg cs a = true then [a.2.1] else []
  | none => []
def leftR (n : Net) (cs : List Car) (rows : Nat → Nat → List Row) (r L : Nat) : List Int := match n.roads[r]? with
  | some rd => (List.range L).flatMap fun l => leftL cs rd (rows r l)
  | none => []
def leftT (n : Net) (cs : List Car) (rows : Nat → Nat → List Row) (R : Nat) : List Int := (List.range R).flatMap fun r => leftR n cs rows r (lns n r)
def freeT (rt : Road) : List Row → Int
  | [] => rt.2.1
  | b :: _ => b.1
def minC (f w : Int) : Int := if f < w then f else w
def entryT (n : Net) (rows : Nat → Nat → List Row) (it : It) : Row := match n.roads[(roadO it).toNat]?, n.roads[(toO it).toNat]?, (rows (roadO it).toNat (laneO it).toNat).getLast? with
  | some rd, some rt, some a =>
    let w := wantT rd a - (rd.2.1 - 1 - a.1) - 1
    let f := freeT rt (rows (toO it).toNat (intoO it).toNat) - 1
    let cell := minC f w
    (cell, carO it, (rd.2.1 - 1 - a.1) + 1 + cell, a.2.2.2 + 1)
  | _, _, _ => (0, 0, 0, 0)
def intoB (r l : Nat) (it : It) : Bool := (toO it == (r : Int)) && (intoO it == (l : Int))
def newM (n : Net) (cs : List Car) (rows : Nat → Nat → List Row) (good : List It) (r l : Nat) : List Row := stayT n cs (good.map carO) rows r l ++ (good.filter (intoB r l)).map (entryT n rows)
def movT (n : Net) (cs : List Car) (rows : Nat → Nat → List Row) (good : List It) (r l : Nat) : List Row := srtR (newM n cs rows good r l)
section
variable {n : Net} {cs : List Car} {rows : Nat → Nat → List Row}
theorem want_b (hn : n.ok) {r : Nat} {rd : Road} (hr : n.roads[r]? = some rd) {a : Row} (ha : RowOk n cs r a) : 1 ≤ wantT rd a ∧ wantT rd a ≤ 5 := by
  obtain ⟨_, _, _, _, q5, q6, _⟩ := hn.road rd (List.mem_of_getElem? hr)
  have := ha.spd
  unfold wantT
  split <;> omega
theorem room_b {rd : Road} {rs : List Row} (hasc : rs.Pairwise fun a b => a.1 < b.1) (hcell : ∀ a ∈ rs, a.1 < rd.2.1) {k : Nat} {a : Row} (ha : rs[k]? = some a) : 0 ≤ roomT rs k a rd.2.1 ∧ a.1 + roomT rs k a rd.2.1 < rd.2.1 ∧ ∀ j b, k < j → rs[j]? = some b → a.1 + roomT rs k a rd.2.1 < b.1 := by
  have h1 := hcell a (List.mem_of_getElem? ha)
  rw [List.pairwise_iff_getElem] at hasc
  obtain ⟨hk, hke⟩ := List.getElem?_eq_some_iff.mp ha
  have lt : ∀ i j (hi : i < rs.length) (hj : j < rs.length), i < j → rs[i].1 < rs[j].1 := fun i j hi hj hij => hasc i j hi hj hij
  unfold roomT
  cases hb : rs[k + 1]? with
  | none =>
    have hlen : rs.length ≤ k + 1 := List.getElem?_eq_none_iff.mp hb
    refine ⟨by simp only; omega, by simp only; omega, fun j b hj hjb => ?_⟩
    have := (List.getElem?_eq_some_iff.mp hjb).1
    omega
  | some b =>
    obtain ⟨hk1, hbe⟩ := List.getElem?_eq_some_iff.mp hb
    have h2 := lt k (k + 1) hk hk1 (by omega)
    rw [hke, hbe] at h2
    have h3 := hcell b (List.mem_of_getElem? hb)
    refine ⟨by simp only; omega, by simp only; omega, fun j c hj hjc => ?_⟩
    obtain ⟨hjl, hje⟩ := List.getElem?_eq_some_iff.mp hjc
    rcases Nat.lt_or_ge (k + 1) j with g | g
    · have h4 := lt (k + 1) j hk1 hjl g
      rw [hbe, hje] at h4
      simp only; omega
    · have : j = k + 1 := by omega
      subst this
      rw [hb] at hjc; cases hjc
      simp only; omega
theorem len_b {rd : Road} {rs : List Row} {k : Nat} {a : Row} (h1 : 1 ≤ wantT rd a) (h2 : 0 ≤ roomT rs k a rd.2.1) : 0 ≤ lenT rd rs k a ∧ lenT rd rs k a ≤ roomT rs k a rd.2.1 ∧ lenT rd rs k a ≤ wantT rd a := by
  unfold lenT
  split <;> omega
theorem stay_mem {th : List Int} {rd : Road} {rs : List Row} {b : Row} (h : b ∈ stayL cs th rd rs) : ∃ k a, rs[k]? = some a ∧ keepB cs th rd rs a = true ∧ b = moveT rd rs k a := by
  unfold stayL at h
  obtain ⟨⟨a, k⟩, hp, e⟩ := List.mem_filterMap.mp h
  split at e
  · rename_i hk
    cases e
    exact ⟨k, a, by simpa using List.mem_zipIdx_iff_getElem?.mp hp, hk, rfl⟩
  · cases e
theorem stay_pw {t : Int} {arr : List (Int × Int)} (hn : n.ok) (hp : RowsP n cs t rows arr) {r : Nat} {rd : Road} (hr : n.roads[r]? = some rd) (l : Nat) (th : List Int) : (stayL cs th rd (rows r l)).Pairwise fun a b => a.1 < b.1 := by
  unfold stayL
  rw [List.pairwise_filterMap]
  have cell : ∀ a ∈ rows r l, a.1 < rd.2.1 := fun a ha => by
    obtain ⟨_, rd', h1, h2⟩ := (hp.part.row r l a ha).1.cell
    rw [hr] at h1; cases h1; exact h2
  rw [List.pairwise_iff_getElem]
  intro i j hi hj hij b hb c hc
  simp only [List.getElem_zipIdx, Nat.zero_add] at hb hc
  have hi2 : i < (rows r l).length := by simpa using hi
  have hj2 : j < (rows r l).length := by simpa using hj
  split at hb
  · split at hc
    · cases hb; cases hc
      have g1 : (rows r l)[i]? = some (rows r l)[i] := by simp [hi2]
      have g2 : (rows r l)[j]? = some (rows r l)[j] := by simp [hj2]
      have ri := (hp.part.row r l _ (List.getElem_mem hi2)).1
      have rj := (hp.part.row r l _ (List.getElem_mem hj2)).1
      obtain ⟨b1, b2, b3⟩ := room_b (hp.asc r l) cell g1
      obtain ⟨c1, c2, _⟩ := room_b (hp.asc r l) cell g2
      have := b3 j _ hij g2
      have := len_b (want_b hn hr ri).1 b1
      have := len_b (want_b hn hr rj).1 c1
      simp only [moveT]
      omega
    · cases hc
  · cases hb
theorem front_last {rd : Road} {rs : List Row} {a : Row} (h : frontT rd rs = some a) : rs.getLast? = some a ∧ rd.2.1 - 1 - a.1 < wantT rd a := by
  unfold frontT at h
  split at h
  · cases h
  · rename_i b hb
    split at h
    · cases h
    · cases h; exact ⟨hb, by omega⟩
/-- the row of one that enters -/
theorem entry_ok (h : RowsOk n cs rows) {t : Int} {arr : List (Int × Int)} (hp : RowsP n cs t rows arr) {c : Nat} {it : It} (g : Goer n cs rows c it) :
    RowOk n cs (toO it).toNat (entryT n rows it) ∧ (entryT n rows it).2.1 = carO it ∧ ∀ b ∈ rows (toO it).toNat (intoO it).toNat, (entryT n rows it).1 < b.1 := by
  have hn := h.net
  have hfull := g.full
  obtain ⟨k, r, l, t2, i, rfl, hk, hr, hl, ht, hi, rd, a, cr, h1, h2, h3, h4, h5, h6⟩ := g.ok.ex
  have hrt : n.roads[t2]? = some n.roads[t2] := by simp [ht]
  generalize n.roads[t2] = rt at hrt
  obtain ⟨f1, f2⟩ := front_last h2
  have ra := h.row r hr l a (front_mem h2)
  have hw := want_b hn h1 ra
  obtain ⟨_, _, t20, _, _⟩ := hn.road rt (List.mem_of_getElem? hrt)
  obtain ⟨a0, rd', e1, a1⟩ := ra.cell
  rw [h1] at e1; cases e1
  have free : 1 ≤ freeT rt (rows t2 i) ∧ freeT rt (rows t2 i) ≤ rt.2.1 ∧ ∀ b ∈ rows t2 i, freeT rt (rows t2 i) ≤ b.1 := by
    simp only [fullT, toO, intoO, Int.toNat_natCast] at hfull
    have hasc := hp.asc t2 i
    have hrow := hp.part.row t2 i
    cases hro : rows t2 i with
    | nil => simp [freeT]; omega
    | cons b bs =>
      rw [hro] at hfull hasc hrow
      simp only at hfull
      obtain ⟨⟨b0, rd2, e2, b1⟩, _⟩ := (hrow b List.mem_cons_self).1
      rw [hrt] at e2; cases e2
      have : b.1 ≠ 0 := fun z => by rw [if_pos z] at hfull; cases hfull
      refine ⟨by simp only [freeT]; omega, by simp only [freeT]; omega, fun c hc => ?_⟩
      simp only [freeT]
      rcases List.mem_cons.mp hc with rfl | hc
      · exact Int.le_refl _
      · have := (List.pairwise_cons.mp hasc).1 c hc; omega
  have e : entryT n rows [(k : Int), (r : Int), (l : Int), (t2 : Int), (i : Int)] = (let w := wantT rd a - (rd.2.1 - 1 - a.1) - 1
      let f := freeT rt (rows t2 i) - 1
      let cell := minC f w
      (cell, (k : Int), (rd.2.1 - 1 - a.1) + 1 + cell, a.2.2.2 + 1)) := by
    simp only [entryT, roadO, laneO, toO, intoO, carO, Int.toNat_natCast, h1, hrt, f1]
    try rfl
  rw [e]
  simp only [toO, intoO, carO, Int.toNat_natCast]
  generalize hcell : minC (freeT rt (rows t2 i) - 1) (wantT rd a - (rd.2.1 - 1 - a.1) - 1) = cell
  have hb : 0 ≤ cell ∧ cell ≤ freeT rt (rows t2 i) - 1 ∧ cell ≤ wantT rd a - (rd.2.1 - 1 - a.1) - 1 := by rw [← hcell]; unfold minC; split <;> omega
  refine ⟨⟨⟨hb.1, rt, hrt, by simp only; omega⟩, ⟨by simp only; omega, by simp only; omega⟩, ⟨by simp, by simp only; omega, cr, by simpa using h4, ?_⟩⟩, trivial, fun b hb2 => ?_⟩
  · exact h6
  · have := free.2.2 b hb2; omega
theorem new_mem {good : List It} {r l : Nat} {b : Row} (hb : b ∈ movT n cs rows good r l) : (∃ rd k a, n.roads[r]? = some rd ∧ (rows r l)[k]? = some a ∧ keepB cs (good.map carO) rd (rows r l) a = true ∧ b = moveT rd (rows r l) k a) ∨ (∃ it ∈ good, toO it = (r : Int) ∧ intoO it = (l : Int) ∧ b = entryT n rows it) := by
  rcases List.mem_append.mp ((srtR_perm _).mem_iff.mp hb) with h | h
  · unfold stayT at h
    cases hr : n.roads[r]? with
    | none => rw [hr] at h; cases h
    | some rd =>
      rw [hr] at h
      obtain ⟨k, a, h1, h2, h3⟩ := stay_mem h
      exact .inl ⟨rd, k, a, rfl, h1, h2, h3⟩
  · obtain ⟨it, hit, rfl⟩ := List.mem_map.mp h
    obtain ⟨h1, h2⟩ := List.mem_filter.mp hit
    simp only [intoB, Bool.and_eq_true, beq_iff_eq] at h2
    exact .inr ⟨it, h1, h2.1, h2.2, rfl⟩
theorem left_mem {R : Nat} {x : Int} (h : x ∈ leftT n cs rows R) : ∃ r rd l a, r < R ∧ n.roads[r]? = some rd ∧ l < lns n r ∧ frontT rd (rows r l) = some a ∧ lastLeg cs a = true ∧ x = a.2.1 := by
  obtain ⟨r, hr, h⟩ := List.mem_flatMap.mp h
  unfold leftR at h
  cases hrd : n.roads[r]? with
  | none => rw [hrd] at h; cases h
  | some rd =>
    rw [hrd] at h
    obtain ⟨l, hl, h⟩ := List.mem_flatMap.mp h
    unfold leftL at h
    cases hf : frontT rd (rows r l) with
    | none => rw [hf] at h; cases h
    | some a =>
      rw [hf] at h
      simp only at h
      split at h
      · rename_i hll
        rw [List.mem_singleton] at h
        exact ⟨r, rd, l, a, by simpa using hr, hrd, by simpa using hl, hf, hll, h⟩
      · cases h
theorem left_nodup {t : Int} {arr : List (Int × Int)} (hp : RowsP n cs t rows arr) (R : Nat) : (leftT n cs rows R).Nodup := by
  have lf : ∀ rd r l x, x ∈ leftL cs rd (rows r l) → ∃ a ∈ rows r l, x = a.2.1 := fun rd r l x hx => by
    unfold leftL at hx
    cases hf : frontT rd (rows r l) with
    | none => rw [hf] at hx; cases hx
    | some a =>
      rw [hf] at hx
      simp only at hx
      split at hx
      · rw [List.mem_singleton] at hx; exact ⟨a, front_mem hf, hx⟩
      · cases hx
  have lr : ∀ r x, x ∈ leftR n cs rows r (lns n r) → ∃ l, ∃ a ∈ rows r l, x = a.2.1 := fun r x hx => by
    unfold leftR at hx
    cases hrd : n.roads[r]? with
    | none => rw [hrd] at hx; cases hx
    | some rd =>
      rw [hrd] at hx
      obtain ⟨l, _, h⟩ := List.mem_flatMap.mp hx
      obtain ⟨a, h1, h2⟩ := lf rd r l x h
      exact ⟨l, a, h1, h2⟩
  unfold leftT List.Nodup
  rw [List.pairwise_flatMap]
  refine ⟨fun r _ => ?_, ?_⟩
  · unfold leftR
    cases hrd : n.roads[r]? with
    | none => simp
    | some rd =>
      simp only
      rw [List.pairwise_flatMap]
      refine ⟨fun l _ => ?_, ?_⟩
      · unfold leftL
        split
        · split
          · simp
          · simp
        · simp
      · refine List.pairwise_lt_range.imp fun {l m} hlm x hx y hy e => ?_
        obtain ⟨a, a1, a2⟩ := lf rd r l x hx
        obtain ⟨b, b1, b2⟩ := lf rd r m y hy
        have := (hp.part.uniq r l r m a b a1 b1 (by rw [← a2, ← b2, e])).2.1
        omega
  · refine List.pairwise_lt_range.imp fun {r q} hrq x hx y hy e => ?_
    obtain ⟨l, a, a1, a2⟩ := lr r x hx
    obtain ⟨m, b, b1, b2⟩ := lr q y hy
    have := (hp.part.uniq r l q m a b a1 b1 (by rw [← a2, ← b2, e])).1
    omega
end
end C
set_option Elab.async false
set_option linter.all false
set_option maxRecDepth 100000
/-! Behind moving all is sound; entering; the next state. -/
namespace C
open PySem L2 Z
def pairI (p : Int × Int) : List Int := [p.1, p.2]
/-- pairs sorted -/
def srtA (ps : List (Int × Int)) : List (Int × Int) := ps.mergeSort fun a b => decide (TS.code 2097152 (pairI a) ≤ TS.code 2097152 (pairI b))
theorem srtA_perm (ps : List (Int × Int)) : (srtA ps).Perm ps := List.mergeSort_perm ps _
theorem srtA_map (ps : List (Int × Int)) : (srtA ps).map pairI = srtT 2097152 (ps.map pairI) := List.map_mergeSort fun a _ b _ => rfl
theorem srtA_asc {ps : List (Int × Int)} (hb : ∀ p ∈ ps, 0 ≤ p.1 ∧ p.1 < 2097152 ∧ 0 ≤ p.2 ∧ p.2 < 2097152) (hd : (ps.map (·.1)).Nodup) : (srtA ps).Pairwise fun p q => p.1 < q.1 := by
  have hs : (srtA ps).Pairwise fun a b => TS.code 2097152 (pairI a) ≤ TS.code 2097152 (pairI b) := by
    have h := List.pairwise_mergeSort (le := fun a b : Int × Int => decide (TS.code 2097152 (pairI a) ≤ TS.code 2097152 (pairI b))) (fun a b c h1 h2 => by simp at *; omega) (fun a b => by simp; omega) ps
    exact h.imp fun h => by simpa using h
  have hn2 : ((srtA ps).map (·.1)).Nodup := (((srtA_perm ps).map (·.1)).nodup_iff).mpr hd
  have hn3 := List.pairwise_map.mp hn2
  refine List.Pairwise.imp_of_mem (fun {a b} ha hb2 h => ?_) (hs.and hn3)
  obtain ⟨h1, h2⟩ := h
  obtain ⟨a0, a1, a2, a3⟩ := hb a ((srtA_perm ps).mem_iff.mp ha)
  obtain ⟨b0, b1, b2, b3⟩ := hb b ((srtA_perm ps).mem_iff.mp hb2)
  rcases Int.lt_or_gt_of_ne h2 with g | g
  · exact g
  · have ba : TS.Bd 2097152 [a.2] := fun m hm => by rw [List.mem_singleton] at hm; subst hm; exact ⟨a2, a3⟩
    have bb : TS.Bd 2097152 [b.2] := fun m hm => by rw [List.mem_singleton] at hm; subst hm; exact ⟨b2, b3⟩
    have := TS.code_lt (show [b.2].length = [a.2].length from rfl) bb ba g
    simp only [pairI] at h1
    omega
section
variable {n : Net} {cs : List Car} {rows : Nat → Nat → List Row} {t : Int} {arr : List (Int × Int)}
def arrT (n : Net) (cs : List Car) (rows : Nat → Nat → List Row) (t : Int) (arr : List (Int × Int)) : List (Int × Int) := srtA (arr ++ (leftT n cs rows n.roads.length).map fun x => (x, t + 1))
theorem mov_rowsP (h : RowsOk n cs rows) (hp : RowsP n cs t rows arr) (ht : 0 ≤ t ∧ t ≤ 2000000) : RowsP n cs (t + 1) (movT n cs rows (goodT n cs rows t n.cross.length)) (arrT n cs rows t arr) := by
  have hn := h.net
  have hc30 := h.cars.few
  obtain ⟨_, pwt, go⟩ := good_pw h (time := t)
  generalize hG : goodT n cs rows t n.cross.length = good at pwt go
  have gcar : ∀ x ∈ good, ∀ y ∈ good, carO x = carO y → x = y := fun x hx y hy e => by rw [← hG] at hx hy; exact good_car h hp hx hy e
  have keep : ∀ {rd r l a}, keepB cs (good.map carO) rd (rows r l) a = true → a.2.1 ∉ good.map carO ∧ ¬ (frontT rd (rows r l) = some a ∧ lastLeg cs a = true) := fun {rd r l a} hk => by
    simp only [keepB, leavesB, Bool.and_eq_true, Bool.not_eq_true', decide_eq_false_iff_not] at hk
    refine ⟨hk.2, fun z => ?_⟩
    have := hk.1
    simp [z.1, z.2] at this
  have row : ∀ r l b, b ∈ movT n cs rows good r l → RowOk n cs r b ∧ b.2.1 < cs.length := fun r l b hb => by
    rcases new_mem hb with ⟨rd, k, a, hr, ha, hk, rfl⟩ | ⟨it, hit, e1, e2, rfl⟩
    · obtain ⟨ra, rc⟩ := hp.part.row r l a (List.mem_of_getElem? ha)
      have cell : ∀ a ∈ rows r l, a.1 < rd.2.1 := fun a ha => by
        obtain ⟨_, rd', h1, h2⟩ := (hp.part.row r l a ha).1.cell
        rw [hr] at h1; cases h1; exact h2
      obtain ⟨b1, b2, _⟩ := room_b (hp.asc r l) cell ha
      have hw := want_b hn hr ra
      have hl := len_b hw.1 b1
      have := ra.cell.1
      exact ⟨⟨⟨by simp only [moveT]; omega, rd, hr, by simp only [moveT]; omega⟩, ⟨by simp only [moveT]; omega, by simp only [moveT]; omega⟩, ra.car⟩, rc⟩
    · obtain ⟨c, _, g⟩ := go it hit
      obtain ⟨g1, g2, _⟩ := entry_ok h hp g
      rw [e1] at g1
      simp at g1
      exact ⟨g1, by rw [g2]; exact (goer_nat g).2.2.2.2.2.1⟩
  have stayE : ∀ (r l : Nat) (it : It), it ∈ good → toO it = (r : Int) → intoO it = (l : Int) → ∀ b ∈ stayT n cs (good.map carO) rows r l, (entryT n rows it).1 < b.1 := fun r l it hit e1 e2 b hb => by
    obtain ⟨c, _, g⟩ := go it hit
    obtain ⟨_, _, g3⟩ := entry_ok h hp g
    rw [e1, e2] at g3
    simp at g3
    unfold stayT at hb
    cases hr : n.roads[r]? with
    | none => rw [hr] at hb; cases hb
    | some rd =>
      rw [hr] at hb
      obtain ⟨k, a, h1, h2, rfl⟩ := stay_mem hb
      have cell : ∀ a ∈ rows r l, a.1 < rd.2.1 := fun a ha => by
        obtain ⟨_, rd', h1, h2⟩ := (hp.part.row r l a ha).1.cell
        rw [hr] at h1; cases h1; exact h2
      obtain ⟨b1, _, _⟩ := room_b (hp.asc r l) cell h1
      have := (len_b (want_b hn hr (hp.part.row r l a (List.mem_of_getElem? h1)).1).1 b1).1
      have := g3 _ _ _ _ (List.mem_of_getElem? h1)
      simp only [moveT]
      omega
  have cells : ∀ r l, ((newM n cs rows good r l).map (·.1)).Nodup := fun r l => by
    unfold newM
    rw [List.map_append]
    refine List.nodup_append.mpr ⟨?_, ?_, fun x hx y hy e => ?_⟩
    · unfold stayT
      cases hr : n.roads[r]? with
      | none => simp
      | some rd => exact List.pairwise_map.mpr ((stay_pw hn hp hr l _).imp fun h e => by omega)
    · rw [List.map_map]
      refine List.pairwise_map.mpr ?_
      refine List.Pairwise.imp_of_mem (fun {a b} ha hb hab => ?_) (pwt.filter (intoB r l))
      have h1 := (List.mem_filter.mp ha).2
      have h2 := (List.mem_filter.mp hb).2
      simp only [intoB, Bool.and_eq_true, beq_iff_eq] at h1 h2
      exact (hab.elim (fun z => z (by rw [h1.1, h2.1])) (fun z => z (by rw [h1.2, h2.2]))).elim
    · obtain ⟨a, ha, rfl⟩ := List.mem_map.mp hx
      obtain ⟨b, hb, rfl⟩ := List.mem_map.mp hy
      obtain ⟨it, hit, rfl⟩ := List.mem_map.mp hb
      obtain ⟨h1, h2⟩ := List.mem_filter.mp hit
      simp only [intoB, Bool.and_eq_true, beq_iff_eq] at h2
      have := stayE r l it h1 h2.1 h2.2 a ha
      omega
  have cells2 : ∀ r l, ((movT n cs rows good r l).map (·.1)).Nodup := fun r l => (((srtR_perm _).map (·.1)).nodup_iff).mpr (cells r l)
  have uniq : ∀ r l r' l' b b', b ∈ movT n cs rows good r l → b' ∈ movT n cs rows good r' l' → b.2.1 = b'.2.1 → r = r' ∧ l = l' ∧ b = b' := fun r l r' l' b b' hb hb' e => by
    rcases new_mem hb with ⟨rd, k, a, hr, ha, hk, rfl⟩ | ⟨it, hit, e1, e2, rfl⟩
    · rcases new_mem hb' with ⟨rd', k', a', hr', ha', hk', rfl⟩ | ⟨it', hit', e1', e2', rfl⟩
      · obtain ⟨rfl, rfl, rfl⟩ := hp.part.uniq r l r' l' a a' (List.mem_of_getElem? ha) (List.mem_of_getElem? ha') (by simpa [moveT] using e)
        rw [hr] at hr'; cases hr'
        have := pos_uniq (hp.part.cells r l) ha ha'
        subst this
        exact ⟨rfl, rfl, rfl⟩
      · obtain ⟨c, _, g⟩ := go it' hit'
        rw [(entry_ok h hp g).2.1] at e
        exact ((keep hk).1 (List.mem_map.mpr ⟨it', hit', by simpa [moveT] using e.symm⟩)).elim
    · obtain ⟨c, _, g⟩ := go it hit
      rw [(entry_ok h hp g).2.1] at e
      rcases new_mem hb' with ⟨rd', k', a', hr', ha', hk', rfl⟩ | ⟨it', hit', e1', e2', rfl⟩
      · exact ((keep hk').1 (List.mem_map.mpr ⟨it, hit, by simpa [moveT] using e⟩)).elim
      · obtain ⟨d, _, g'⟩ := go it' hit'
        rw [(entry_ok h hp g').2.1] at e
        have := gcar it hit it' hit' e
        subst this
        refine ⟨by omega, by omega, rfl⟩
  have carIn : ∀ r l b, b ∈ movT n cs rows good r l → ∃ r' l' a, a ∈ rows r' l' ∧ a.2.1 = b.2.1 := fun r l b hb => by
    rcases new_mem hb with ⟨rd, k, a, hr, ha, hk, rfl⟩ | ⟨it, hit, e1, e2, rfl⟩
    · exact ⟨r, l, a, List.mem_of_getElem? ha, rfl⟩
    · obtain ⟨c, _, g⟩ := go it hit
      obtain ⟨rd, a, q1, q2, q3⟩ := goer_row g
      exact ⟨_, _, a, front_mem q2, by rw [(entry_ok h hp g).2.1]; exact q3⟩
  have notLeft : ∀ r l b, b ∈ movT n cs rows good r l → b.2.1 ∉ leftT n cs rows n.roads.length := fun r l b hb hx => by
    obtain ⟨r0, rd0, l0, a0, _, hr0, _, hf0, hl0, e0⟩ := left_mem hx
    rcases new_mem hb with ⟨rd, k, a, hr, ha, hk, rfl⟩ | ⟨it, hit, e1, e2, rfl⟩
    · obtain ⟨rfl, rfl, rfl⟩ := hp.part.uniq r l r0 l0 a a0 (List.mem_of_getElem? ha) (front_mem hf0) (by simpa [moveT] using e0)
      rw [hr] at hr0; cases hr0
      exact (keep hk).2 ⟨hf0, hl0⟩
    · obtain ⟨c, _, g⟩ := go it hit
      rw [(entry_ok h hp g).2.1] at e0
      obtain ⟨k, r1, l1, t1, i1, rfl, hk, hr1, hl1, ht1, hi1, rd, a, cr, q1, q2, q3, q4, q5, q6⟩ := g.ok.ex
      simp only [carO] at e0
      obtain ⟨_, _, rfl⟩ := hp.part.uniq r1 l1 r0 l0 a a0 (front_mem q2) (front_mem hf0) (by rw [q3, e0])
      simp only [lastLeg, q3, Int.toNat_natCast, q4, Option.map_some, Option.getD_some, decide_eq_true_eq] at hl0
      have := (List.getElem?_eq_some_iff.mp q6).1
      omega
  have leftIn : ∀ x ∈ leftT n cs rows n.roads.length, ∃ r l a, a ∈ rows r l ∧ a.2.1 = x := fun x hx => by
    obtain ⟨r, rd, l, a, _, _, _, hf, _, e⟩ := left_mem hx
    exact ⟨r, l, a, front_mem hf, e.symm⟩
  have arrB : ∀ p ∈ arr ++ (leftT n cs rows n.roads.length).map (fun x => (x, t + 1)), 0 ≤ p.1 ∧ p.1 < cs.length ∧ 0 ≤ p.2 ∧ p.2 ≤ t + 1 := fun p hp2 => by
    rcases List.mem_append.mp hp2 with hp2 | hp2
    · obtain ⟨h1, h2, h3, h4, _⟩ := hp.part.gone p hp2
      exact ⟨h1, h2, h3, by omega⟩
    · obtain ⟨x, hx, rfl⟩ := List.mem_map.mp hp2
      obtain ⟨r, l, a, h1, h2⟩ := leftIn x hx
      obtain ⟨g1, g2⟩ := hp.part.row r l a h1
      have := g1.car.1
      simp only
      omega
  have arrN : ((arr ++ (leftT n cs rows n.roads.length).map (fun x => (x, t + 1))).map (·.1)).Nodup := by
    rw [List.map_append, List.map_map]
    refine List.nodup_append.mpr ⟨List.pairwise_map.mpr (hp.part.asc.imp fun h e => by omega), ?_, fun x hx y hy e => ?_⟩
    · have : ((fun p : Int × Int => p.1) ∘ fun x : Int => (x, t + 1)) = id := rfl
      rw [this, List.map_id]
      exact left_nodup hp _
    · obtain ⟨p, h1, rfl⟩ := List.mem_map.mp hx
      obtain ⟨z, h2, rfl⟩ := List.mem_map.mp hy
      obtain ⟨r, l, a, g1, g2⟩ := leftIn z h2
      exact (hp.part.gone p h1).2.2.2.2 r l a g1 (by rw [g2]; exact e.symm)
  have carN : ∀ r l, ((movT n cs rows good r l).map fun a => a.2.1).Nodup := fun r l =>
    List.pairwise_map.mpr (List.Pairwise.imp_of_mem (fun {a b} ha hb h e => h (by rw [(uniq r l r l a b ha hb e).2.2])) (List.pairwise_map.mp (cells2 r l)))
  refine ⟨⟨row, fun r l => ?_, cells2, uniq, fun p hp2 => ?_, ?_, ?_⟩, fun r l => ?_, fun r l hl => ?_⟩
  · have := nodup_len cs.length (carN r l) fun x hx => by
      obtain ⟨a, ha, rfl⟩ := List.mem_map.mp hx
      obtain ⟨h1, h2⟩ := row r l a ha
      exact ⟨h1.car.1, h2⟩
    simpa using this
  · have hm := (srtA_perm _).mem_iff.mp hp2
    obtain ⟨h1, h2, h3, h4⟩ := arrB p hm
    refine ⟨h1, h2, h3, h4, fun r l b hb => ?_⟩
    rcases List.mem_append.mp hm with hm | hm
    · obtain ⟨r', l', a, g1, g2⟩ := carIn r l b hb
      rw [← g2]
      exact (hp.part.gone p hm).2.2.2.2 r' l' a g1
    · obtain ⟨x, hx, rfl⟩ := List.mem_map.mp hm
      intro e
      exact notLeft r l b hb (by rw [e]; exact hx)
  · exact srtA_asc (fun p hp2 => by obtain ⟨h1, h2, h3, h4⟩ := arrB p hp2; omega) arrN
  · unfold arrT
    have := nodup_len cs.length arrN fun x hx => by
      obtain ⟨p, hp2, rfl⟩ := List.mem_map.mp hx
      obtain ⟨h1, h2, _⟩ := arrB p hp2
      exact ⟨h1, h2⟩
    rw [(srtA_perm _).length_eq]
    simpa using this
  · exact srtR_asc hn h.cars (fun a ha => (row r l a ((srtR_perm _).mem_iff.mpr ha)).1) (cells r l)
  · rw [List.eq_nil_iff_forall_not_mem]
    intro b hb
    rcases new_mem hb with ⟨rd, k, a, hr, ha, hk, rfl⟩ | ⟨it, hit, e1, e2, rfl⟩
    · rw [hp.emp r l hl] at ha; simp at ha
    · obtain ⟨c, _, g⟩ := go it hit
      obtain ⟨_, _, _, _, _, _, _, g2⟩ := goer_nat g
      rw [e1, e2] at g2
      simp at g2
      omega
end
end C
set_option Elab.async false
set_option linter.all false
set_option maxRecDepth 100000
/-! Entering; the next state is sound. -/
namespace C
open PySem L2 Z
def tmO (cs : List Car) (x : Int) : Int := ((cs[x.toNat]?).map fun c : Car => c.1).getD 0
def headO (cs : List Car) (x : Int) : Int := ((cs[x.toNat]?).bind fun c : Car => c.2.head?).getD (-1)
def dueB (cs : List Car) (time : Int) (r : Int) (x : Int) : Bool := (headO cs x == r) && decide (tmO cs x ≤ time)
def firstF (cs : List Car) (time : Int) (r : Int) (f : Option Int) (x : Int) : Option Int := if dueB cs time r x = true then match f with
  | none => some x
  | some g => if tmO cs x < tmO cs g then some x else some g
  else f
def firstT (cs : List Car) (W : List Int) (time : Int) (r : Int) : Option Int := W.foldl (firstF cs time r) none
def freeB : List Row → Bool
  | [] => true
  | b :: _ => decide (0 < b.1)
def freeLT (lanes : Nat → List Row) (L : Nat) : Option Nat := (List.range L).find? fun l => freeB (lanes l)
def enterT (n : Net) (cs : List Car) (W : List Int) (time : Int) (rows : Nat → Nat → List Row) (r l : Nat) : List Row := match firstT cs W time r, freeLT (rows r) (lns n r) with
  | some x, some m => if l = m then (0, x, 0, 0) :: rows r l else rows r l
  | _, _ => rows r l
def inCars (n : Net) (rows : Nat → Nat → List Row) : List Int := (List.range n.roads.length).flatMap fun r => (List.range (lns n r)).flatMap fun l => (rows r l).map fun a => a.2.1
def outT (n : Net) (cs : List Car) (s : St) : List Int := ((List.range cs.length).filter fun i : Nat => !decide ((i : Int) ∈ inCars n s.rows ++ s.arr.map (·.1))).map fun i : Nat => (i : Int)
def stepS (n : Net) (cs : List Car) (s : St) : St := ⟨s.time + 1, enterT n cs (outT n cs s) s.time (movT n cs (chg n s) (goodT n cs (chg n s) s.time n.cross.length)), arrT n cs (chg n s) s.time s.arr⟩
theorem first_some {cs : List Car} {time r x : Int} : ∀ {W : List Int} {f : Option Int}, W.foldl (firstF cs time r) f = some x → f = some x ∨ (x ∈ W ∧ dueB cs time r x = true)
  | [], f, h => .inl h
  | y :: W, f, h => by
    rcases first_some (W := W) h with h | ⟨h1, h2⟩
    · unfold firstF at h
      split at h
      · rename_i hd
        split at h
        · cases h; exact .inr ⟨List.mem_cons_self, hd⟩
        · split at h
          · cases h; exact .inr ⟨List.mem_cons_self, hd⟩
          · exact .inl h
      · exact .inl h
    · exact .inr ⟨List.mem_cons_of_mem _ h1, h2⟩
theorem outT_mem {n : Net} {cs : List Car} {s : St} {x : Int} (h : x ∈ outT n cs s) : 0 ≤ x ∧ x < cs.length ∧ x ∉ inCars n s.rows ∧ x ∉ s.arr.map (·.1) := by
  obtain ⟨i, hi, rfl⟩ := List.mem_map.mp h
  obtain ⟨h1, h2⟩ := List.mem_filter.mp hi
  simp only [Bool.not_eq_true', decide_eq_false_iff_not, List.mem_append, not_or] at h2
  exact ⟨by omega, by simpa using h1, h2.1, h2.2⟩
section
variable {n : Net} {cs : List Car} {rows : Nat → Nat → List Row} {t : Int} {arr : List (Int × Int)}
theorem in_cars (hp : RowsP n cs t rows arr) {r l : Nat} {a : Row} (ha : a ∈ rows r l) : a.2.1 ∈ inCars n rows := by
  obtain ⟨_, rd, hr, _⟩ := (hp.part.row r l a ha).1.cell
  have hrl := (List.getElem?_eq_some_iff.mp hr).1
  have hll : l < lns n r := by
    rcases Nat.lt_or_ge l (lns n r) with g | g
    · exact g
    · rw [hp.emp r l g] at ha; cases ha
  exact List.mem_flatMap.mpr ⟨r, by simpa using hrl, List.mem_flatMap.mpr ⟨l, by simpa using hll, List.mem_map.mpr ⟨a, ha, rfl⟩⟩⟩
theorem in_cars_of {x : Int} (h : x ∈ inCars n rows) : ∃ r l a, a ∈ rows r l ∧ a.2.1 = x := by
  obtain ⟨r, _, h⟩ := List.mem_flatMap.mp h
  obtain ⟨l, _, h⟩ := List.mem_flatMap.mp h
  obtain ⟨a, h1, h2⟩ := List.mem_map.mp h
  exact ⟨r, l, a, h1, h2⟩
theorem mov_car (h : RowsOk n cs rows) (hp : RowsP n cs t rows arr) {time : Int} {r l : Nat} {b : Row} (hb : b ∈ movT n cs rows (goodT n cs rows time n.cross.length) r l) : ∃ r' l' a, a ∈ rows r' l' ∧ a.2.1 = b.2.1 := by
  rcases new_mem hb with ⟨rd, k, a, hr, ha, hk, rfl⟩ | ⟨it, hit, e1, e2, rfl⟩
  · exact ⟨r, l, a, List.mem_of_getElem? ha, rfl⟩
  · obtain ⟨c, _, g⟩ := (good_pw h (time := time)).2.2 it hit
    obtain ⟨rd, a, q1, q2, q3⟩ := goer_row g
    exact ⟨_, _, a, front_mem q2, by rw [(entry_ok h hp g).2.1]; exact q3⟩
theorem arr_car {x : Int} (h : x ∈ (arrT n cs rows t arr).map (·.1)) : x ∈ arr.map (·.1) ∨ ∃ r l a, a ∈ rows r l ∧ a.2.1 = x := by
  obtain ⟨p, hp, rfl⟩ := List.mem_map.mp h
  rcases List.mem_append.mp ((srtA_perm _).mem_iff.mp hp) with hp | hp
  · exact .inl (List.mem_map.mpr ⟨p, hp, rfl⟩)
  · obtain ⟨x, hx, rfl⟩ := List.mem_map.mp hp
    obtain ⟨r, rd, l, a, _, _, _, hf, _, e⟩ := left_mem hx
    exact .inr ⟨r, l, a, front_mem hf, e.symm⟩
theorem enter_rowsP (hn : n.ok) (hc : CarsOk n cs) (hp : RowsP n cs t rows arr) {W : List Int} {time : Int} (hW : ∀ x ∈ W, 0 ≤ x ∧ x < cs.length ∧ (∀ r l a, a ∈ rows r l → a.2.1 ≠ x) ∧ x ∉ arr.map (·.1)) : RowsP n cs t (enterT n cs W time rows) arr := by
  have mem : ∀ {r l b}, b ∈ enterT n cs W time rows r l → b ∈ rows r l ∨ ∃ x, firstT cs W time r = some x ∧ freeLT (rows r) (lns n r) = some l ∧ b = (0, x, 0, 0) := fun {r l b} hb => by
    unfold enterT at hb
    split at hb
    · rename_i x m h1 h2
      split at hb
      · rename_i e
        subst e
        rcases List.mem_cons.mp hb with hb | hb
        · exact .inr ⟨x, h1, h2, hb⟩
        · exact .inl hb
      · exact .inl hb
    · exact .inl hb
  have car : ∀ {r : Nat} {x}, firstT cs W time r = some x → x ∈ W ∧ headO cs x = (r : Int) := fun {r x} h => by
    rcases first_some h with h | ⟨h1, h2⟩
    · cases h
    · simp only [dueB, Bool.and_eq_true, beq_iff_eq] at h2
      exact ⟨h1, h2.1⟩
  have free : ∀ {r l}, freeLT (rows r) (lns n r) = some l → l < lns n r ∧ ∀ b ∈ rows r l, 0 < b.1 := fun {r l} h => by
    have h1 := List.mem_of_find?_eq_some h
    have h2 := List.find?_some h
    refine ⟨by simpa using h1, fun b hb => ?_⟩
    have hasc := hp.asc r l
    cases hro : rows r l with
    | nil => rw [hro] at hb; cases hb
    | cons c bs =>
      rw [hro] at hb h2 hasc
      simp only [freeB, decide_eq_true_eq] at h2
      rcases List.mem_cons.mp hb with rfl | hb
      · exact h2
      · have := (List.pairwise_cons.mp hasc).1 b hb; omega
  have row : ∀ r l b, b ∈ enterT n cs W time rows r l → RowOk n cs r b ∧ b.2.1 < cs.length := fun r l b hb => by
    rcases mem hb with hb | ⟨x, h1, h2, rfl⟩
    · exact hp.part.row r l b hb
    · obtain ⟨hxW, hh⟩ := car h1
      obtain ⟨x0, x1, _⟩ := hW x hxW
      have hg : cs[x.toNat]? = some (cs[x.toNat]'(by omega)) := by simp
      generalize cs[x.toNat]'(by omega) = c at hg
      have hcm := (hc.car c (List.mem_of_getElem? hg)).2.2
      have hhd : c.2[0]? = some (r : Int) := by
        unfold headO at hh
        rw [hg] at hh
        simp only [Option.bind_some] at hh
        cases hw : c.2 with
        | nil => exact (hcm.some hw).elim
        | cons z zs => rw [hw] at hh; simp at hh; simp [hh]
      obtain ⟨r0, r1⟩ := hcm.road _ (List.mem_of_getElem? hhd)
      have hrd : n.roads[r]? = some (n.roads[r]'(by omega)) := by simp
      obtain ⟨_, _, q3, _⟩ := hn.road _ (List.getElem_mem (show r < n.roads.length by omega))
      exact ⟨⟨⟨by simp, _, hrd, by simp only; omega⟩, ⟨by simp, by simp⟩, ⟨x0, by simp, c, hg, hhd⟩⟩, x1⟩
  have fresh : ∀ {r : Nat} {x}, firstT cs W time r = some x → ∀ r' l' b, b ∈ rows r' l' → b.2.1 ≠ x := fun h => (hW _ (car h).1).2.2.1
  have uniq : ∀ r l r' l' a b, a ∈ enterT n cs W time rows r l → b ∈ enterT n cs W time rows r' l' → a.2.1 = b.2.1 → r = r' ∧ l = l' ∧ a = b := fun r l r' l' a b ha hb e => by
    rcases mem ha with ha | ⟨x, h1, h2, rfl⟩
    · rcases mem hb with hb | ⟨y, g1, g2, rfl⟩
      · exact hp.part.uniq r l r' l' a b ha hb e
      · exact (fresh g1 r l a ha e).elim
    · rcases mem hb with hb | ⟨y, g1, g2, rfl⟩
      · exact (fresh h1 r' l' b hb e.symm).elim
      · have e : x = y := e
        subst e
        have e2 := (car h1).2.symm.trans (car g1).2
        have e3 : r = r' := by omega
        subst e3
        rw [h2] at g2; cases g2
        exact ⟨rfl, rfl, rfl⟩
  have asc : ∀ r l, (enterT n cs W time rows r l).Pairwise fun a b => a.1 < b.1 := fun r l => by
    unfold enterT
    split
    · rename_i x m h1 h2
      split
      · rename_i e
        subst e
        exact List.pairwise_cons.mpr ⟨fun b hb => (free h2).2 b hb, hp.asc r l⟩
      · exact hp.asc r l
    · exact hp.asc r l
  have cells : ∀ r l, ((enterT n cs W time rows r l).map (·.1)).Nodup := fun r l => List.pairwise_map.mpr ((asc r l).imp fun h e => by omega)
  refine ⟨⟨row, fun r l => ?_, cells, uniq, fun p hp2 => ?_, hp.part.asc, hp.part.alen⟩, asc, fun r l hl => ?_⟩
  · have carN : ((enterT n cs W time rows r l).map fun a => a.2.1).Nodup :=
      List.pairwise_map.mpr (List.Pairwise.imp_of_mem (fun {a b} ha hb h e => h (by rw [(uniq r l r l a b ha hb e).2.2])) (List.pairwise_map.mp (cells r l)))
    have := nodup_len cs.length carN fun x hx => by
      obtain ⟨a, ha, rfl⟩ := List.mem_map.mp hx
      obtain ⟨h1, h2⟩ := row r l a ha
      exact ⟨h1.car.1, h2⟩
    simpa using this
  · obtain ⟨h1, h2, h3, h4, h5⟩ := hp.part.gone p hp2
    refine ⟨h1, h2, h3, h4, fun r l b hb => ?_⟩
    rcases mem hb with hb | ⟨x, g1, g2, rfl⟩
    · exact h5 r l b hb
    · exact fun e => (hW x (car g1).1).2.2.2 (List.mem_map.mpr ⟨p, hp2, e.symm⟩)
  · rw [List.eq_nil_iff_forall_not_mem]
    intro b hb
    rcases mem hb with hb | ⟨x, g1, g2, rfl⟩
    · rw [hp.emp r l hl] at hb; cases hb
    · have := (free g2).1; omega
end
/-- a sound state without lanes that are not there -/
structure SoundP (n : Net) (cs : List Car) (s : St) : Prop where
  time : 0 ≤ s.time ∧ s.time ≤ 1999000
  rows : RowsP n cs s.time s.rows s.arr
theorem SoundP.sound {n : Net} {cs : List Car} {s : St} (h : SoundP n cs s) : Sound n cs s := ⟨⟨h.time.1, by have := h.time.2; omega⟩, h.rows.part, h.rows.asc⟩
theorem step_sound {n : Net} (hn : n.ok) {cs : List Car} (hc : CarsOk n cs) {s : St} (hs : SoundP n cs s) (ht : s.time ≤ 1998000) : SoundP n cs (stepS n cs s) := by
  have hch := chg_rowsP hn hc hs.rows
  have hok := hch.ok hn hc
  have hm := mov_rowsP hok hch ⟨hs.time.1, by omega⟩
  refine ⟨⟨by have := hs.time.1; show 0 ≤ s.time + 1; omega, by show s.time + 1 ≤ _; omega⟩, ?_⟩
  refine enter_rowsP hn hc hm fun x hx => ?_
  obtain ⟨x0, x1, x2, x3⟩ := outT_mem hx
  have off : ∀ r l a, a ∈ chg n s r l → a.2.1 ≠ x := fun r l a ha e => by
    obtain ⟨rd, _, j, _, i, h1, _⟩ := chg_mem ha
    exact x2 (e ▸ in_cars hs.rows (List.mem_of_getElem? h1))
  refine ⟨x0, x1, fun r l a ha e => ?_, fun h => ?_⟩
  · obtain ⟨r', l', b, h1, h2⟩ := mov_car hok hch ha
    exact off r' l' b h1 (h2.trans e)
  · rcases arr_car h with h | ⟨r, l, a, h1, h2⟩
    · exact x3 h
    · exact off r l a h1 h2
theorem sound_cut {n : Net} {cs : List Car} {s : St} (hs : Sound n cs s) (ht : s.time ≤ 1000000) : SoundP n cs ⟨s.time, cutRows n s.rows, s.arr⟩ ∧ eSt n ⟨s.time, cutRows n s.rows, s.arr⟩ = eSt n s :=
  ⟨⟨⟨hs.time.1, by show s.time ≤ _; omega⟩, cut_rowsP hs⟩, by simp only [eSt, cut_eRows]⟩
end C
set_option Elab.async false
set_option linter.all false
set_option maxRecDepth 100000
/-! The store while cars are moved. -/
namespace C
open PySem L2 Z
def nb (p : Nat) (L : Nat → Nat) : Nat → Nat
  | 0 => p
  | r + 1 => nb p L r + L r + 1
theorem nb_lt {p : Nat} {L : Nat → Nat} : ∀ {r q : Nat}, r < q → nb p L r + L r + 1 ≤ nb p L q
  | r, 0, h => by omega
  | r, q + 1, h => by
    rcases Nat.lt_or_ge r q with g | g
    · have := nb_lt (p := p) (L := L) g
      simp only [nb]; omega
    · obtain rfl : r = q := by omega
      simp only [nb]; omega
theorem nb_ge {p : Nat} {L : Nat → Nat} : ∀ r, p ≤ nb p L r
  | 0 => Nat.le_refl _
  | r + 1 => by have := nb_ge (p := p) (L := L) r; simp only [nb]; omega
structure Mov (kv : Store) (T : Store) (R : Nat) (L : Nat → Nat) (left : List Int) (ln : Nat → Nat → List Row) : Prop where
  pre : ∀ i, i < kv.length → T[i]? = kv[i]?
  le : T[kv.length]? = some (.lst (left.map .int))
  fo : T[kv.length + 1]? = some (.lst ((List.range R).map fun r => .ref (nb (kv.length + 2) L r)))
  new : ∀ r, r < R → T[nb (kv.length + 2) L r]? = some (.lst ((List.range (L r)).map fun l => .ref (nb (kv.length + 2) L r + 1 + l)))
  lane : ∀ r, r < R → ∀ l, l < L r → T[nb (kv.length + 2) L r + 1 + l]? = some (.lst ((ln r l).map eRow))
  len : T.length = nb (kv.length + 2) L R
section
variable {kv T : Store} {R : Nat} {L : Nat → Nat} {left : List Int} {ln : Nat → Nat → List Row}
theorem Mov.start (kv : Store) (L : Nat → Nat) (ln : Nat → Nat → List Row) : Mov kv (kv ++ [.lst [], .lst []]) 0 L [] ln := by
  refine ⟨fun i hi => by rw [List.getElem?_append_left hi], ?_, ?_, fun r hr => by omega, fun r hr => by omega, by simp [nb]⟩
  · rw [List.getElem?_append_right (Nat.le_refl _)]; simp
  · rw [List.getElem?_append_right (by omega)]; simp
theorem Mov.app (h : Mov kv T R L left ln) {i : Nat} {o : MO} (U : Store) (e : T[i]? = some o) : (T ++ U)[i]? = some o := by
  rw [List.getElem?_append_left (List.getElem?_eq_some_iff.mp e).1]; exact e
theorem Mov.lset (h : Mov kv T R L left ln) (left2 : List Int) : Mov kv (T.set kv.length (.lst (left2.map .int))) R L left2 ln := by
  have g := fun r => nb_ge (p := kv.length + 2) (L := L) r
  have hl := (List.getElem?_eq_some_iff.mp h.le).1
  refine ⟨fun i hi => by rw [List.getElem?_set_ne (by omega)]; exact h.pre i hi, by rw [List.getElem?_set_self hl], by rw [List.getElem?_set_ne (by omega)]; exact h.fo, fun r hr => ?_, fun r hr l hl2 => ?_, by rw [List.length_set]; exact h.len⟩
  · have := g r; rw [List.getElem?_set_ne (by omega)]; exact h.new r hr
  · have := g r; rw [List.getElem?_set_ne (by omega)]; exact h.lane r hr l hl2
/-- a road is done: its list and its lanes stand behind -/
theorem Mov.road (h : Mov kv T R L left ln) : Mov kv ((T ++ .lst ((List.range (L R)).map fun l => .ref (T.length + 1 + l)) :: (List.range (L R)).map fun l => MO.lst ((ln R l).map eRow)).set (kv.length + 1) (.lst ((List.range (R + 1)).map fun r => .ref (nb (kv.length + 2) L r)))) (R + 1) L left ln := by
  have g := fun r => nb_ge (p := kv.length + 2) (L := L) r
  have hl := h.len
  have gR := g R
  generalize hU : (MO.lst ((List.range (L R)).map fun l => .ref (T.length + 1 + l)) :: (List.range (L R)).map fun l => MO.lst ((ln R l).map eRow)) = U
  have hUl : U.length = L R + 1 := by rw [← hU]; simp
  have old : ∀ {i : Nat} {o : MO}, i ≠ kv.length + 1 → T[i]? = some o → ((T ++ U).set (kv.length + 1) (.lst ((List.range (R + 1)).map fun r => .ref (nb (kv.length + 2) L r))))[i]? = some o := fun {i o} hi e => by
    rw [List.getElem?_set_ne (Ne.symm hi), List.getElem?_append_left (List.getElem?_eq_some_iff.mp e).1]; exact e
  have fol := (List.getElem?_eq_some_iff.mp h.fo).1
  refine ⟨fun i hi => ?_, old (by omega) h.le, ?_, fun r hr => ?_, fun r hr l hl2 => ?_, ?_⟩
  · rw [List.getElem?_set_ne (by omega), List.getElem?_append_left (by omega)]; exact h.pre i hi
  · rw [List.getElem?_set_self (by simp; omega)]
  · have := g r
    rcases Nat.lt_or_ge r R with q | q
    · exact old (by omega) (h.new r q)
    · obtain rfl : r = R := by omega
      rw [List.getElem?_set_ne (by omega), List.getElem?_append_right (by omega), ← hl, ← hU]
      simp
  · have := g r
    rcases Nat.lt_or_ge r R with q | q
    · exact old (by omega) (h.lane r q l hl2)
    · obtain rfl : r = R := by omega
      rw [List.getElem?_set_ne (by omega), List.getElem?_append_right (by omega), ← hU]
      have e : nb (kv.length + 2) L r + 1 + l - T.length = l + 1 := by omega
      rw [e]
      simp [hl2]
  · simp only [List.length_set, List.length_append, hUl, nb]; omega
/-- a lane gets one more -/
theorem Mov.put (h : Mov kv T R L left ln) {r l : Nat} (hr : r < R) (hl : l < L r) (v : List Row) : Mov kv (T.set (nb (kv.length + 2) L r + 1 + l) (.lst (v.map eRow))) R L left (putL2 ln r l v) := by
  have g := fun r => nb_ge (p := kv.length + 2) (L := L) r
  have gr := g r
  refine ⟨fun i hi => by rw [List.getElem?_set_ne (by omega)]; exact h.pre i hi, by rw [List.getElem?_set_ne (by omega)]; exact h.le, by rw [List.getElem?_set_ne (by omega)]; exact h.fo, fun q hq => ?_, fun q hq m hm => ?_, by rw [List.length_set]; exact h.len⟩
  · rw [List.getElem?_set_ne ?_]
    · exact h.new q hq
    · rcases Nat.lt_trichotomy r q with e | e | e
      · have := nb_lt (p := kv.length + 2) (L := L) e; omega
      · subst e; omega
      · have := nb_lt (p := kv.length + 2) (L := L) e; omega
  · by_cases e : q = r ∧ m = l
    · obtain ⟨rfl, rfl⟩ := e
      rw [List.getElem?_set_self (List.getElem?_eq_some_iff.mp (h.lane q hq m hm)).1]
      simp [putL2]
    · rw [List.getElem?_set_ne ?_]
      · simp only [putL2, if_neg e]; exact h.lane q hq m hm
      · rcases Nat.lt_trichotomy r q with e2 | e2 | e2
        · have := nb_lt (p := kv.length + 2) (L := L) e2; omega
        · subst e2; intro z; exact e ⟨rfl, by omega⟩
        · have := nb_lt (p := kv.length + 2) (L := L) e2; omega
end
theorem Mov.congr {kv T : Store} {R : Nat} {L : Nat → Nat} {left : List Int} {ln ln' : Nat → Nat → List Row} (h : Mov kv T R L left ln) (e : ∀ r l, ln r l = ln' r l) : Mov kv T R L left ln' := by
  have : ln = ln' := funext fun r => funext fun l => e r l
  exact this ▸ h
/-- lanes behind the entries of some -/
def entL (n : Net) (rows : Nat → Nat → List Row) (base : Nat → Nat → List Row) (g : List It) (r l : Nat) : List Row := base r l ++ (g.filter (intoB r l)).map (entryT n rows)
theorem entL_snoc (n : Net) (rows base : Nat → Nat → List Row) (g : List It) {it : It} {t i : Nat} (h1 : toO it = (t : Int)) (h2 : intoO it = (i : Int)) (r l : Nat) : putL2 (entL n rows base g) t i (entL n rows base g t i ++ [entryT n rows it]) r l = entL n rows base (g ++ [it]) r l := by
  unfold putL2 entL
  rw [List.filter_append, List.map_append]
  by_cases e : r = t ∧ l = i
  · obtain ⟨rfl, rfl⟩ := e
    have : intoB r l it = true := by simp [intoB, h1, h2]
    simp [this]
  · rw [if_neg e]
    have : intoB r l it = false := by
      simp only [intoB, h1, h2, Bool.and_eq_false_iff, beq_eq_false_iff_ne, ne_eq]
      by_cases e1 : r = t
      · right; intro z; exact e ⟨e1, by omega⟩
      · left; omega
    simp [this]
/-- one row of a lane more -/
theorem stayL_take {cs : List Car} {th : List Int} {rd : Road} {rs : List Row} {k : Nat} {a : Row} (h : rs[k]? = some a) :
    ((rs.zipIdx.take (k + 1)).filterMap fun p => if keepB cs th rd rs p.1 = true then some (moveT rd rs p.2 p.1) else none) = ((rs.zipIdx.take k).filterMap fun p => if keepB cs th rd rs p.1 = true then some (moveT rd rs p.2 p.1) else none) ++ (if keepB cs th rd rs a = true then [moveT rd rs k a] else []) := by
  have hz : rs.zipIdx[k]? = some (a, k) := by rw [List.getElem?_zipIdx, h]; simp
  rw [List.take_add_one, hz, List.filterMap_append]
  congr 1
  simp
  split <;> simp_all
end C
set_option Elab.async false
set_option linter.all false
set_option maxRecDepth 100000
/-! The small functions. -/
namespace C
open PySem L2 Z
theorem car_of {n : Net} {cs : List Car} (hc : CarsOk n cs) {x : Int} (h0 : 0 ≤ x) (h1 : x < cs.length) : ∃ (i : Nat) (c : Car) (h : Int) (tl : List Int), x = (i : Int) ∧ cs[i]? = some c ∧ c.2 = h :: tl ∧ headO cs x = h ∧ tmO cs x = c.1 := by
  obtain ⟨i, rfl⟩ := Int.eq_ofNat_of_zero_le h0
  have hg : cs[i]? = some (cs[i]'(by omega)) := by simp
  generalize cs[i]'(by omega) = c at hg
  have hw := (hc.car c (List.mem_of_getElem? hg)).2.2.some
  cases hcw : c.2 with
  | nil => exact (hw hcw).elim
  | cons h tl => exact ⟨i, c, h, tl, rfl, hg, hcw, by simp [headO, hg, hcw], by simp [tmO, hg]⟩
theorem first_w {n : Net} {cs : List Car} (hc : CarsOk n cs) {W : List Int} (hW : ∀ x ∈ W, 0 ≤ x ∧ x < cs.length) {time : Int} {r : Nat} {S : Store} {Q : D → Store → Prop} (q : Q (eIO (firstT cs W time r)) S) :
    wp (callF 0 f_first_outside [eCars cs, .lst (W.map .int), .int time, .int (r : Nat)]) S Q := by
  refine wp_call0 (by simp [nrs]) ?_
  unfold f_first_outside b_first_outside
  have eC : ∀ S : Store, asSq S (eCars cs) = some (cs.map eCar) := fun S => by simp [eCars]
  simp [-aft_nx, startD_eq]
  rw [aft_nx]
  simp [-aft_nx]
  refine forL_map (fun i ρ T => T = [] ∧ ∃ a, ρ = [some (eCars cs), some (.lst (W.map .int)), some (.int time), some (.int (r : Nat)), some (eIO ((W.take i).foldl (firstF cs time r) none)), a]) .int W ⟨rfl, _, rfl⟩ ?_ ?_
  · rintro i x ρ T hx ⟨rfl, a, rfl⟩
    obtain ⟨x0, x1⟩ := hW x (List.mem_of_getElem? hx)
    obtain ⟨k, c, h, tl, rfl, hg, hcw, hh, ht⟩ := car_of hc x0 x1
    have htk : W.take (i + 1) = W.take i ++ [(k : Int)] := by rw [List.take_add_one, hx]; rfl
    rw [htk, List.foldl_append]
    have hcur : ∀ y, (W.take i).foldl (firstF cs time r) none = some y → 0 ≤ y ∧ y < cs.length := fun y hy => by
      rcases first_some hy with h | ⟨h, _⟩
      · cases h
      · exact hW y (List.mem_of_mem_take h)
    generalize (W.take i).foldl (firstF cs time r) none = f at hcur
    simp only [List.foldl_cons, List.foldl_nil]
    unfold firstF dueB
    rw [hh, ht]
    refine ⟨rfl, _, rfl, ?_⟩
    simp [-aft_nx, eC, Z.atI_nat, hg, eCar, eIs, hcw]
    by_cases c1 : h = (r : Int)
    · by_cases c2 : c.1 ≤ time
      · have c2' : ¬ time < c.1 := by omega
        cases f with
        | none => simp [c1, c2, c2', eIO]
        | some y =>
          obtain ⟨y0, y1⟩ := hcur y rfl
          obtain ⟨k', c', h', tl', rfl, hg', hcw', hh', ht'⟩ := car_of hc y0 y1
          simp [c1, c2, c2', eIO, eC, Z.atI_nat, hg', eCar, hg, ht']
          by_cases c3 : c.1 < c'.1
          · have c3' : ¬ c'.1 ≤ c.1 := by omega
            simp [c3, c3', ht']
          · have c3' : c'.1 ≤ c.1 := by omega
            simp [c3, c3', ht']
      · have c2' : time < c.1 := by omega
        simp [c1, c2, c2']
    · simp [c1]
  · rintro ρ T ⟨rfl, a, rfl⟩
    rw [List.take_length]
    have hn : nr (eIO (firstT cs W time r)) = true := by cases firstT cs W time r <;> simp [eIO]
    have e : W.foldl (firstF cs time r) none = firstT cs W time r := rfl
    rw [e]
    simp [hn]
    exact q
def eNO : Option Nat → D
  | none => .non
  | some i => .int (i : Nat)
theorem free_lane_w {L : Nat} {lanes : Nat → List Row} {S : Store} {Q : D → Store → Prop} (q : Q (eNO (freeLT lanes L)) S) : wp (callF 0 f_free_lane [eLanes L lanes]) S Q := by
  refine wp_call0 (by simp [nrs]) ?_
  unfold f_free_lane b_free_lane
  simp [-aft_nx, startD_eq, eLanes]
  rw [enum_range]
  refine forL_map (fun i ρ T => T = [] ∧ (∀ l, l < i → freeB (lanes l) = false) ∧ ∃ a b, ρ = [some (eLanes L lanes), a, b]) _ _ ⟨rfl, by simp, by simp [eLanes]⟩ ?_ ?_
  · rintro i l ρ T hl ⟨rfl, hb, a, b, rfl⟩
    have hlL := (List.getElem?_eq_some_iff.mp hl).1
    simp at hlL
    simp [hlL] at hl
    subst hl
    have found : freeB (lanes i) = true → freeLT lanes L = some i := fun h => by
      unfold freeLT
      rw [List.find?_eq_some_iff_getElem]
      exact ⟨h, i, by simpa using hlL, by simp, fun j hj => by simp [hb j hj]⟩
    have more : freeB (lanes i) = false → ∀ l, l < i + 1 → freeB (lanes l) = false := fun h l hl => by
      rcases Nat.lt_or_ge l i with g | g
      · exact hb l g
      · have : l = i := by omega
        subst this; exact h
    refine ⟨by simp [eLanes], _, rfl, ?_⟩
    cases hro : lanes i with
    | nil =>
      have := found (by rw [hro]; rfl)
      rw [this] at q
      simp [eLane]
      exact q
    | cons b bs =>
      by_cases c : 0 < b.1
      · have := found (by rw [hro]; simpa [freeB] using c)
        rw [this] at q
        simp [eLane, eRow_eq, c]
        exact q
      · have := more (by rw [hro]; simpa [freeB] using c)
        have c' : b.1 ≤ 0 := by omega
        simp [eLane, eRow_eq, c, c']
        exact this
  · rintro ρ T ⟨rfl, hb, a, b, rfl⟩
    have : freeLT lanes L = none := by
      unfold freeLT
      rw [List.find?_eq_none]
      intro l hl
      simp [hb l (by simpa using hl)]
    rw [this] at q
    simp [eLanes]
    exact q
theorem flat1 {α β : Type} (f : α → β) : ∀ l : List α, (l.flatMap fun a => [f a]) = l.map f
  | [] => rfl
  | a :: l => by simp [flat1 f l]
theorem all_cars_w {n : Net} {s : St} (hl : (inCars n s.rows).length ≤ 1000) {S : Store} {Q : D → Store → Prop} (q : Q (.lst ((inCars n s.rows).map .int)) S) : wp (callF 0 f_all_cars [eSt n s]) S Q := by
  refine wp_call0 (by simp [nrs]) ?_
  unfold f_all_cars b_all_cars
  simp [startD_eq, eSt, eRows]
  refine lcLL_all _ (fun r => (List.range (lns n r)).flatMap fun l => (s.rows r l).map fun a => .int a.2.1) _ rfl (fun r hr => ?_) ?_
  · simp
    refine lcLL_all _ (fun l => (s.rows r l).map fun a => .int a.2.1) _ rfl (fun l hl => ?_) ⟨rfl, rfl⟩
    simp
    refine lcLL_all eRow (fun a => [.int a.2.1]) _ rfl (fun a ha => ?_) ?_
    · simp [eRow_eq]
    · rw [flat1]; exact ⟨rfl, rfl⟩
  · have e : ((List.range n.roads.length).flatMap fun r => (List.range (lns n r)).flatMap fun l => (s.rows r l).map fun a => D.int a.2.1) = (inCars n s.rows).map .int := by
      simp [inCars, List.map_flatMap, Function.comp_def]
    rw [e]
    simp [lim]
    exact ⟨by omega, q⟩
theorem inCars_len {n : Net} {cs : List Car} {s : St} (hs : SoundP n cs s) (hn : n.ok) (hc : CarsOk n cs) : (inCars n s.rows).length ≤ 1000 := by
  have hcars := hc.few
  have hf := hn.few
  have h1 : ∀ r, ((List.range (lns n r)).flatMap fun l => (s.rows r l).map fun a => a.2.1).length ≤ 3 * 20 := fun r => by
    have hL := lns_le hn r
    have hlen : ∀ l, (s.rows r l).length ≤ 20 := fun l => by
      cases hr : n.roads[r]? with
      | none =>
        have : s.rows r l = [] := List.eq_nil_iff_forall_not_mem.mpr fun a ha => by
          obtain ⟨_, rd, h1, _⟩ := (hs.rows.part.row r l a ha).1.cell
          rw [hr] at h1; cases h1
        simp [this]
      | some rd =>
        obtain ⟨_, _, _, q4, _⟩ := hn.road rd (List.mem_of_getElem? hr)
        refine asc_len (b := 0) (hs.rows.asc r l) fun a ha => ?_
        obtain ⟨⟨c0, rd', h1, c1⟩, _⟩ := (hs.rows.part.row r l a ha).1
        rw [hr] at h1; cases h1
        omega
    suffices h : ∀ L, ((List.range L).flatMap fun l => (s.rows r l).map fun a => a.2.1).length ≤ L * 20 by
      have := h (lns n r); omega
    intro L
    induction L with
    | zero => simp
    | succ L ih =>
      rw [List.range_succ, List.flatMap_append, List.length_append]
      have := hlen L
      simp only [List.flatMap_cons, List.flatMap_nil, List.append_nil, List.length_map]
      omega
  unfold inCars
  suffices h : ∀ R, ((List.range R).flatMap fun r => (List.range (lns n r)).flatMap fun l => (s.rows r l).map fun a => a.2.1).length ≤ R * 60 by
    have := h n.roads.length; omega
  intro R
  induction R with
  | zero => simp
  | succ R ih =>
    rw [List.range_succ, List.flatMap_append, List.length_append]
    have := h1 R
    simp only [List.flatMap_cons, List.flatMap_nil, List.append_nil]
    omega
theorem outside_w {n : Net} {cs : List Car} {s : St} (hn : n.ok) (hc : CarsOk n cs) (hs : SoundP n cs s) {S : Store} {Q : D → Store → Prop} (q : Q (.lst ((outT n cs s).map .int)) S) : wp (callF 0 f_outside [eCars cs, eSt n s]) S Q := by
  have hil := inCars_len hs hn hc
  have hcars := hc.few
  have hal := hs.rows.part.alen
  refine wp_call0 (by simp [nrs]) ?_
  unfold f_outside b_outside
  have eC : ∀ S : Store, asSq S (eCars cs) = some (cs.map eCar) := fun S => by simp [eCars]
  have eS : ∀ S : Store, asSq S (eSt n s) = some [.int s.time, eRows n.roads.length (lns n) s.rows, .tup (s.arr.map eArr)] := fun S => by simp [eSt]
  simp [-aft_nx, startD_eq]
  refine all_cars_w hil ?_
  simp [-aft_nx, eS]
  refine lcL_all eArr (fun p => .int p.1) _ rfl (fun p hp => by simp [eArr]) ?_
  simp [-aft_nx, lim]
  refine ⟨by omega, ?_⟩
  refine wp_dAddL (asL_lst.mpr rfl) (asL_lst.mpr rfl) (by simp [lim]; omega) ?_
  rw [aft_nx]
  have e : (inCars n s.rows).map D.int ++ (s.arr.map fun p => D.int p.1) = (inCars n s.rows ++ s.arr.map (·.1)).map .int := by simp
  rw [e]
  simp [-aft_nx, eC, okR]
  refine ⟨by omega, ?_⟩
  rw [rngD0]
  refine lcL_pure _ (fun i : Nat => !decide ((i : Int) ∈ inCars n s.rows ++ s.arr.map (·.1))) (fun i => .int (i : Nat)) _ rfl ?_ ?_
  · intro i hi
    simp
    refine wp_dInS (xs := inCars n s.rows ++ s.arr.map (·.1)) (asSq_lst.mpr (by simp)) ?_
    simp
    by_cases h1 : (i : Int) ∈ inCars n s.rows
    · exact .inl (.inl h1)
    · by_cases h2 : ∃ x, ((i : Int), x) ∈ s.arr
      · exact .inl (.inr h2)
      · exact .inr ⟨h1, fun x hx => h2 ⟨x, hx⟩⟩
  · have e2 : ((List.range cs.length).filter fun i : Nat => !decide ((i : Int) ∈ inCars n s.rows ++ s.arr.map (·.1))).map (fun i : Nat => D.int (i : Nat)) = (outT n cs s).map .int := by simp [outT]
    rw [e2]
    have : (outT n cs s).length ≤ 30 := by
      unfold outT
      rw [List.length_map]
      exact Nat.le_trans (List.length_filter_le _ _) (by simpa using hcars)
    simp [lim]
    exact ⟨by omega, q⟩
theorem minC_sub {x y : Int} : minC (x - 1) (y - 1) = if x < y then x - 1 else y - 1 := by
  unfold minC
  by_cases h : x < y
  · rw [if_pos h, if_pos (by omega)]
  · rw [if_neg h, if_neg (by omega)]
theorem entry_w {n : Net} {cs : List Car} {rows : Nat → Nat → List Row} (h : RowsOk n cs rows) {c : Nat} {it : It} (g : Goer n cs rows c it) {S : Store} {Q : D → Store → Prop} (q : Q (eRow (entryT n rows it)) S) :
    wp (callF 0 f_entry [eNet n, eRows n.roads.length (lns n) rows, tupI it]) S Q := by
  have hn := h.net
  obtain ⟨k, r, l, t, i, rfl, hk, hr, hl, ht, hi, rd, a, cr, h1, h2, h3, h4, h5, h6⟩ := g.ok.ex
  have hrt : n.roads[t]? = some n.roads[t] := by simp [ht]
  generalize n.roads[t] = rt at hrt
  obtain ⟨f1, f2⟩ := front_last h2
  have eN : ∀ S : Store, asSq S (eNet n) = some [.tup (n.roads.map eRoad), .tup (n.cross.map eCr)] := fun S => by simp [eNet]
  obtain ⟨bt, hbt⟩ : ∃ bt, rows r l = bt ++ [a] := List.getLast?_eq_some_iff.mp f1
  have e1 : atI (List.map eRow (rows r l)) (-1) = some (eRow a) := by rw [hbt]; simp; exact atI_last
  simp only [entryT, roadO, laneO, toO, intoO, carO, Int.toNat_natCast, h1, hrt, f1] at q
  refine wp_call0 (by simp [nrs]) ?_
  unfold f_entry b_entry
  have ht2 : (tupI [(k : Int), (r : Int), (l : Int), (t : Int), (i : Int)]) = .tup [.int k, .int r, .int l, .int t, .int i] := rfl
  simp [-aft_nx, startD_eq, ht2, setAll, Tg.put]
  rw [aft_nx]
  simp [-aft_nx, eRows, Z.atI_nat, hr, hl, e1]
  rw [aft_nx]
  simp [-aft_nx, eN, Z.atI_nat, h1, eRoad, eRow_eq]
  rw [aft_nx]
  simp [-aft_nx, eN, Z.atI_nat, hrt, eRoad]
  rw [aft_nx]
  simp [-aft_nx, Z.atI_nat, ht, hi]
  have fin : ∀ f : Int, f = freeT rt (rows t i) → True := fun _ _ => trivial
  clear fin
  cases hro : rows t i with
  | nil =>
    rw [hro] at q
    simp [-aft_nx]
    rw [aft_nx]
    simp [-aft_nx]
    refine want_w (.inl rfl) h1 ?_
    simp [eRow_eq]
    simpa [freeT, eRow_eq, minC_sub] using q
  | cons b bs =>
    obtain ⟨b1, b2, b3, b4⟩ := b
    rw [hro] at q
    simp [-aft_nx, Z.atI_nat, ht, hi, hro, eRow_eq]
    refine ⟨_, ⟨b1, b2, b3, b4, ⟨rfl, rfl, rfl, rfl⟩, rfl⟩, ?_⟩
    simp [-aft_nx]
    rw [aft_nx]
    simp [-aft_nx]
    rw [← eRow_eq]
    refine want_w (.inl rfl) h1 ?_
    simp [eRow_eq]
    simpa [freeT, eRow_eq, minC_sub] using q
end C
set_option Elab.async false
set_option linter.all false
set_option maxRecDepth 100000
/-! The program's moved. -/
namespace Z
open PySem L2
theorem dec_toP4 {a b c d a' b' c' d' : Int} : PyData.eqv (toP (.tup [.int a, .int b, .int c, .int d])) (toP (.tup [.int a', .int b', .int c', .int d'])) = ((a == a') && ((b == b') && ((c == c') && (d == d')))) := by simp [toP, toPs, PyData.eqv, PyData.eqvAll]
theorem val_isSome {κ : Type} [DecidableEq κ] (k : κ) : ∀ (ks : List κ) (kvs : List (κ × D)) (v : D), (valD (ks.foldl (fun acc x => putD acc x v) kvs) k).isSome = ((valD kvs k).isSome || decide (k ∈ ks))
  | [], kvs, v => by simp
  | x :: ks, kvs, v => by
    rw [List.foldl_cons, val_isSome k ks]
    have hput : (valD (putD kvs x v) k).isSome = ((valD kvs k).isSome || decide (k = x)) := by
      have any_of : ∀ (l : List (κ × D)) (y : κ), (valD l y).isSome = l.any fun kv => decide (kv.1 = y) := fun l y => by
        unfold valD
        rw [Option.isSome_map]
        induction l with
        | nil => rfl
        | cons p l ih =>
          simp only [List.find?_cons, List.any_cons]
          cases hpy : decide (p.1 = y) with
          | true => simp
          | false => simpa using ih
      rw [any_of, any_of]
      unfold putD
      split
      · rename_i h
        rw [List.any_map]
        have e : (kvs.any ((fun kv : κ × D => decide (kv.1 = k)) ∘ fun kv => if kv.1 = x then (kv.1, v) else kv)) = kvs.any fun kv => decide (kv.1 = k) := by
          congr 1
          funext kv
          simp only [Function.comp]
          split <;> rfl
        rw [e]
        by_cases ex : k = x
        · subst ex; simp [h]
        · simp [ex]
      · simp only [List.any_append, List.any_cons, List.any_nil, Bool.or_false]
        by_cases ex : k = x
        · subst ex; simp
        · have : ¬ x = k := fun z => ex z.symm
          simp [ex, this]
    rw [hput]
    by_cases ex : k = x
    · subst ex; simp
    · simp [ex]
end Z
namespace C
open PySem L2 Z
theorem fit_row {a : Row} : fit 60 (eRow a) = true := by simp [eRow_eq, fit]
theorem eqD_row {S : Store} {a : Row} {o : Option Row} : eqD S (eRow a) (eOpt o) = some (decide (o = some a)) := by
  cases o with
  | none =>
    rw [eqD_see (rs_fit fit_row) (rs_fit (m := 60) (by simp [eOpt])) fit_row (by simp [eOpt])]
    simp [eOpt, eRow_eq, toP, PyData.eqv]
  | some b =>
    have hb : eOpt (some b) = eRow b := rfl
    rw [hb, eqD_see (rs_fit fit_row) (rs_fit fit_row) fit_row fit_row, eRow_eq, eRow_eq, dec_toP4]
    congr 1
    rw [Bool.eq_iff_iff]
    simp only [Bool.and_eq_true, beq_iff_eq, decide_eq_true_eq, Option.some.injEq]
    obtain ⟨a1, a2, a3, a4⟩ := a
    obtain ⟨b1, b2, b3, b4⟩ := b
    simp only [Prod.mk.injEq]
    constructor
    · rintro ⟨h1, h2, h3, h4⟩; exact ⟨h1.symm, h2.symm, h3.symm, h4.symm⟩
    · rintro ⟨h1, h2, h3, h4⟩; exact ⟨h1.symm, h2.symm, h3.symm, h4.symm⟩
theorem last_flat {cs : List Car} {rd : Road} : ∀ {rs : List Row}, (rs.map (·.1)).Nodup → (rs.flatMap fun a => if leavesB cs rd rs a = true then [a.2.1] else []) = leftL cs rd rs := by
  intro rs hd
  have hn : rs.Nodup := (List.pairwise_map.mp hd).imp fun h e => h (by rw [e])
  unfold leftL
  cases hf : frontT rd rs with
  | none =>
    simp only
    rw [List.flatMap_eq_nil_iff]
    intro a _
    simp [leavesB, hf]
  | some b =>
    simp only
    obtain ⟨f1, _⟩ := front_last hf
    obtain ⟨bt, rfl⟩ := List.getLast?_eq_some_iff.mp f1
    rw [List.nodup_append] at hn
    have hb : b ∉ bt := fun z => hn.2.2 b z b (by simp) rfl
    rw [List.flatMap_append]
    have e1 : (bt.flatMap fun a => if leavesB cs rd (bt ++ [b]) a = true then [a.2.1] else []) = [] := by
      rw [List.flatMap_eq_nil_iff]
      intro a ha
      have : leavesB cs rd (bt ++ [b]) a = false := by
        simp only [leavesB, hf, Bool.and_eq_false_iff, decide_eq_false_iff_not]
        left
        intro e; cases e; exact hb ha
      simp [this]
    rw [e1]
    simp [leavesB, hf]
def partS (cs : List Car) (th : List Int) (rd : Road) (rs : List Row) (k : Nat) : List Row := (rs.zipIdx.take k).filterMap fun p => if keepB cs th rd rs p.1 = true then some (moveT rd rs p.2 p.1) else none
theorem partS_end {cs : List Car} {th : List Int} {rd : Road} {rs : List Row} : partS cs th rd rs rs.length = stayL cs th rd rs := by
  unfold partS stayL
  rw [List.take_of_length_le (by simp)]
def partF (cs : List Car) (rd : Road) (rs : List Row) (k : Nat) : List Int := (rs.take k).flatMap fun a => if leavesB cs rd rs a = true then [a.2.1] else []
theorem partF_len {cs : List Car} {rd : Road} {rs : List Row} (k : Nat) : (partF cs rd rs k).length ≤ rs.length := by
  unfold partF
  have h : ∀ l : List Row, (l.flatMap fun a => if leavesB cs rd rs a = true then [a.2.1] else []).length ≤ l.length := by
    intro l
    induction l with
    | nil => simp
    | cons a l ih =>
      simp only [List.flatMap_cons, List.length_append, List.length_cons]
      split
      · simp only [List.length_cons, List.length_nil]; omega
      · simp only [List.length_nil]; omega
  exact Nat.le_trans (h _) (by rw [List.length_take]; omega)
theorem partS_len {cs : List Car} {th : List Int} {rd : Road} {rs : List Row} (k : Nat) : (partS cs th rd rs k).length ≤ rs.length := by
  unfold partS
  refine Nat.le_trans (List.length_filterMap_le _ _) ?_
  rw [List.length_take]
  simp
  omega
theorem room_w2 {f : List D → M D} (hf : f = f_room_in ∨ f = f_room_in) {rs : List Row} {k : Nat} {a : Row} (ha : rs[k]? = some a) {cells : Int} {S : Store} {Q : D → Store → Prop} (q : Q (.int (roomT rs k a cells)) S) : wp (callF 0 f [eLane rs, .int (k : Nat), .int cells]) S Q := room_w hf ha q
end C
set_option Elab.async false
set_option linter.all false
set_option maxRecDepth 100000
/-! The program's moved, walked. -/
namespace C
open PySem L2 Z
section
variable {n : Net} {cs : List Car} {rows : Nat → Nat → List Row}
theorem car_way (h : RowsOk n cs rows) {r : Nat} (hr : r < n.roads.length) {l : Nat} {a : Row} (ha : a ∈ rows r l) : ∃ (k : Nat) (c : Car), a.2.1 = (k : Int) ∧ cs[k]? = some c ∧ ((a.2.2.2 + 1 = (c.2.length : Int)) ↔ lastLeg cs a = true) := by
  obtain ⟨k0, _, c, hc, _⟩ := (h.row r hr l a ha).car
  obtain ⟨k, hk⟩ := Int.eq_ofNat_of_zero_le k0
  rw [hk] at hc
  simp at hc
  exact ⟨k, c, hk, hc, by simp [lastLeg, hk, hc]⟩
theorem moved_rows_w (h : RowsOk n cs rows) {r : Nat} {rd : Road} (hr : n.roads[r]? = some rd) {l : Nat} (hlen : (rows r l).length ≤ 20) (hnd : ((rows r l).map (·.1)).Nodup) {kvs : List (Key × D)} {th : List Int} (hth : ∀ x : Int, (valD kvs (.inl x)).isSome = decide (x ∈ th))
    {T0 : Store} {R : Nat} {L : Nat → Nat} {lf : List Int} {ln : Nat → Nat → List Row} (hlf : lf.length ≤ 1000) (hM : Mov [.dct kvs] T0 R L lf ln) {U : Store} {time : D} {x7 x8 x9 x12 : Option D} {lanes : D} {Q : Out → Store → Prop} {a16 a17 a18 : Option D}
    (q : ∀ (T1 : Store) (b16 b17 b18 : Option D), Mov [.dct kvs] T1 R L (lf ++ leftL cs rd (rows r l)) ln → T1.length = T0.length →
      Q (.nx [some (eNet n), some (eCars cs), some time, some (eRows n.roads.length (lns n) rows), some (.ref 0), some (.ref 1), some (.ref 2), x7, x8, x9, some (.int (r : Nat)), some lanes, x12, some (eLane (rows r l)), some (.ref (T0.length + U.length)), some (eOpt (frontT rd (rows r l))), b16, b17, b18]) (T1 ++ (U ++ [.lst ((stayL cs th rd (rows r l)).map eRow)]))) :
    wps (mFor (.tp [16, 17]) (mItE (mVar 13)) (mIfS (mAnd (mB (mOp dEq (mVar 17) (mVar 15))) (mB (mOp dEq (mOp dAdd (mOp dIx (mVar 17) (mC (.int 3))) (mC (.int 1))) (mCB cLen (mCons (mOp dIx (mOp dIx (mVar 1) (mOp dIx (mVar 17) (mC (.int 1)))) (mC (.int 1))) mNil))))) (mDrop (mMth lApp (mVar 5) (mCons (mOp dIx (mVar 17) (mC (.int 1))) mNil))) (mIfS (mB (mDIn true (mOp dIx (mVar 17) (mC (.int 1))) (mVar 4))) (mSeq (mSet 18 (mCB cMin2 (mCons (mCall 0 f_wanted (mCons (mVar 0) (mCons (mVar 10) (mCons (mVar 17) mNil)))) (mCons (mCall 0 f_room_in (mCons (mVar 13) (mCons (mVar 16) (mCons (mOp dIx (mOp dIx (mOp dIx (mVar 0) (mC (.int 0))) (mVar 10)) (mC (.int 1))) mNil)))) mNil))))
 (mDrop (mMth lApp (mVar 14) (mCons (mTup (mCons (mOp dAdd (mOp dIx (mVar 17) (mC (.int 0))) (mVar 18)) (mCons (mOp dIx (mVar 17) (mC (.int 1))) (mCons (mVar 18) (mCons (mOp dIx (mVar 17) (mC (.int 3))) mNil))))) mNil)))) mNext)))
      [some (eNet n), some (eCars cs), some time, some (eRows n.roads.length (lns n) rows), some (.ref 0), some (.ref 1), some (.ref 2), x7, x8, x9, some (.int (r : Nat)), some lanes, x12, some (eLane (rows r l)), some (.ref (T0.length + U.length)), some (eOpt (frontT rd (rows r l))), a16, a17, a18] (T0 ++ (U ++ [.lst []])) Q := by
  have hrl := (List.getElem?_eq_some_iff.mp hr).1
  have eN : ∀ S : Store, asSq S (eNet n) = some [.tup (n.roads.map eRoad), .tup (n.cross.map eCr)] := fun S => by simp [eNet]
  have eC : ∀ S : Store, asSq S (eCars cs) = some (cs.map eCar) := fun S => by simp [eCars]
  generalize hrs : rows r l = rs at *
  have hro : ∀ a ∈ rs, a ∈ rows r l := fun a ha => by rw [hrs]; exact ha
  have hT0 := hM.len
  have hT3 : 3 ≤ T0.length := by
    have h3 : 3 ≤ nb ([MO.dct kvs].length + 2) L R := nb_ge R
    omega
  have e0 : asSq (T0 ++ (U ++ [MO.lst []])) (eLane rs) = some (rs.map eRow) := by simp [eLane]
  simp [-aft_nx, e0]
  rw [enum_map]
  refine forL_map (fun k ρ T => ∃ T1 b16 b17 b18, Mov [.dct kvs] T1 R L (lf ++ partF cs rd rs k) ln ∧ T1.length = T0.length ∧ T = T1 ++ (U ++ [.lst ((partS cs th rd rs k).map eRow)]) ∧ ρ = [some (eNet n), some (eCars cs), some time, some (eRows n.roads.length (lns n) rows), some (.ref 0), some (.ref 1), some (.ref 2), x7, x8, x9, some (.int (r : Nat)), some lanes, x12, some (eLane rs), some (.ref (T0.length + U.length)), some (eOpt (frontT rd rs)), b16, b17, b18]) _ _ ⟨T0, a16, a17, a18, by simpa [partF] using hM, rfl, by simp [partS], rfl⟩ ?_ ?_
  · rintro k ⟨a, k'⟩ ρ T hk ⟨T1, b16, b17, b18, hM1, hl1, rfl, rfl⟩
    have hka : rs[k]? = some a ∧ k' = k := by
      rw [List.getElem?_zipIdx] at hk
      cases hx : rs[k]? with
      | none => rw [hx] at hk; cases hk
      | some b => rw [hx] at hk; simp at hk; exact ⟨by rw [hk.1], by omega⟩
    obtain ⟨ha, rfl⟩ := hka
    have ham := List.mem_of_getElem? ha
    obtain ⟨kc, c, hkc, hcs, hll⟩ := car_way h hrl (hro a ham)
    have hF : partF cs rd rs (k' + 1) = partF cs rd rs k' ++ (if leavesB cs rd rs a = true then [a.2.1] else []) := by
      unfold partF
      rw [List.take_add_one, ha, List.flatMap_append]
      simp
    have hS : partS cs th rd rs (k' + 1) = partS cs th rd rs k' ++ (if keepB cs th rd rs a = true then [moveT rd rs k' a] else []) := stayL_take ha
    rw [hF, hS]
    have hFl := partF_len (cs := cs) (rd := rd) (rs := rs) k'
    have hSl := partS_len (cs := cs) (th := th) (rd := rd) (rs := rs) k'
    generalize partF cs rd rs k' = pf at hM1 hFl
    generalize partS cs th rd rs k' = ps at hSl
    have g0 : (T1 ++ (U ++ [MO.lst (ps.map eRow)]))[0]? = some (.dct kvs) := by
      rw [List.getElem?_append_left (by omega)]
      exact hM1.pre 0 (by simp)
    have g1 : (T1 ++ (U ++ [MO.lst (ps.map eRow)]))[1]? = some (.lst ((lf ++ pf).map .int)) := by
      rw [List.getElem?_append_left (by omega)]
      exact hM1.le
    have g2 : (T1 ++ (U ++ [MO.lst (ps.map eRow)]))[T0.length + U.length]? = some (.lst (ps.map eRow)) := by
      rw [List.getElem?_append_right (by omega), ← hl1, Nat.add_sub_cancel_left, List.getElem?_append_right (Nat.le_refl _)]
      simp
    have s1 : ∀ v : MO, (T1 ++ (U ++ [MO.lst (ps.map eRow)])).set 1 v = T1.set 1 v ++ (U ++ [MO.lst (ps.map eRow)]) := fun v => by
      rw [List.set_append_left _ _ (by omega)]
    have s2 : ∀ v : MO, (T1 ++ (U ++ [MO.lst (ps.map eRow)])).set (T0.length + U.length) v = T1 ++ (U ++ [v]) := fun v => by
      rw [List.set_append_right _ _ (by omega), ← hl1, Nat.add_sub_cancel_left, List.set_append_right _ _ (Nat.le_refl _)]
      simp
    generalize hTT : T1 ++ (U ++ [MO.lst (ps.map eRow)]) = TT at g0 g1 g2 s1 s2
    refine ⟨by simp [eLane], _, rfl, ?_⟩
    rw [wps_if]
    refine wp_mono (Q := fun x S1 => x = leavesB cs rd rs a ∧ TT = S1) ?_ ?_
    · simp [-aft_nx]
      refine wp_dEq eqD_row ?_
      by_cases c1 : frontT rd rs = some a
      · by_cases c2 : a.2.2.2 + 1 = (c.2.length : Int)
        · simp [c1, eRow_eq, eC, hkc, Z.atI_nat, hcs, eCar, eIs, c2, leavesB, hll.mp c2]
        · have hx : lastLeg cs a = false := by
            cases hx : lastLeg cs a with
            | false => rfl
            | true => exact (c2 (hll.mpr hx)).elim
          simp [c1, eRow_eq, eC, hkc, Z.atI_nat, hcs, eCar, eIs, c2, leavesB, hx]
      · simp [c1, leavesB]
    · rintro x S1 ⟨rfl, rfl⟩
      cases hlv : leavesB cs rd rs a with
      | true =>
        have hkp : keepB cs th rd rs a = false := by simp [keepB, hlv]
        rw [hkp]
        have hM2 := hM1.lset (lf ++ pf ++ [a.2.1])
        simp [-aft_nx, eRow_eq, g1, s1]
        refine ⟨by simp [lim]; omega, ?_⟩
        exact ⟨by simpa using hM2, hl1⟩
      | false =>
        simp only [Bool.false_eq_true, if_false, List.append_nil]
        rw [wps_if]
        refine wp_mono (Q := fun x S1 => x = keepB cs th rd rs a ∧ TT = S1) ?_ ?_
        · have hv := hth kc
          have g0' : dGetO TT (.ref 0) (.int (kc : Int)) = some (valD kvs (.inl (kc : Int))) := by simp [dGetO, g0, keyD]
          simp [eRow_eq, hkc, g0', hv, keepB, hlv]
          by_cases hin : (kc : Int) ∈ th
          · exact .inl hin
          · refine .inr ⟨?_, hin⟩
            rw [decide_eq_false hin] at hv
            simpa using hv
        · rintro x S1 ⟨rfl, rfl⟩
          cases hkp : keepB cs th rd rs a with
          | true =>
            simp only [if_true]
            have e5 : asSq TT (eNet n) = some [.tup (n.roads.map eRoad), .tup (n.cross.map eCr)] := eN TT
            simp only [wps_seq]
            simp [-aft_nx]
            refine want_w (.inl rfl) hr ?_
            simp [-aft_nx, e5, Z.atI_nat, hr, eRoad]
            refine room_w (.inl rfl) ha ?_
            simp [-aft_nx]
            rw [aft_nx]
            simp [eRow_eq, g2, s2]
            refine ⟨by simp [lim]; omega, T1, by simpa using hM1, hl1, ?_⟩
            simp [moveT, lenT, eRow_eq]
          | false =>
            simp
            exact ⟨T1, by simpa using hM1, hl1, hTT.symm⟩
  · rintro ρ T ⟨T1, b16, b17, b18, hM1, hl1, rfl, rfl⟩
    have e1 : rs.zipIdx.length = rs.length := by simp
    rw [e1] at hM1 ⊢
    rw [partS_end] 
    have e2 : partF cs rd rs rs.length = leftL cs rd rs := by
      unfold partF
      rw [List.take_length]
      exact last_flat hnd
    rw [e2] at hM1
    exact ⟨by simp [eLane], q T1 b16 b17 b18 hM1 hl1⟩
end
end C
set_option Elab.async false
set_option linter.all false
set_option maxRecDepth 100000
/-! The program's moved, walked: the whole. -/
namespace C
open PySem L2 Z
section
variable {n : Net} {cs : List Car} {rows : Nat → Nat → List Row}
theorem lane_len {t : Int} {arr : List (Int × Int)} (hn : n.ok) (hp : RowsP n cs t rows arr) (r l : Nat) : (rows r l).length ≤ 20 := by
  cases hr : n.roads[r]? with
  | none =>
    have : rows r l = [] := List.eq_nil_iff_forall_not_mem.mpr fun a ha => by
      obtain ⟨_, rd, h1, _⟩ := (hp.part.row r l a ha).1.cell
      rw [hr] at h1; cases h1
    simp [this]
  | some rd =>
    obtain ⟨_, _, _, q4, _⟩ := hn.road rd (List.mem_of_getElem? hr)
    refine asc_len (b := 0) (hp.asc r l) fun a ha => ?_
    obtain ⟨⟨c0, rd', h1, c1⟩, _⟩ := (hp.part.row r l a ha).1
    rw [hr] at h1; cases h1
    omega
theorem leftL_len {rd : Road} {rs : List Row} : (leftL cs rd rs).length ≤ 1 := by
  unfold leftL
  split
  · split <;> simp
  · simp
theorem flat_len {f : Nat → List Int} {b : Nat} (h : ∀ l, (f l).length ≤ b) : ∀ k, ((List.range k).flatMap f).length ≤ k * b
  | 0 => by simp
  | k + 1 => by
    have := flat_len h k
    have := h k
    rw [List.range_succ, List.flatMap_append, List.length_append, Nat.succ_mul]
    simp only [List.flatMap_cons, List.flatMap_nil, List.append_nil]
    omega
theorem leftT_len (hn : n.ok) (R : Nat) : (leftT n cs rows R).length ≤ R * 3 := by
  refine flat_len (fun r => ?_) R
  unfold leftR
  split
  · rename_i rd _
    have h1 := flat_len (f := fun l => leftL cs rd (rows r l)) (fun l => leftL_len) (lns n r)
    have := lns_le hn r
    omega
  · simp
theorem leftT_succ (r : Nat) : leftT n cs rows (r + 1) = leftT n cs rows r ++ leftR n cs rows r (lns n r) := by simp [leftT, List.range_succ]
theorem lanes_w (h : RowsOk n cs rows) {t : Int} {arr : List (Int × Int)} (hp : RowsP n cs t rows arr) {r : Nat} {rd : Road} (hr : n.roads[r]? = some rd) {kvs : List (Key × D)} {th : List Int} (hth : ∀ x : Int, (valD kvs (.inl x)).isSome = decide (x ∈ th))
    {T0 : Store} {lf : List Int} (hlf : lf.length ≤ 900) (hM : Mov [.dct kvs] T0 r (lns n) lf (stayT n cs th rows)) {time : D} {x7 x8 x9 a13 a14 a15 a16 a17 a18 : Option D} {Q : Out → Store → Prop}
    (q : ∀ (T1 : Store) (b13 b14 b15 b16 b17 b18 : Option D), Mov [.dct kvs] T1 r (lns n) (lf ++ leftR n cs rows r (lns n r)) (stayT n cs th rows) → T1.length = T0.length →
      Q (.nx [some (eNet n), some (eCars cs), some time, some (eRows n.roads.length (lns n) rows), some (.ref 0), some (.ref 1), some (.ref 2), x7, x8, x9, some (.int (r : Nat)), some (eLanes (lns n r) (rows r)), some (.ref T0.length), b13, b14, b15, b16, b17, b18]) (T1 ++ .lst ((List.range (lns n r)).map fun l => .ref (T0.length + 1 + l)) :: (List.range (lns n r)).map fun l => .lst ((stayT n cs th rows r l).map eRow))) :
    wps (mFor (.nm 13) (mItS (mVar 11)) (mSeq (mSet 14 (mAd mNil))
 (mSeq (mSet 15 (mCall 0 f_front (mCons (mVar 0) (mCons (mVar 10) (mCons (mVar 13) mNil)))))
 (mSeq (mFor (.tp [16, 17]) (mItE (mVar 13)) (mIfS (mAnd (mB (mOp dEq (mVar 17) (mVar 15))) (mB (mOp dEq (mOp dAdd (mOp dIx (mVar 17) (mC (.int 3))) (mC (.int 1))) (mCB cLen (mCons (mOp dIx (mOp dIx (mVar 1) (mOp dIx (mVar 17) (mC (.int 1)))) (mC (.int 1))) mNil))))) (mDrop (mMth lApp (mVar 5) (mCons (mOp dIx (mVar 17) (mC (.int 1))) mNil))) (mIfS (mB (mDIn true (mOp dIx (mVar 17) (mC (.int 1))) (mVar 4))) (mSeq (mSet 18 (mCB cMin2 (mCons (mCall 0 f_wanted (mCons (mVar 0) (mCons (mVar 10) (mCons (mVar 17) mNil)))) (mCons (mCall 0 f_room_in (mCons (mVar 13) (mCons (mVar 16) (mCons (mOp dIx (mOp dIx (mOp dIx (mVar 0) (mC (.int 0))) (mVar 10)) (mC (.int 1))) mNil)))) mNil))))
 (mDrop (mMth lApp (mVar 14) (mCons (mTup (mCons (mOp dAdd (mOp dIx (mVar 17) (mC (.int 0))) (mVar 18)) (mCons (mOp dIx (mVar 17) (mC (.int 1))) (mCons (mVar 18) (mCons (mOp dIx (mVar 17) (mC (.int 3))) mNil))))) mNil)))) mNext)))
 (mDrop (mMth lApp (mVar 12) (mCons (mVar 14) mNil)))))))
      [some (eNet n), some (eCars cs), some time, some (eRows n.roads.length (lns n) rows), some (.ref 0), some (.ref 1), some (.ref 2), x7, x8, x9, some (.int (r : Nat)), some (eLanes (lns n r) (rows r)), some (.ref T0.length), a13, a14, a15, a16, a17, a18] (T0 ++ [.lst []]) Q := by
  have hL3 := lns_le h.net r
  have hsR : stayT n cs th rows r = fun l => stayL cs th rd (rows r l) := by funext l; simp [stayT, hr]
  have hlR : leftR n cs rows r (lns n r) = (List.range (lns n r)).flatMap fun l => leftL cs rd (rows r l) := by simp [leftR, hr]
  rw [hsR, hlR] at q
  have hfl := flat_len (f := fun l => leftL cs rd (rows r l)) (fun l => leftL_len)
  have e0 : asSq (T0 ++ [MO.lst []]) (eLanes (lns n r) (rows r)) = some ((List.range (lns n r)).map fun l => eLane (rows r l)) := by simp [eLanes]
  simp [-aft_nx, e0]
  refine forL_map (fun j ρ T => ∃ T1 b13 b14 b15 b16 b17 b18, Mov [.dct kvs] T1 r (lns n) (lf ++ (List.range j).flatMap fun l => leftL cs rd (rows r l)) (stayT n cs th rows) ∧ T1.length = T0.length ∧ T = T1 ++ .lst ((List.range j).map fun l => .ref (T0.length + 1 + l)) :: ((List.range j).map fun l => .lst ((stayL cs th rd (rows r l)).map eRow)) ∧
    ρ = [some (eNet n), some (eCars cs), some time, some (eRows n.roads.length (lns n) rows), some (.ref 0), some (.ref 1), some (.ref 2), x7, x8, x9, some (.int (r : Nat)), some (eLanes (lns n r) (rows r)), some (.ref T0.length), b13, b14, b15, b16, b17, b18]) _ _ ⟨T0, a13, a14, a15, a16, a17, a18, by simpa using hM, rfl, by simp, rfl⟩ ?_ ?_
  · rintro j j' ρ T hj ⟨T1, b13, b14, b15, b16, b17, b18, hM1, hl1, rfl, rfl⟩
    have hjL := (List.getElem?_eq_some_iff.mp hj).1
    simp at hjL
    simp [hjL] at hj
    subst hj
    have hfj := hfl j
    refine ⟨by simp [eLanes], _, rfl, ?_⟩
    generalize hU : (MO.lst ((List.range j).map fun l => .ref (T0.length + 1 + l)) :: ((List.range j).map fun l => MO.lst ((stayL cs th rd (rows r l)).map eRow))) = U
    have hUl : U.length = j + 1 := by rw [← hU]; simp
    have eT : (T1 ++ U).length = T1.length + U.length := by simp
    simp only [wps_seq, wps_set, wp_mAd, wp_mNil, eT]
    rw [aft_nx]
    simp [-aft_nx]
    refine front_w hr ?_
    rw [aft_nx]
    simp only [wps_seq]
    refine moved_rows_w h hr (lane_len h.net hp r j) (hp.part.cells r j) hth (T0 := T1) (U := U) (lf := lf ++ (List.range j).flatMap fun l => leftL cs rd (rows r l)) (by simp only [List.length_append]; omega) hM1 fun T2 c16 c17 c18 hM2 hl2 => ?_
    rw [aft_nx]
    have hl2' : T2.length = T0.length := hl2.trans hl1
    have g : (T2 ++ (U ++ [MO.lst ((stayL cs th rd (rows r j)).map eRow)]))[T0.length]? = some (.lst ((List.range j).map fun l => .ref (T0.length + 1 + l))) := by
      rw [List.getElem?_append_right (by omega), hl2', Nat.sub_self, ← hU]
      simp
    have s : ∀ v : MO, (T2 ++ (U ++ [MO.lst ((stayL cs th rd (rows r j)).map eRow)])).set T0.length v = T2 ++ v :: (((List.range j).map fun l => MO.lst ((stayL cs th rd (rows r l)).map eRow)) ++ [MO.lst ((stayL cs th rd (rows r j)).map eRow)]) := fun v => by
      rw [List.set_append_right _ _ (by omega), hl2', Nat.sub_self, ← hU]
      simp
    simp [g, s]
    refine ⟨by simp [lim]; omega, T2, ?_, hl2', ?_⟩
    · have := hM2
      rw [List.range_succ, List.flatMap_append]
      simpa using this
    · simp [List.range_succ, hl1, hUl]
      omega
  · rintro ρ T ⟨T1, b13, b14, b15, b16, b17, b18, hM1, hl1, rfl, rfl⟩
    refine ⟨by simp [eLanes], ?_⟩
    rw [List.length_range] at hM1 ⊢
    exact q T1 b13 b14 b15 b16 b17 b18 hM1 hl1
end
end C
set_option Elab.async false
set_option linter.all false
set_option maxRecDepth 100000
/-! moved: the whole. -/
namespace C
open PySem L2 Z
def eMov (n : Net) (cs : List Car) (rows : Nat → Nat → List Row) (time : Int) : D := .tup [eRows n.roads.length (lns n) (movT n cs rows (goodT n cs rows time n.cross.length)), .lst ((leftT n cs rows n.roads.length).map .int)]
section
variable {n : Net} {cs : List Car} {rows : Nat → Nat → List Row}
/-- the last lines of moved: all lists made tuples, sorted -/
theorem mov_close (hn : n.ok) (hc : CarsOk n cs) {kv T : Store} {lf : List Int} {ln : Nat → Nat → List Row} (hM : Mov kv T n.roads.length (lns n) lf ln) (hrow : ∀ r l a, a ∈ ln r l → RowOk n cs r a) (hlen : ∀ r l, (ln r l).length ≤ 63) {i j : Nat} {ρ : Z.Env} (hi : i < ρ.length) (hj : j < ρ.length) (hij : i ≠ j)
    {Q : List D → Store → Prop} (q : Q ((List.range n.roads.length).map fun r => .tup ((List.range (lns n r)).map fun l => .tup ((srtR (ln r l)).map eRow))) T) {ok : Store → Bool} (hok : ok T = true) :
    wp (mLcL [i] (.nm i) ok mTrue (mCB cTuple (mCons (mFz (mLc [j] (.nm j) (mItS (mVar i)) mTrue (mCB cTuple (mCons (mFz (mCF (cSortT 4 64) (mCons (mVar j) mNil))) mNil)))) mNil)) ρ ((List.range n.roads.length).map fun r => .ref (nb (kv.length + 2) (lns n) r))) T Q := by
  refine lcL_all (fun r => .ref (nb (kv.length + 2) (lns n) r)) _ _ hok (fun r hr => ?_) q
  have hr : r < n.roads.length := by simpa using hr
  have hL := lns_le hn r
  have g1 : (ρ.set i none).set i (some (.ref (nb (kv.length + 2) (lns n) r))) = ρ.set i (some (.ref (nb (kv.length + 2) (lns n) r))) := by simp
  refine ⟨_, rfl, ?_⟩
  simp [wipeD, hi, hM.new r hr]
  refine lcL_all (fun l => .ref (nb (kv.length + 2) (lns n) r + 1 + l)) (fun l => .tup ((srtR (ln r l)).map eRow)) _ ?_ (fun l hl => ?_) ?_
  · simp [hM.new r hr]
  · have hl : l < lns n r := by simpa using hl
    refine ⟨_, rfl, ?_⟩
    have hj2 : j < (ρ.set i (some (.ref (nb (kv.length + 2) (lns n) r)))).length := by simpa using hj
    simp [wipeD, hj]
    refine wp_sortR hn hc (r := r) (rows := ln r l) (asLC_ref.mpr (hM.lane r hr l hl)) (hrow r l) (by have := hlen r l; omega) ?_
    simp
  · simp [lim]
    omega
theorem moved_w (h : RowsOk n cs rows) {t : Int} {arr : List (Int × Int)} (hp : RowsP n cs t rows arr) (ht : 0 ≤ t ∧ t ≤ 2000000) {S : Store} {Q : D → Store → Prop} (q : Q (eMov n cs rows t) S) : wp (callF 0 f_moved [eNet n, eCars cs, .int t, eRows n.roads.length (lns n) rows]) S Q := by
  have hn := h.net
  have hf := hn.few
  have hcf := hn.cfew
  have hmv := (mov_rowsP h hp ht).part
  have hgl := let_len hn cs rows t n.cross.length (Nat.le_refl _)
  obtain ⟨pwA, pwT, go⟩ := good_pw h (time := t)
  refine wp_call0 (by simp [nrs]) ?_
  unfold f_moved b_moved
  simp [-aft_nx, startD_eq]
  refine let_through_c h ?_
  simp [-aft_nx, eDue, Tg.put, setAll]
  rw [aft_nx]
  unfold eMov at q
  generalize hG : goodT n cs rows t n.cross.length = good at q hmv hgl pwA pwT go
  generalize hK : (cauT n cs rows t n.cross.length).map eCau = cau
  simp only [wps_seq, wps_set, wp_mDc, wp_mVar]
  simp [-aft_nx]
  refine ⟨_, _, dcL_all tupI (fun it => .inl (carO it)) (fun _ => .bl true) good rfl (fun it hit => ?_) [] (by simp [lim]; omega), ?_⟩
  · obtain ⟨c, _, g⟩ := go it hit
    obtain ⟨k, r, l, t2, i, rfl, _⟩ := g.ok.ex
    refine ⟨_, rfl, ⟨.int (k : Int), wp_get (by simp [tupI, wipeD]), by simp [keyD, carO]⟩, rfl⟩
  rw [aft_nx]
  generalize hkv : good.foldl (fun (acc : List (Key × D)) (a : It) => putD acc (Sum.inl (carO a) : Key) (.bl true)) [] = kvs
  have hth : ∀ x : Int, (valD kvs (Sum.inl x : Key)).isSome = decide (x ∈ good.map carO) := fun x => by
    have e : kvs = (good.map fun it => (Sum.inl (carO it) : Key)).foldl (fun acc k => putD acc k (.bl true)) [] := by rw [← hkv, List.foldl_map]
    rw [e, val_isSome]
    have : valD ([] : List (Key × D)) (Sum.inl x : Key) = none := rfl
    rw [this, Bool.eq_iff_iff]
    simp
  simp [-aft_nx]
  rw [aft_nx]
  simp [-aft_nx]
  rw [aft_nx]
  have eR : ∀ S : Store, asSq S (eRows n.roads.length (lns n) rows) = some ((List.range n.roads.length).map fun r => eLanes (lns n r) (rows r)) := fun S => by simp [eRows, eLanes, eLane]
  simp [-aft_nx, eR]
  rw [enum_range n.roads.length fun r => eLanes (lns n r) (rows r)]
  refine forL_map (fun r ρ T => Mov [.dct kvs] T r (lns n) (leftT n cs rows r) (stayT n cs (good.map carO) rows) ∧ ∃ b10 b11 b12 b13 b14 b15 b16 b17 b18, ρ = [some (eNet n), some (eCars cs), some (.int t), some (eRows n.roads.length (lns n) rows), some (.ref 0), some (.ref 1), some (.ref 2), none, some (.lst (good.map tupI)), some (.lst cau), b10, b11, b12, b13, b14, b15, b16, b17, b18]) _ _ ⟨Mov.start [.dct kvs] (lns n) _, _, _, _, _, _, _, _, _, _, rfl⟩ ?_ ?_
  · rintro r r' ρ T hr ⟨hM, b10, b11, b12, b13, b14, b15, b16, b17, b18, rfl⟩
    have hrl := (List.getElem?_eq_some_iff.mp hr).1
    simp at hrl
    simp [hrl] at hr
    subst hr
    have hrd : n.roads[r]? = some n.roads[r] := by simp [hrl]
    generalize n.roads[r] = rd at hrd
    have hll := leftT_len (cs := cs) (rows := rows) hn r
    refine ⟨by simp [eRows], _, rfl, ?_⟩
    simp only [wps_seq, wps_set, wp_mAd, wp_mNil]
    rw [aft_nx]
    simp only [wps_seq]
    refine lanes_w h hp hrd hth (by omega) hM fun T1 c13 c14 c15 c16 c17 c18 hM1 hl1 => ?_
    rw [aft_nx]
    have hf2 : (T1 ++ .lst ((List.range (lns n r)).map fun l => .ref (T.length + 1 + l)) :: ((List.range (lns n r)).map fun l => MO.lst ((stayT n cs (good.map carO) rows r l).map eRow)))[2]? = some (.lst ((List.range r).map fun r => .ref (nb 3 (lns n) r))) := hM1.app _ hM1.fo
    have hM2 := hM1.road
    rw [← leftT_succ] at hM2
    rw [← hl1]
    rw [← hl1] at hf2
    simp [hf2]
    refine ⟨by simp [lim]; omega, ?_⟩
    have hTn : T1.length = nb 3 (lns n) r := hM1.len
    have : ((List.range r).map fun r => D.ref (nb 3 (lns n) r)) ++ [D.ref T1.length] = (List.range (r + 1)).map fun r => D.ref (nb 3 (lns n) r) := by rw [hTn]; simp [List.range_succ]
    rw [this]
    exact hM2
  rintro ρ T ⟨hM, b10, b11, b12, b13, b14, b15, b16, b17, b18, rfl⟩
  rw [List.length_range] at hM
  refine ⟨by simp [eRows], ?_⟩
  rw [aft_nx]
  simp [-aft_nx]
  have hgc : good.length ≤ 288 := by omega
  refine forL_map (fun i ρ T => Mov [.dct kvs] T n.roads.length (lns n) (leftT n cs rows n.roads.length) (entL n rows (stayT n cs (good.map carO) rows) (good.take i)) ∧ ∃ b7, ρ = [some (eNet n), some (eCars cs), some (.int t), some (eRows n.roads.length (lns n) rows), some (.ref 0), some (.ref 1), some (.ref 2), b7, some (.lst (good.map tupI)), some (.lst cau), b10, b11, b12, b13, b14, b15, b16, b17, b18]) tupI good ⟨hM.congr fun r l => by simp [entL], _, rfl⟩ ?_ ?_
  · rintro i it ρ T hi ⟨hM, b7, rfl⟩
    obtain ⟨c, _, g⟩ := go it (List.mem_of_getElem? hi)
    obtain ⟨k, r, l, t2, i2, hie, hk, hr, hl, ht2, hi2, _⟩ := g.ok.ex
    have eI : tupI it = .tup [.int k, .int r, .int l, .int t2, .int i2] := by rw [hie]; rfl
    have sI : ∀ S : Store, asSq S (tupI it) = some [.int k, .int r, .int l, .int t2, .int i2] := fun S => by rw [eI]; simp
    have e2 : toO it = (t2 : Int) := by rw [hie]; rfl
    have e3 : intoO it = (i2 : Int) := by rw [hie]; rfl
    have htk : good.take (i + 1) = good.take i ++ [it] := by rw [List.take_add_one, hi]; rfl
    rw [htk]
    have gf : T[2]? = some (.lst ((List.range n.roads.length).map fun r => .ref (nb 3 (lns n) r))) := hM.fo
    have gn : T[nb 3 (lns n) t2]? = some (.lst ((List.range (lns n t2)).map fun l => .ref (nb 3 (lns n) t2 + 1 + l))) := hM.new t2 ht2
    have gl : T[nb 3 (lns n) t2 + 1 + i2]? = some (.lst ((entL n rows (stayT n cs (good.map carO) rows) (good.take i) t2 i2).map eRow)) := hM.lane t2 ht2 i2 hi2
    have hput := hM.put ht2 hi2 (entL n rows (stayT n cs (good.map carO) rows) (good.take i) t2 i2 ++ [entryT n rows it])
    have hsn := entL_snoc n rows (stayT n cs (good.map carO) rows) (good.take i) e2 e3
    have hlen : (entL n rows (stayT n cs (good.map carO) rows) (good.take i) t2 i2).length ≤ 400 := by
      unfold entL
      rw [List.length_append, List.length_map]
      have h1 : (stayT n cs (good.map carO) rows t2 i2).length ≤ 20 := by
        unfold stayT
        split
        · unfold stayL
          refine Nat.le_trans (List.length_filterMap_le _ _) ?_
          simpa using lane_len hn hp t2 i2
        · simp
      have h2 := List.length_filter_le (intoB t2 i2) (good.take i)
      have h3 : (good.take i).length ≤ good.length := by rw [List.length_take]; omega
      omega
    refine ⟨by simp, _, rfl, ?_⟩
    simp [sI, gf, Z.atI_nat, ht2, gn, hi2, gl]
    refine entry_w h g ?_
    simp [gl]
    refine ⟨by simp [lim]; omega, ?_⟩
    have := hput.congr hsn
    simpa using this
  rintro ρ T ⟨hM, b7, rfl⟩
  rw [List.take_length] at hM
  refine ⟨by simp, ?_⟩
  rw [aft_nx]
  have hnm : ∀ r l, entL n rows (stayT n cs (good.map carO) rows) good r l = newM n cs rows good r l := fun r l => rfl
  have hM3 := hM.congr hnm
  have gf : T[2]? = some (.lst ((List.range n.roads.length).map fun r => .ref (nb 3 (lns n) r))) := hM3.fo
  have gl : T[1]? = some (.lst ((leftT n cs rows n.roads.length).map .int)) := hM3.le
  simp [gf]
  refine mov_close hn h.cars hM3 (fun r l a ha => (hmv.row r l a ((srtR_perm _).mem_iff.mpr ha)).1) (fun r l => ?_) (by simp) (by simp) (by decide) ?_ (by simp [gf])
  · have := hmv.len r l
    have h30 := h.cars.few
    unfold movT at this
    rw [(srtR_perm _).length_eq] at this
    omega
  · simp [lim]
    refine ⟨by omega, ?_⟩
    rw [clo0 (v := .tup [eRows n.roads.length (lns n) (movT n cs rows good), .lst ((leftT n cs rows n.roads.length).map .int)]) ?_ (by simp)]
    · exact ⟨_, _, rfl, rfl, q⟩
    · rw [rk_tup]
      simp only [List.map_cons, List.map_nil]
      rw [rk_ref0 gl (by simp), rk_fit (m := 0) (by simp)]
      rfl
end
end C
set_option Elab.async false
set_option linter.all false
set_option maxRecDepth 100000
/-! entered, step. -/
namespace C
open PySem L2 Z
theorem range_set {α : Type} {L m : Nat} (hm : m < L) (f : Nat → α) (v : α) : ((List.range L).map f).take m ++ (v :: ((List.range L).map f).drop (m + 1)) = (List.range L).map fun l => if l = m then v else f l := by
  have e : ((List.range L).map f).set m v = ((List.range L).map f).take m ++ (v :: ((List.range L).map f).drop (m + 1)) := by
    rw [List.set_eq_take_append_cons_drop, if_pos (by simpa using hm)]
  rw [← e]
  apply List.ext_getElem
  · simp
  · intro i h1 h2
    simp at h1 h2
    rw [List.getElem_set]
    simp
    by_cases e : i = m
    · simp [e]
    · have : ¬ m = i := fun z => e z.symm
      simp [e, this]
theorem entered_w {n : Net} {cs : List Car} (hn : n.ok) (hc : CarsOk n cs) {W : List Int} (hW : ∀ x ∈ W, 0 ≤ x ∧ x < cs.length) {time : Int} {rows : Nat → Nat → List Row} (hlen : ∀ r l, (rows r l).length ≤ 1000) {S : Store} {Q : D → Store → Prop} (q : Q (eRows n.roads.length (lns n) (enterT n cs W time rows)) S) :
    wp (callF 0 f_entered [eNet n, eCars cs, .lst (W.map .int), .int time, eRows n.roads.length (lns n) rows]) S Q := by
  have hf := hn.few
  refine wp_call0 (by simp [nrs]) ?_
  unfold f_entered b_entered
  have eR : ∀ S : Store, asSq S (eRows n.roads.length (lns n) rows) = some ((List.range n.roads.length).map fun r => eLanes (lns n r) (rows r)) := fun S => by simp [eRows, eLanes, eLane]
  simp [-aft_nx, startD_eq]
  rw [aft_nx]
  simp [-aft_nx, eR]
  rw [enum_range n.roads.length fun r => eLanes (lns n r) (rows r)]
  refine forL_map (fun i ρ T => T = [.lst ((List.range i).map fun r => eLanes (lns n r) (enterT n cs W time rows r))] ∧ ∃ a b c d e, ρ = [some (eNet n), some (eCars cs), some (.lst (W.map .int)), some (.int time), some (eRows n.roads.length (lns n) rows), some (.ref 0), a, b, c, d, e]) _ _ ⟨rfl, _, _, _, _, _, rfl⟩ ?_ ?_
  · rintro i r ρ T hr ⟨rfl, a, b, c, d, e, rfl⟩
    have hrl := (List.getElem?_eq_some_iff.mp hr).1
    simp at hrl
    simp [hrl] at hr
    subst hr
    refine ⟨by simp [eRows], _, rfl, ?_⟩
    have hst : ((List.range (i + 1)).map fun r => eLanes (lns n r) (enterT n cs W time rows r)) = ((List.range i).map fun r => eLanes (lns n r) (enterT n cs W time rows r)) ++ [eLanes (lns n i) (enterT n cs W time rows i)] := by simp [List.range_succ]
    rw [hst]
    generalize hF : ((List.range i).map fun r => eLanes (lns n r) (enterT n cs W time rows r)) = F
    have hFl : F.length = i := by rw [← hF]; simp
    have hlim : F.length < lim := by simp [lim]; omega
    simp [-aft_nx]
    refine first_w hc hW ?_
    rw [aft_nx]
    simp [-aft_nx]
    refine free_lane_w ?_
    rw [aft_nx]
    have skip : (∀ l, enterT n cs W time rows i l = rows i l) → eLanes (lns n i) (enterT n cs W time rows i) = eLanes (lns n i) (rows i) := fun h => by
      unfold eLanes
      congr 1
      exact List.map_congr_left fun l _ => by rw [h l]
    cases h1 : firstT cs W time i with
    | none =>
      rw [skip fun l => by unfold enterT; rw [h1]]
      simp [eIO, hlim]
    | some x =>
      cases h2 : freeLT (rows i) (lns n i) with
      | none =>
        rw [skip fun l => by unfold enterT; rw [h1, h2]]
        simp [eIO, eNO, hlim]
      | some m =>
        have hm : m < lns n i := by
          have := List.mem_of_find?_eq_some h2
          simpa using this
        have hL3 := lns_le hn i
        have eE : eLanes (lns n i) (enterT n cs W time rows i) = .tup ((((List.range (lns n i)).map fun l => eLane (rows i l)).take m) ++ (eLane ((0, x, 0, 0) :: rows i m) :: ((List.range (lns n i)).map fun l => eLane (rows i l)).drop (m + 1))) := by
          rw [range_set hm]
          unfold eLanes
          congr 1
          refine List.map_congr_left fun l _ => ?_
          unfold enterT
          rw [h1, h2]
          simp only
          split
          · rename_i e; rw [e]
          · rfl
        rw [eE]
        have cT : cutD ((List.range (lns n i)).map fun l => eLane (rows i l)) none (some (m : Int)) = ((List.range (lns n i)).map fun l => eLane (rows i l)).take m := by rw [cut_take (by omega)]; simp
        have cD : cutD ((List.range (lns n i)).map fun l => eLane (rows i l)) (some ((m : Int) + 1)) none = ((List.range (lns n i)).map fun l => eLane (rows i l)).drop (m + 1) := by rw [cut_drop (by omega), show ((m : Int) + 1).toNat = m + 1 by omega]
        have eL : eLanes (lns n i) (rows i) = .tup ((List.range (lns n i)).map fun l => eLane (rows i l)) := rfl
        rw [eL]
        generalize hLL : ((List.range (lns n i)).map fun l => eLane (rows i l)) = LL at cT cD
        have hLm : LL[m]? = some (eLane (rows i m)) := by rw [← hLL]; simp [hm]
        have hLlen : LL.length ≤ 3 := by rw [← hLL]; simpa using hL3
        have e2 : eLane (rows i m) = .tup ((rows i m).map eRow) := rfl
        have e3 : eLane ((0, x, 0, 0) :: rows i m) = .tup (.tup [.int 0, .int x, .int 0, .int 0] :: (rows i m).map eRow) := rfl
        simp [-aft_nx, eIO, eNO, Z.atI_nat, hLm, e2]
        refine ⟨by have := hlen i m; simp [lim]; omega, ?_⟩
        rw [aft_nx]
        have hb : (LL.take m).length ≤ 3 ∧ (LL.drop (m + 1)).length ≤ 3 := by rw [List.length_take, List.length_drop]; omega
        simp [cT, cD, e3, hlim]
        exact .inl ⟨by simp [lim]; omega, .inl (by simp [lim]; omega)⟩
  · rintro ρ T ⟨rfl, a, b, c, d, e, rfl⟩
    simp [eRows]
    exact q
theorem changed_arr {n : Net} (hn : n.ok) {cs : List Car} (hc : CarsOk n cs) {s : St} (hs : SoundP n cs s) (ht : s.time ≤ 1998000) : ∀ p ∈ s.arr ++ (leftT n cs (chg n s) n.roads.length).map (fun x => (x, s.time + 1)), okT 2 2097152 (pairI p) = true := by
  have hch := chg_rowsP hn hc hs.rows
  have hm := (mov_rowsP (hch.ok hn hc) hch ⟨hs.time.1, by omega⟩).part
  have hcars := hc.few
  intro p hp
  obtain ⟨h1, h2, h3, h4, _⟩ := hm.gone p ((srtA_perm _).mem_iff.mpr hp)
  simp only [okT, pairI, List.length_cons, List.length_nil, List.all_cons, List.all_nil, Bool.and_true, Bool.and_eq_true, decide_eq_true_eq]
  exact ⟨by simp, by omega, by omega⟩
theorem step_w {n : Net} (hn : n.ok) {cs : List Car} (hc : CarsOk n cs) {s : St} (hs : SoundP n cs s) (ht : s.time ≤ 1998000) {S : Store} {Q : D → Store → Prop} (q : Q (eSt n (stepS n cs s)) S) : wp (callF 0 f_step [eNet n, eCars cs, eSt n s]) S Q := by
  have hch := chg_rowsP hn hc hs.rows
  have hok := hch.ok hn hc
  have hm := mov_rowsP hok hch ⟨hs.time.1, by omega⟩
  have hll := leftT_len (cs := cs) (rows := chg n s) hn n.roads.length
  have hal := hs.rows.part.alen
  have hcars := hc.few
  have hf := hn.few
  have hoA := changed_arr hn hc hs ht
  have hlA : (s.arr ++ (leftT n cs (chg n s) n.roads.length).map (fun x => (x, s.time + 1))).length ≤ 30 := by
    have := hm.part.alen
    unfold arrT at this
    rw [(srtA_perm _).length_eq] at this
    omega
  have eS : ∀ S : Store, asSq S (eSt n s) = some [.int s.time, eRows n.roads.length (lns n) s.rows, .tup (s.arr.map eArr)] := fun S => by simp [eSt]
  refine wp_call0 (by simp [nrs]) ?_
  unfold f_step b_step
  simp [-aft_nx, startD_eq, eS]
  rw [aft_nx]
  simp [-aft_nx]
  refine changed_w hn hc hs.sound ?_
  refine moved_w hok hch ⟨hs.time.1, by omega⟩ ?_
  simp [-aft_nx, eMov, Tg.put, setAll]
  rw [aft_nx]
  simp [-aft_nx, eS]
  refine lcL_all .int (fun x : Int => .tup [.int x, .int (s.time + 1)]) _ rfl (fun x _ => by simp) ?_
  simp [-aft_nx]
  refine ⟨by simp [lim]; omega, ?_⟩
  refine wp_dAddL (asL_lst.mpr rfl) (asL_lst.mpr rfl) (by simp [lim]; omega) ?_
  have e1 : s.arr.map eArr ++ (leftT n cs (chg n s) n.roads.length).map (fun x => D.tup [.int x, .int (s.time + 1)]) = ((s.arr ++ (leftT n cs (chg n s) n.roads.length).map (fun x => (x, s.time + 1))).map pairI).map tupI := by
    rw [List.map_append, List.map_append, List.map_map, List.map_map, List.map_map]
    rfl
  rw [e1]
  refine wp_cSortT (d := 2) (C := 2097152) (asLC_lst.mpr rfl) (by simp at hlA ⊢; omega) (fun ns hns => ?_) ?_
  · obtain ⟨p, hp, rfl⟩ := List.mem_map.mp hns
    exact hoA p hp
  have e2 : (srtT 2097152 ((s.arr ++ (leftT n cs (chg n s) n.roads.length).map (fun x => (x, s.time + 1))).map pairI)).map tupI = (arrT n cs (chg n s) s.time s.arr).map eArr := by
    rw [← srtA_map, List.map_map]
    rfl
  rw [e2]
  try simp [-aft_nx]
  rw [aft_nx]
  simp
  refine outside_w hn hc hs ?_
  refine entered_w hn hc (fun x hx => ⟨(outT_mem hx).1, (outT_mem hx).2.1⟩) (fun r l => by have := lane_len hn hm r l; omega) ?_
  try simp
  exact q
end C
set_option Elab.async false
set_option linter.all false
set_option maxRecDepth 100000
/-! A sound state is small: its repr has room. -/
namespace C
open PySem L2 Z
theorem rows_sm {n : Net} (hn : n.ok) {cs : List Car} (hc : CarsOk n cs) {t : Int} {rows : Nat → Nat → List Row} {arr : List (Int × Int)} (hp : RowsP n cs t rows arr) : Sm 4 11568 (eRows n.roads.length (lns n) rows) := by
  have hf := hn.few
  have hrow : ∀ r l a, a ∈ rows r l → Sm 1 4 (eRow a) := fun r l a ha => by
    have hb := (okT_bd (row_okT hn hc (hp.part.row r l a ha).1)).2
    refine Sm.tup (k := 0) (w := 0) (m := 4) (xs := (toL a).map .int) (fun x hx => ?_) (by simp [toL])
    obtain ⟨i, hi, rfl⟩ := List.mem_map.mp hx
    obtain ⟨b0, b1⟩ := hb i hi
    exact Sm.int (by omega)
  have hlane : ∀ r l, Sm 2 320 (.tup ((rows r l).map eRow)) := fun r l => by
    have hl := lane_len hn hp r l
    refine Sm.tup (k := 1) (w := 4) (m := 64) (fun x hx => ?_) (by simp; omega)
    obtain ⟨a, ha, rfl⟩ := List.mem_map.mp hx
    exact hrow r l a ha
  have hroad : ∀ r, Sm 3 963 (.tup ((List.range (lns n r)).map fun l => .tup ((rows r l).map eRow))) := fun r => by
    have h3 := lns_le hn r
    refine Sm.tup (k := 2) (w := 320) (m := 3) (fun x hx => ?_) (by simpa using h3)
    obtain ⟨l, _, rfl⟩ := List.mem_map.mp hx
    exact hlane r l
  refine Sm.tup (k := 3) (w := 963) (m := 12) (fun x hx => ?_) (by simpa using hf)
  obtain ⟨r, hr, rfl⟩ := List.mem_map.mp hx
  exact hroad r
theorem state_sm {n : Net} (hn : n.ok) {cs : List Car} (hc : CarsOk n cs) {s : St} (hs : SoundP n cs s) : Sm 5 34707 (eSt n s) := by
  have hcf := hc.few
  have htm := hs.time
  have hal := hs.rows.part.alen
  have h1 := rows_sm hn hc hs.rows
  have h2 : Sm 4 11568 (.tup (s.arr.map eArr)) := by
    refine (Sm.tup (k := 3) (w := 40) (m := 30) (fun x hx => ?_) (by simp; omega)).up (by omega) (by omega)
    obtain ⟨p, hp, rfl⟩ := List.mem_map.mp hx
    obtain ⟨g1, g2, g3, g4, _⟩ := hs.rows.part.gone p hp
    refine (Sm.tup (k := 0) (w := 0) (m := 2) (xs := [.int p.1, .int p.2]) (fun x hx => ?_) (by simp)).up (by omega) (by omega)
    rcases List.mem_cons.mp hx with rfl | hx
    · exact Sm.int (by omega)
    · rw [List.mem_singleton] at hx; subst hx; exact Sm.int (by omega)
  refine Sm.tup (k := 4) (w := 11568) (m := 3) (fun x hx => ?_) (by simp)
  simp only [List.mem_cons, List.not_mem_nil, or_false] at hx
  rcases hx with rfl | rfl | rfl
  · exact Sm.int (by omega)
  · exact h1
  · exact h2
theorem state_show {n : Net} (hn : n.ok) {cs : List Car} (hc : CarsOk n cs) {s : St} (hs : SoundP n cs s) : showD (eSt n s) = true := (state_sm hn hc hs).show rfl (by omega) (by omega)
end C
set_option Elab.async false
set_option linter.all false
set_option maxRecDepth 100000
/-! The plain run. -/
namespace Z
open PySem L2
theorem wp_dRepT {k : Int} {xs : List D} {S : Store} {Q : D → Store → Prop} (hk : 1 ≤ k ∧ k ≤ 1000) (hx : xs ≠ []) (hl : xs.length ≤ 1000) (q : Q (.tup (List.replicate k.toNat xs).flatten) S) : wp (dMul (.tup xs) (.int k)) S Q := by
  unfold dMul dRepT
  by_cases h1 : k = 1
  · subst h1
    refine ⟨.tup xs, S, by simp [dI, fail, ret], ?_⟩
    simpa using q
  · refine ⟨.tup (List.replicate k.toNat xs).flatten, S, ?_, q⟩
    simp only [dI, fail, ret, Option.orElse]
    rw [if_neg h1, if_pos ⟨by omega, hk.2, hx, hl⟩]
    rfl
end Z
namespace C
open PySem L2 Z
def begS : St := ⟨0, fun _ _ => [], []⟩
def runS (n : Net) (cs : List Car) : Nat → St
  | 0 => begS
  | k + 1 => stepS n cs (runS n cs k)
theorem beg_sound (n : Net) (cs : List Car) : SoundP n cs begS := ⟨⟨by simp [begS], by simp [begS]⟩, ⟨⟨by simp [begS], by simp [begS], by simp [begS], by simp [begS], by simp [begS], by simp [begS], by simp [begS]⟩, by simp [begS], fun r l h => rfl⟩⟩
theorem run_time (n : Net) (cs : List Car) : ∀ k, (runS n cs k).time = (k : Nat)
  | 0 => rfl
  | k + 1 => by
    show (runS n cs k).time + 1 = _
    rw [run_time n cs k]
    omega
theorem run_sound {n : Net} (hn : n.ok) {cs : List Car} (hc : CarsOk n cs) : ∀ k, k ≤ 1000 → SoundP n cs (runS n cs k)
  | 0, _ => beg_sound n cs
  | k + 1, hk => step_sound hn hc (run_sound hn hc k (by omega)) (by rw [run_time]; omega)
theorem beg_eq (n : Net) : eSt n begS = .tup [.int 0, .tup (n.roads.map fun rd => .tup (List.replicate rd.1.toNat (.tup []))), .tup []] := by
  unfold eSt eRows begS
  congr 1
  simp only [List.map_nil, List.cons.injEq, true_and, and_true, D.tup.injEq]
  apply List.ext_getElem
  · simp
  · intro i h1 h2
    simp at h1
    simp [lns, h1]
    apply List.ext_getElem
    · simp
    · intro j h3 h4
      simp
theorem begin_w {n : Net} (hn : n.ok) {S : Store} {Q : D → Store → Prop} (q : Q (eSt n begS) S) : wp (callF 0 f_beginning [eNet n]) S Q := by
  have hf := hn.few
  refine wp_call0 (by simp [nrs]) ?_
  unfold f_beginning b_beginning
  have eN : ∀ S : Store, asSq S (eNet n) = some [.tup (n.roads.map eRoad), .tup (n.cross.map eCr)] := fun S => by simp [eNet]
  simp [-aft_nx, startD_eq, eN]
  refine lcL_all eRoad (fun rd : Road => .tup (List.replicate rd.1.toNat (.tup []))) _ (by simp) (fun rd hrd => ?_) ?_
  · obtain ⟨h1, h2, _⟩ := hn.road rd hrd
    simp [eRoad]
    refine wp_dRepT (by omega) (by simp) (by simp) ?_
    simp
  · rw [beg_eq] at q
    simp [lim]
    refine ⟨by omega, ?_⟩
    exact q
def runD (n : Net) (cs : List Car) (k : Nat) : List D := (List.range (k + 1)).map fun i => eSt n (runS n cs i)
theorem runD_len {n : Net} {cs : List Car} {k : Nat} : (runD n cs k).length = k + 1 := by simp [runD]
theorem runD_get {n : Net} {cs : List Car} {k i : Nat} (h : i ≤ k) : (runD n cs k)[i]? = some (eSt n (runS n cs i)) := by
  have h2 : i < k + 1 := by omega
  simp [runD, h2]
theorem runD_take {n : Net} {cs : List Car} {k i : Nat} (h : i ≤ k) : (runD n cs k).take (i + 1) = runD n cs i := by
  unfold runD
  rw [← List.map_take, List.take_range, Nat.min_eq_left (by omega)]
theorem runD_succ {n : Net} {cs : List Car} {k : Nat} : runD n cs (k + 1) = runD n cs k ++ [eSt n (runS n cs (k + 1))] := by
  unfold runD
  rw [List.range_succ (n := k + 1), List.map_append]
  rfl
theorem runD_last {n : Net} {cs : List Car} {k : Nat} : atI (runD n cs k) (-1) = some (eSt n (runS n cs k)) := by
  cases k with
  | zero => exact atI_last (xs := [])
  | succ k => rw [runD_succ]; exact atI_last
theorem fit_st {n : Net} {s : St} : fit 60 (eSt n s) = true := by simp [eSt, eRows, eRow_eq, eArr, fit]
theorem fit_st59 {n : Net} {s : St} : fit 59 (eSt n s) = true := by simp [eSt, eRows, eRow_eq, eArr, fit]
theorem runD_fit {n : Net} {cs : List Car} {k : Nat} : fit 60 (.lst (runD n cs k)) = true := by
  simp [fit, runD, fit_st59]
theorem runD_nr {n : Net} {cs : List Car} {k : Nat} : nr (.lst (runD n cs k)) = true := by
  simp [runD]
theorem run_w {n : Net} (hn : n.ok) {cs : List Car} (hc : CarsOk n cs) {k : Nat} (hk : k ≤ 500) {S0 : Store} {Q : D → Store → Prop} (q : Q (.ref S0.length) (S0 ++ [.lst (runD n cs k)])) : wp (f_run [eNet n, eCars cs, .int (k : Nat)]) S0 Q := by
  unfold f_run b_run
  simp [-aft_nx, startD_eq]
  refine begin_w hn ?_
  rw [aft_nx]
  simp [-aft_nx, okR]
  refine ⟨by omega, ?_⟩
  refine forL_rng (fun i ρ T => T = S0 ++ [.lst (runD n cs i)] ∧ ∃ a, ρ = [some (eNet n), some (eCars cs), some (.int (k : Nat)), some (.ref S0.length), a]) ⟨by simp [runS, runD], _, rfl⟩ ?_ ?_
  · rintro i ρ T hi ⟨rfl, a, rfl⟩
    rw [runD_succ]
    have hl : (runD n cs i).length = i + 1 := runD_len
    have hlast : atI (runD n cs i) (-1) = some (eSt n (runS n cs i)) := runD_last
    generalize runD n cs i = xs at hl hlast
    refine ⟨_, rfl, ?_⟩
    simp [-aft_nx, hlast]
    refine step_w hn hc (run_sound hn hc i (by omega)) (by rw [run_time]; omega) ?_
    simp
    exact ⟨by simp [lim]; omega, rfl⟩
  · rintro ρ T ⟨rfl, a, rfl⟩
    rw [aft_nx]
    simp
    exact q
end C
set_option Elab.async false
set_option linter.all false
set_option maxRecDepth 100000
/-! What a step does to a car. -/
namespace C
open PySem L2 Z
section
variable {n : Net} {cs : List Car} {s : St}
theorem chg_old {r l : Nat} {a : Row} (h : a ∈ chg n s r l) : ∃ j, a ∈ s.rows r j := by
  obtain ⟨rd, _, j, _, i, h1, _⟩ := chg_mem h
  exact ⟨j, List.mem_of_getElem? h1⟩
theorem chg_all {t : Int} {arr : List (Int × Int)} (hp : RowsP n cs t s.rows arr) {r j : Nat} {a : Row} (h : a ∈ s.rows r j) : ∃ l, a ∈ chg n s r l := by
  obtain ⟨_, rd, hr, _⟩ := (hp.part.row r j a h).1.cell
  have hj : j < lns n r := by
    rcases Nat.lt_or_ge j (lns n r) with g | g
    · exact g
    · rw [hp.emp r j g] at h; cases h
  obtain ⟨i, hi⟩ := List.getElem?_of_mem h
  refine ⟨tgt rd s.time (lns n r) (s.rows r) j i a, ?_⟩
  unfold chg
  rw [hr]
  exact (srtR_perm _).mem_iff.mpr ((accL_mem2 _).mpr ⟨j, hj, i, hi, rfl⟩)
/-- the rows behind moving -/
def movS (n : Net) (cs : List Car) (s : St) : Nat → Nat → List Row := movT n cs (chg n s) (goodT n cs (chg n s) s.time n.cross.length)
theorem enter_mem {W : List Int} {time : Int} {rows : Nat → Nat → List Row} {r l : Nat} {b : Row} (hb : b ∈ enterT n cs W time rows r l) : b ∈ rows r l ∨ ∃ x, firstT cs W time r = some x ∧ freeLT (rows r) (lns n r) = some l ∧ b = (0, x, 0, 0) := by
  unfold enterT at hb
  split at hb
  · rename_i x m h1 h2
    split at hb
    · rename_i e
      subst e
      rcases List.mem_cons.mp hb with hb | hb
      · exact .inr ⟨x, h1, h2, hb⟩
      · exact .inl hb
    · exact .inl hb
  · exact .inl hb
theorem enter_old {W : List Int} {time : Int} {rows : Nat → Nat → List Row} {r l : Nat} {b : Row} (hb : b ∈ rows r l) : b ∈ enterT n cs W time rows r l := by
  unfold enterT
  split
  · split
    · exact List.mem_cons_of_mem _ hb
    · exact hb
  · exact hb
/-- a car that was on a road and is on one behind moving -/
structure Went (n : Net) (s : St) (r : Nat) (b : Row) (q : Nat) (rd : Road) (a : Row) : Prop where
  road : n.roads[q]? = some rd
  was : ∃ j, a ∈ s.rows q j
  car : a.2.1 = b.2.1
  leg : (q = r ∧ b.2.2.2 = a.2.2.2 ∧ b.1 - a.1 = b.2.2.1) ∨ (b.2.2.2 = a.2.2.2 + 1 ∧ rd.2.1 - a.1 + b.1 = b.2.2.1)
  spd : b.2.2.1 ≤ wantT rd a
theorem mov_went (hn : n.ok) (hc : CarsOk n cs) (hs : SoundP n cs s) {r l : Nat} {b : Row} (hb : b ∈ movS n cs s r l) : ∃ q rd a, Went n s r b q rd a := by
  have hch := chg_rowsP hn hc hs.rows
  have hok := hch.ok hn hc
  rcases new_mem hb with ⟨rd, k, a, hr, ha, hk, rfl⟩ | ⟨it, hit, e1, e2, rfl⟩
  · have ham := List.mem_of_getElem? ha
    obtain ⟨ra, rc⟩ := hch.part.row r l a ham
    have cell : ∀ a ∈ chg n s r l, a.1 < rd.2.1 := fun a ha => by
      obtain ⟨_, rd', h1, h2⟩ := (hch.part.row r l a ha).1.cell
      rw [hr] at h1; cases h1; exact h2
    obtain ⟨b1, b2, _⟩ := room_b (hch.asc r l) cell ha
    have hl := len_b (want_b hn hr ra).1 b1
    exact ⟨r, rd, a, hr, chg_old ham, rfl, .inl ⟨rfl, rfl, by simp only [moveT]; omega⟩, hl.2.2⟩
  · obtain ⟨c, _, g⟩ := (good_pw hok (time := s.time)).2.2 it hit
    obtain ⟨k, q, l2, t2, i, rfl, hk, hr, hl, ht, hi, rd, a, cr, h1, h2, h3, h4, h5, h6⟩ := g.ok.ex
    have hrt : n.roads[t2]? = some n.roads[t2] := by simp [ht]
    generalize n.roads[t2] = rt at hrt
    obtain ⟨f1, f2⟩ := front_last h2
    have e : entryT n (chg n s) [(k : Int), (q : Int), (l2 : Int), (t2 : Int), (i : Int)] = (minC (freeT rt (chg n s t2 i) - 1) (wantT rd a - (rd.2.1 - 1 - a.1) - 1), (k : Int), (rd.2.1 - 1 - a.1) + 1 + minC (freeT rt (chg n s t2 i) - 1) (wantT rd a - (rd.2.1 - 1 - a.1) - 1), a.2.2.2 + 1) := by
      simp only [entryT, roadO, laneO, toO, intoO, carO, Int.toNat_natCast, h1, hrt, f1]
      try rfl
    rw [e]
    generalize hcell : minC (freeT rt (chg n s t2 i) - 1) (wantT rd a - (rd.2.1 - 1 - a.1) - 1) = cell
    have hb : cell ≤ wantT rd a - (rd.2.1 - 1 - a.1) - 1 := by rw [← hcell]; unfold minC; split <;> omega
    exact ⟨q, rd, a, h1, chg_old (front_mem h2), h3, .inr ⟨rfl, by simp only; omega⟩, by simp only; omega⟩
theorem step_row (hn : n.ok) (hc : CarsOk n cs) (hs : SoundP n cs s) {r l : Nat} {b : Row} (hb : b ∈ (stepS n cs s).rows r l) : (b ∈ movS n cs s r l ∧ ∃ q rd a, Went n s r b q rd a) ∨
    ∃ x, b = (0, x, 0, 0) ∧ x ∈ outT n cs s ∧ headO cs x = (r : Int) ∧ tmO cs x ≤ s.time ∧ firstT cs (outT n cs s) s.time r = some x ∧ freeLT (movS n cs s r) (lns n r) = some l := by
  rcases enter_mem hb with hb | ⟨x, h1, h2, rfl⟩
  · exact .inl ⟨hb, mov_went hn hc hs hb⟩
  · rcases first_some h1 with h | ⟨h3, h4⟩
    · cases h
    · simp only [dueB, Bool.and_eq_true, beq_iff_eq, decide_eq_true_eq] at h4
      exact .inr ⟨x, rfl, h3, h4.1, h4.2, h1, h2⟩
/-- one on a road is behind moving, or leaves -/
theorem mov_all (hn : n.ok) (hc : CarsOk n cs) (hs : SoundP n cs s) {r j : Nat} {a : Row} (ha : a ∈ s.rows r j) : (∃ r' l' b, b ∈ movS n cs s r' l' ∧ b.2.1 = a.2.1) ∨ (a.2.1 ∈ leftT n cs (chg n s) n.roads.length ∧ ∃ rd, n.roads[r]? = some rd ∧ lastLeg cs a = true ∧ rd.2.1 - a.1 ≤ wantT rd a) := by
  have hch := chg_rowsP hn hc hs.rows
  have hok := hch.ok hn hc
  obtain ⟨l, hl⟩ := chg_all hs.rows ha
  obtain ⟨_, rd, hr, _⟩ := (hs.rows.part.row r j a ha).1.cell
  have hrl := (List.getElem?_eq_some_iff.mp hr).1
  have hll : l < lns n r := by
    rcases Nat.lt_or_ge l (lns n r) with g | g
    · exact g
    · rw [hch.emp r l g] at hl; cases hl
  by_cases h1 : frontT rd (chg n s r l) = some a ∧ lastLeg cs a = true
  · right
    obtain ⟨f1, f2⟩ := front_last h1.1
    refine ⟨?_, rd, hr, h1.2, by omega⟩
    unfold leftT
    refine List.mem_flatMap.mpr ⟨r, by simpa using hrl, ?_⟩
    unfold leftR
    rw [hr]
    refine List.mem_flatMap.mpr ⟨l, by simpa using hll, ?_⟩
    unfold leftL
    rw [h1.1]
    simp [h1.2]
  left
  by_cases h2 : a.2.1 ∈ (goodT n cs (chg n s) s.time n.cross.length).map carO
  · obtain ⟨it, hit, e⟩ := List.mem_map.mp h2
    obtain ⟨c, _, g⟩ := (good_pw hok (time := s.time)).2.2 it hit
    obtain ⟨n1, n2, n3, n4, n5, n6, n7, n8⟩ := goer_nat g
    refine ⟨(toO it).toNat, (intoO it).toNat, entryT n (chg n s) it, ?_, by rw [(entry_ok hok hch g).2.1]; exact e⟩
    unfold movS movT newM
    refine (srtR_perm _).mem_iff.mpr (List.mem_append_right _ (List.mem_map.mpr ⟨it, List.mem_filter.mpr ⟨hit, ?_⟩, rfl⟩))
    simp [intoB]
    omega
  · obtain ⟨k, hk⟩ := List.getElem?_of_mem hl
    refine ⟨r, l, moveT rd (chg n s r l) k a, ?_, rfl⟩
    unfold movS movT newM
    refine (srtR_perm _).mem_iff.mpr (List.mem_append_left _ ?_)
    unfold stayT
    rw [hr]
    unfold stayL
    refine List.mem_filterMap.mpr ⟨(a, k), by rw [List.mem_zipIdx_iff_getElem?]; exact hk, ?_⟩
    have : keepB cs ((goodT n cs (chg n s) s.time n.cross.length).map carO) rd (chg n s r l) a = true := by
      unfold keepB leavesB
      rw [decide_eq_false h2]
      simp only [Bool.not_false, Bool.and_true, Bool.not_eq_true', Bool.and_eq_false_iff, decide_eq_false_iff_not]
      by_cases h3 : frontT rd (chg n s r l) = some a
      · exact .inr (by simpa [h3] using h1)
      · exact .inl h3
    rw [if_pos this]
theorem step_arr {p : Int × Int} : p ∈ (stepS n cs s).arr ↔ p ∈ s.arr ∨ ∃ x ∈ leftT n cs (chg n s) n.roads.length, p = (x, s.time + 1) := by
  show p ∈ arrT n cs (chg n s) s.time s.arr ↔ _
  unfold arrT
  rw [(srtA_perm _).mem_iff, List.mem_append, List.mem_map]
  constructor
  · rintro (h | ⟨x, h, rfl⟩)
    · exact .inl h
    · exact .inr ⟨x, h, rfl⟩
  · rintro (h | ⟨x, h, rfl⟩)
    · exact .inl h
    · exact .inr ⟨x, h, rfl⟩
theorem left_row {R : Nat} {x : Int} (h : x ∈ leftT n cs (chg n s) R) : ∃ r j a, a ∈ s.rows r j ∧ a.2.1 = x := by
  obtain ⟨r, rd, l, a, _, _, _, hf, _, rfl⟩ := left_mem h
  obtain ⟨j, hj⟩ := chg_old (front_mem hf)
  exact ⟨r, j, a, hj, rfl⟩
/-- when a car has arrived -/
def arrO (arr : List (Int × Int)) (c : Int) : List Int := (arr.filter fun p => p.1 == c).map (·.2)
theorem arrO_some {arr : List (Int × Int)} (h : arr.Pairwise fun p q => p.1 < q.1) {c t : Int} (hm : (c, t) ∈ arr) : arrO arr c = [t] := by
  induction arr with
  | nil => cases hm
  | cons p arr ih =>
    obtain ⟨h1, h2⟩ := List.pairwise_cons.mp h
    unfold arrO at ih ⊢
    rcases List.mem_cons.mp hm with e | hm
    · subst e
      have : arr.filter (fun p => p.1 == c) = [] := by
        rw [List.filter_eq_nil_iff]
        intro q hq
        have := h1 q hq
        simp only at this
        simp
        omega
      simp [this]
    · have := h1 _ hm
      rw [List.filter_cons_of_neg (by simp; simp only at this; omega)]
      exact ih h2 hm
theorem arrO_none {arr : List (Int × Int)} {c : Int} (h : ∀ p ∈ arr, p.1 ≠ c) : arrO arr c = [] := by
  unfold arrO
  rw [List.map_eq_nil_iff, List.filter_eq_nil_iff]
  intro p hp
  simpa using h p hp
end
end C
set_option Elab.async false
set_option linter.all false
set_option maxRecDepth 100000
/-! One car, before and behind a step. -/
namespace C
open PySem L2 Z
section
variable {n : Net} {cs : List Car} {s : St} {c : Int}
def NoCar (n : Net) (s : St) (c : Int) (R : Nat) : Prop := ∀ r l, r < R → l < lns n r → ∀ a ∈ s.rows r l, a.2.1 ≠ c
theorem NoCar.all (hs : SoundP n cs s) (h : NoCar n s c n.roads.length) : ∀ r l a, a ∈ s.rows r l → a.2.1 ≠ c := fun r l a ha => by
  obtain ⟨_, rd, hr, _⟩ := (hs.rows.part.row r l a ha).1.cell
  have hll : l < lns n r := by
    rcases Nat.lt_or_ge l (lns n r) with g | g
    · exact g
    · rw [hs.rows.emp r l g] at ha; cases ha
  exact h r l (List.getElem?_eq_some_iff.mp hr).1 hll a ha
theorem left_of_arr {p : Int × Int} (hno : ∀ r l a, a ∈ s.rows r l → a.2.1 ≠ c) (h : p ∈ (stepS n cs s).arr) (e : p.1 = c) : p ∈ s.arr := by
  rcases step_arr.mp h with h | ⟨x, hx, rfl⟩
  · exact h
  · obtain ⟨r, j, a, ha, hax⟩ := left_row hx
    exact (hno r j a ha (hax.trans e)).elim
/-- not there before: arrived -/
theorem was_arr (hn : n.ok) (hc : CarsOk n cs) (hs : SoundP n cs s) (ht : s.time ≤ 1998000) (h : arrO s.arr c ≠ []) : (∀ r l a, a ∈ (stepS n cs s).rows r l → a.2.1 ≠ c) ∧ arrO (stepS n cs s).arr c = arrO s.arr c := by
  have hs2 := step_sound hn hc hs ht
  obtain ⟨t, htm⟩ : ∃ t, (c, t) ∈ s.arr := by
    unfold arrO at h
    cases hf : s.arr.filter fun p => p.1 == c with
    | nil => rw [hf] at h; exact (h rfl).elim
    | cons p ps =>
      have hm : p ∈ s.arr.filter fun p => p.1 == c := by rw [hf]; exact List.mem_cons_self
      obtain ⟨h1, h2⟩ := List.mem_filter.mp hm
      have e : p.1 = c := by simpa using h2
      exact ⟨p.2, by rw [← e]; exact h1⟩
  have hm2 := step_arr (n := n) (cs := cs) (s := s).mpr (.inl htm)
  obtain ⟨_, _, _, _, g⟩ := hs2.rows.part.gone _ hm2
  exact ⟨fun r l a ha => g r l a ha, by rw [arrO_some hs2.rows.part.asc hm2, arrO_some hs.rows.part.asc htm]⟩
/-- .. outside -/
theorem was_out (hno : ∀ r l a, a ∈ s.rows r l → a.2.1 ≠ c) (h : arrO s.arr c = []) : arrO (stepS n cs s).arr c = [] := by
  refine arrO_none fun p hp e => ?_
  have hm := left_of_arr hno hp e
  unfold arrO at h
  rw [List.map_eq_nil_iff, List.filter_eq_nil_iff] at h
  exact h p hm (by simpa using e)
theorem came_in (hn : n.ok) (hc : CarsOk n cs) (hs : SoundP n cs s) (hno : ∀ r l a, a ∈ s.rows r l → a.2.1 ≠ c) {r l : Nat} {b : Row} (hb : b ∈ (stepS n cs s).rows r l) (e : b.2.1 = c) : b = (0, c, 0, 0) ∧ headO cs c = (r : Int) ∧ tmO cs c ≤ s.time := by
  rcases step_row hn hc hs hb with ⟨_, q, rd, a, w⟩ | ⟨x, rfl, _, h2, h3, _⟩
  · obtain ⟨j, hj⟩ := w.was
    exact (hno q j a hj (w.car.trans e)).elim
  · simp only at e
    subst e
    exact ⟨rfl, h2, h3⟩
/-- there before: gone -/
theorem went_out (hn : n.ok) (hc : CarsOk n cs) (hs : SoundP n cs s) (ht : s.time ≤ 1998000) {r l : Nat} {a : Row} (ha : a ∈ s.rows r l) (hno : ∀ r l b, b ∈ (stepS n cs s).rows r l → b.2.1 ≠ a.2.1) : arrO (stepS n cs s).arr a.2.1 = [s.time + 1] ∧ ∃ rd, n.roads[r]? = some rd ∧ lastLeg cs a = true ∧ rd.2.1 - a.1 ≤ wantT rd a := by
  rcases mov_all hn hc hs ha with ⟨r', l', b, hb, e⟩ | ⟨h1, h2⟩
  · exact (hno r' l' b (enter_old hb) e).elim
  · exact ⟨arrO_some (step_sound hn hc hs ht).rows.part.asc (step_arr.mpr (.inr ⟨_, h1, rfl⟩)), h2⟩
theorem went_on (hn : n.ok) (hc : CarsOk n cs) (hs : SoundP n cs s) (ht : s.time ≤ 1998000) {r l : Nat} {a : Row} (ha : a ∈ s.rows r l) {r' l' : Nat} {b : Row} (hb : b ∈ (stepS n cs s).rows r' l') (e : b.2.1 = a.2.1) : arrO (stepS n cs s).arr a.2.1 = [] ∧ ∃ rd, Went n s r' b r rd a := by
  have hs2 := step_sound hn hc hs ht
  refine ⟨arrO_none fun p hp e2 => ?_, ?_⟩
  · obtain ⟨_, _, _, _, g⟩ := hs2.rows.part.gone p hp
    exact g r' l' b hb (e.trans e2.symm)
  · rcases step_row hn hc hs hb with ⟨_, q, rd, a', w⟩ | ⟨x, rfl, h1, _⟩
    · obtain ⟨j, hj⟩ := w.was
      obtain ⟨rfl, rfl, rfl⟩ := hs.rows.part.uniq q j r l a' a hj ha (w.car.trans e)
      exact ⟨rd, w⟩
    · simp only at e
      exact ((outT_mem h1).2.2.1 (e ▸ in_cars hs.rows ha)).elim
/-- one car comes to a road at most -/
theorem new_one (hn : n.ok) (hc : CarsOk n cs) (hs : SoundP n cs s) {r l l' : Nat} {b b' : Row} (hb : b ∈ (stepS n cs s).rows r l) (hb' : b' ∈ (stepS n cs s).rows r l') (h : ∀ q j a, a ∈ s.rows q j → a.2.1 ≠ b.2.1) (h' : ∀ q j a, a ∈ s.rows q j → a.2.1 ≠ b'.2.1) : b = b' ∧ l = l' := by
  rcases step_row hn hc hs hb with ⟨_, q, rd, a, w⟩ | ⟨x, rfl, _, _, _, h1, h2⟩
  · obtain ⟨j, hj⟩ := w.was
    exact (h q j a hj w.car).elim
  · rcases step_row hn hc hs hb' with ⟨_, q, rd, a, w⟩ | ⟨y, rfl, _, _, _, h3, h4⟩
    · obtain ⟨j, hj⟩ := w.was
      exact (h' q j a hj w.car).elim
    · rw [h1] at h3; rw [h2] at h4
      cases h3; cases h4
      exact ⟨rfl, rfl⟩
end
end C
set_option Elab.async false
set_option linter.all false
set_option maxRecDepth 100000
/-! Where a car is, walked. -/
namespace C
open PySem L2 Z
section
variable {n : Net} {s : St} {c : Int} {S : Store} {Q : D → Store → Prop}
end
end C
set_option Elab.async false
set_option linter.all false
set_option maxRecDepth 100000
/-! place, arrival. -/
namespace C
open PySem L2 Z
section
variable {n : Net} {s : St} {c : Int} {S : Store} {Q : D → Store → Prop}
end
end C
set_option Elab.async false
set_option linter.all false
set_option maxRecDepth 100000
/-! A car goes on, walked. -/
namespace C
open PySem L2 Z
theorem way_of {n : Net} {cs : List Car} {r : Nat} {a : Row} (h : RowOk n cs r a) {k : Nat} (e : a.2.1 = (k : Int)) : ∃ (c : Car) (g : Nat), cs[k]? = some c ∧ a.2.2.2 = (g : Int) ∧ c.2[g]? = some (r : Int) := by
  obtain ⟨_, h1, c, h2, h3⟩ := h.car
  rw [e] at h2
  simp at h2
  refine ⟨c, a.2.2.2.toNat, h2, by omega, h3⟩
end C
set_option Elab.async false
set_option linter.all false
set_option maxRecDepth 100000
/-! legs, is_past. -/
namespace Z
open PySem L2
theorem dvL_wp {α : Type} {Vs : List Nat} {g : Tg} {ok : Store → Bool} {mb : MDb} {ρ : Env} {S : Store} {Q : Dm → Store → Prop} (I : Nat → Dm → Prop) (c : α → D) (ho : ok S = true) : ∀ (as : List α) (k : Nat) (acc : Dm) (h0 : I k acc)
    (hs : ∀ i a acc, as[i]? = some a → I (k + i) acc → ∃ ρ', g.put (c a) (wipeD ρ Vs) = some ρ' ∧ wp (mb ρ' acc) S fun acc' S' => S' = S ∧ I (k + i + 1) acc') (q : ∀ acc, I (k + as.length) acc → Q acc S), wp (mDvL Vs g ok mTrue mb ρ (as.map c) acc) S Q
  | [], k, acc, h0, hs, q => ⟨acc, S, by simp [mDvL, ho], q acc h0⟩
  | a :: as, k, acc, h0, hs, q => by
    obtain ⟨ρ', h1, acc', S', h2, rfl, h3⟩ := hs 0 a acc rfl h0
    have ht : mTrue ρ' S' = some (true, S') := rfl
    obtain ⟨r, T, h4, h5⟩ := dvL_wp I c ho as (k + 1) acc' h3 (fun i b acc hb hi => by
      have := hs (i + 1) b acc (by simpa using hb) (by rw [show k + (i + 1) = k + 1 + i by omega]; exact hi)
      rw [show k + (i + 1) + 1 = k + 1 + i + 1 by omega] at this
      exact this) (fun acc hi => q acc (by rw [List.length_cons, show k + (as.length + 1) = k + 1 + as.length by omega]; exact hi))
    refine ⟨r, T, ?_, h5⟩
    rw [List.map_cons]
    unfold mDvL
    simp only [ho, if_true, h1, ht, h2]
    exact h4
@[simp] theorem wp_mDOne {k e : ME} {ρ : Env} {acc : Dm} {S : Store} {Q} : wp (mDOne k e ρ acc) S Q ↔ wp (k ρ) S fun kd S2 => wp (e ρ) S2 fun v S3 => ∃ kk, keyD kd = some kk ∧ acc.length < lim ∧ Q (putD acc kk v) S3 := by
  constructor
  · rintro ⟨o, S', h, q⟩
    unfold mDOne at h
    split at h
    · cases h
    · rename_i kd S2 h1
      split at h
      · cases h
      · rename_i v S3 h2
        split at h
        · cases h
        · rename_i kk h3
          split at h
          · rename_i h4
            cases h
            exact ⟨_, _, h1, _, _, h2, _, h3, h4, q⟩
          · cases h
  · rintro ⟨kd, S2, h1, v, S3, h2, kk, h3, h4, q⟩
    exact ⟨_, _, by simp only [mDOne, h1, h2, h3, h4, if_true], q⟩
end Z
namespace C
open PySem L2 Z
def eLg (a : Row) : D := .tup ([a.2.2.2, a.1].map .int)
theorem eLg_eq {a : Row} : eLg a = .tup [.int a.2.2.2, .int a.1] := rfl
def lgR (s : St) (r l : Nat) : Dm := (s.rows r l).map fun a => ((Sum.inl a.2.1 : Key), eLg a)
def lgL (s : St) (r j : Nat) : Dm := (List.range j).flatMap (lgR s r)
def lgN (n : Net) (s : St) (i : Nat) : Dm := (List.range i).flatMap fun r => lgL s r (lns n r)
section
variable {n : Net} {cs : List Car} {s : St}
theorem lgL_mem {r j : Nat} {kv : Key × D} (h : kv ∈ lgL s r j) : ∃ l, l < j ∧ ∃ a ∈ s.rows r l, kv = (Sum.inl a.2.1, eLg a) := by
  obtain ⟨l, hl, hx⟩ := List.mem_flatMap.mp h
  obtain ⟨a, ha, rfl⟩ := List.mem_map.mp hx
  exact ⟨l, by simpa using hl, a, ha, rfl⟩
theorem lgN_mem {i : Nat} {kv : Key × D} (h : kv ∈ lgN n s i) : ∃ r l, r < i ∧ ∃ a ∈ s.rows r l, kv = (Sum.inl a.2.1, eLg a) := by
  obtain ⟨r, hr, hx⟩ := List.mem_flatMap.mp h
  obtain ⟨l, _, a, ha, e⟩ := lgL_mem hx
  exact ⟨r, l, by simpa using hr, a, ha, e⟩
theorem put_fresh {kvs : List (Key × D)} {k : Key} {v : D} (h : ∀ kv ∈ kvs, kv.1 ≠ k) : putD kvs k v = kvs ++ [(k, v)] := by
  unfold putD
  rw [if_neg]
  intro ha
  obtain ⟨kv, hkv, e⟩ := List.any_eq_true.mp ha
  exact h kv hkv (of_decide_eq_true e)
theorem lg_fresh (hs : SoundP n cs s) {i j k : Nat} {a : Row} (ha : (s.rows i j)[k]? = some a) : ∀ kv ∈ lgN n s i ++ lgL s i j ++ (lgR s i j).take k, kv.1 ≠ (Sum.inl a.2.1 : Key) := fun kv hkv e => by
  have ham := List.mem_of_getElem? ha
  rcases List.mem_append.mp hkv with hkv | hkv
  · rcases List.mem_append.mp hkv with hkv | hkv
    · obtain ⟨r, l, hr, b, hb, rfl⟩ := lgN_mem hkv
      obtain ⟨h1, _, _⟩ := hs.rows.part.uniq r l i j b a hb ham (Sum.inl.inj e)
      omega
    · obtain ⟨l, hl, b, hb, rfl⟩ := lgL_mem hkv
      obtain ⟨_, h1, _⟩ := hs.rows.part.uniq i l i j b a hb ham (Sum.inl.inj e)
      omega
  · obtain ⟨m, hm, e2⟩ := List.getElem_of_mem hkv
    simp [lgR] at hm
    rw [List.getElem_take] at e2
    simp only [lgR, List.getElem_map] at e2
    have hb : (s.rows i j)[m]? = some ((s.rows i j)[m]'(by omega)) := by simp
    generalize (s.rows i j)[m]'(by omega) = b at hb e2
    subst e2
    obtain ⟨_, _, h1⟩ := hs.rows.part.uniq i j i j b a (List.mem_of_getElem? hb) ham (Sum.inl.inj e)
    subst h1
    have := pos_uniq (hs.rows.part.cells i j) hb ha
    omega
theorem lg_val (hs : SoundP n cs s) {r l : Nat} {a : Row} (ha : a ∈ s.rows r l) : valD (lgN n s n.roads.length) (.inl a.2.1) = some (eLg a) := by
  obtain ⟨_, rd, hr, _⟩ := (hs.rows.part.row r l a ha).1.cell
  have hrl := (List.getElem?_eq_some_iff.mp hr).1
  have hll : l < lns n r := by
    rcases Nat.lt_or_ge l (lns n r) with g | g
    · exact g
    · rw [hs.rows.emp r l g] at ha; cases ha
  have hm : ((Sum.inl a.2.1 : Key), eLg a) ∈ lgN n s n.roads.length :=
    List.mem_flatMap.mpr ⟨r, by simpa using hrl, List.mem_flatMap.mpr ⟨l, by simpa using hll, List.mem_map.mpr ⟨a, ha, rfl⟩⟩⟩
  unfold valD
  cases hf : (lgN n s n.roads.length).find? fun kv => decide (kv.1 = (Sum.inl a.2.1 : Key)) with
  | none =>
    rw [List.find?_eq_none] at hf
    exact absurd (hf _ hm) (by simp)
  | some kv =>
    have h1 := List.mem_of_find?_eq_some hf
    have h2 : kv.1 = (Sum.inl a.2.1 : Key) := by simpa using List.find?_some hf
    obtain ⟨r', l', _, b, hb, rfl⟩ := lgN_mem h1
    obtain ⟨rfl, rfl, rfl⟩ := hs.rows.part.uniq r' l' r l b a hb ha (Sum.inl.inj h2)
    rfl
theorem lg_none {c : Int} (h : ∀ r l a, a ∈ s.rows r l → a.2.1 ≠ c) : valD (lgN n s n.roads.length) (.inl c) = none := by
  unfold valD
  rw [Option.map_eq_none_iff, List.find?_eq_none]
  intro kv hkv e
  obtain ⟨r, l, _, b, hb, rfl⟩ := lgN_mem hkv
  exact h r l b hb (Sum.inl.inj (of_decide_eq_true e))
theorem lgL_len (hn : n.ok) (hs : SoundP n cs s) (r : Nat) : ∀ j, (lgL s r j).length ≤ 20 * j
  | 0 => by simp [lgL]
  | j + 1 => by
    have h1 := lgL_len hn hs r j
    have h2 := lane_len hn hs.rows r j
    unfold lgL at h1 ⊢
    rw [List.range_succ, List.flatMap_append, List.length_append]
    simp only [List.flatMap_cons, List.flatMap_nil, List.append_nil, lgR, List.length_map] at h1 ⊢
    omega
theorem lgN_len (hn : n.ok) (hs : SoundP n cs s) : ∀ i, (lgN n s i).length ≤ 60 * i
  | 0 => by simp [lgN]
  | i + 1 => by
    have h1 := lgN_len hn hs i
    have h2 := lgL_len hn hs i (lns n i)
    have h3 := lns_le hn i
    unfold lgN at h1 ⊢
    rw [List.range_succ, List.flatMap_append, List.length_append]
    simp only [List.flatMap_cons, List.flatMap_nil, List.append_nil]
    omega
theorem legs_w (hn : n.ok) (hs : SoundP n cs s) : wp (f_legs [eSt n s]) [] fun d S' => d = .ref 0 ∧ S' = [.dct (lgN n s n.roads.length)] := by
  have hf := hn.few
  have eS : ∀ S : Store, asSq S (eSt n s) = some [.int s.time, eRows n.roads.length (lns n) s.rows, .tup (s.arr.map eArr)] := fun S => by simp [eSt]
  have eR : ∀ S : Store, asSq S (eRows n.roads.length (lns n) s.rows) = some ((List.range n.roads.length).map fun r => eLanes (lns n r) (s.rows r)) := fun S => by simp [eRows, eLanes, eLane]
  have eLs : ∀ (S : Store) r, asSq S (eLanes (lns n r) (s.rows r)) = some ((List.range (lns n r)).map fun l => eLane (s.rows r l)) := fun S r => by simp [eLanes]
  have eL : ∀ (S : Store) r l, asSq S (eLane (s.rows r l)) = some ((s.rows r l).map eRow) := fun S r l => by simp [eLane]
  unfold f_legs b_legs
  simp [-aft_nx, startD_eq, eS, eR]
  refine dvL_wp (fun i acc => acc = lgN n s i) (fun r => eLanes (lns n r) (s.rows r)) (by simp [eRows]) (List.range n.roads.length) 0 [] (by simp [lgN]) ?_ ?_
  · intro i r acc hr e
    obtain ⟨hr1, rfl⟩ := List.getElem?_eq_some_iff.mp hr
    simp at hr1 e
    subst e
    refine ⟨_, rfl, ?_⟩
    simp [eLs]
    refine dvL_wp (fun j acc => acc = lgN n s i ++ lgL s i j) (fun l => eLane (s.rows i l)) (by simp [eLanes]) (List.range (lns n i)) 0 _ (by simp [lgL]) ?_ ?_
    · intro j l acc hl e
      obtain ⟨hl1, rfl⟩ := List.getElem?_eq_some_iff.mp hl
      simp at hl1 e
      subst e
      refine ⟨_, rfl, ?_⟩
      simp [eL]
      refine dvL_wp (fun k acc => acc = lgN n s i ++ lgL s i j ++ (lgR s i j).take k) eRow (by simp [eLane]) (s.rows i j) 0 _ (by simp) ?_ ?_
      · intro k a acc ha e
        simp at e
        subst e
        refine ⟨_, rfl, ?_⟩
        have hfr := lg_fresh hs ha
        have hlen : (lgN n s i ++ lgL s i j ++ (lgR s i j).take k).length < lim := by
          have h1 := lgN_len hn hs i
          have h2 := lgL_len hn hs i j
          have h3 := lns_le hn i
          have hl20 := lane_len hn hs.rows i j
          have h5 : (lgR s i j).length = (s.rows i j).length := by simp [lgR]
          have h4 : ((lgR s i j).take k).length ≤ 20 := by rw [List.length_take]; omega
          simp only [List.length_append, lim]
          omega
        have htk : lgN n s i ++ (lgL s i j ++ (lgR s i j).take (k + 1)) = lgN n s i ++ lgL s i j ++ (lgR s i j).take k ++ [((Sum.inl a.2.1 : Key), eLg a)] := by
          rw [List.take_add_one]
          simp [lgR, ha]
        simp only [Nat.zero_add, List.append_assoc, htk]
        simp only [List.append_assoc] at hfr hlen htk ⊢
        simp [eRow_eq, keyD]
        refine ⟨by simpa using hlen, ?_⟩
        rw [put_fresh hfr, eLg_eq]
        simp
      · intro acc e
        subst e
        refine ⟨rfl, ?_⟩
        have : (lgR s i j).take (s.rows i j).length = lgR s i j := List.take_of_length_le (by simp [lgR])
        simp only [Nat.zero_add, this, List.append_assoc]
        congr 1
        unfold lgL
        rw [List.range_succ, List.flatMap_append]
        simp
    · intro acc e
      subst e
      refine ⟨rfl, ?_⟩
      simp only [Nat.zero_add, List.length_range]
      unfold lgN
      rw [List.range_succ, List.flatMap_append]
      simp
  · intro acc e
    subst e
    simp
end
end C
set_option Elab.async false
set_option linter.all false
set_option maxRecDepth 100000
/-! Whether a car is past a cell of a leg. -/
namespace C
open PySem L2 Z
/-- all rows of a state -/
def allR (n : Net) (s : St) : List Row := (List.range n.roads.length).flatMap fun r => (List.range (lns n r)).flatMap fun l => s.rows r l
def rowO (n : Net) (s : St) (c : Int) : Option Row := (allR n s).find? fun a => a.2.1 == c
def geB (a : Row) (g cell : Int) : Bool := decide (g < a.2.2.2) || (decide (a.2.2.2 = g) && decide (cell ≤ a.1))
def thB (n : Net) (s : St) (c g cell : Int) : Bool := match rowO n s c with
  | some a => geB a g cell
  | none => decide (c ∈ s.arr.map (·.1))
section
variable {n : Net} {cs : List Car} {s : St}
theorem rowO_some (hs : SoundP n cs s) {r l : Nat} {a : Row} (ha : a ∈ s.rows r l) : rowO n s a.2.1 = some a := by
  obtain ⟨_, rd, hr, _⟩ := (hs.rows.part.row r l a ha).1.cell
  have hrl := (List.getElem?_eq_some_iff.mp hr).1
  have hll : l < lns n r := by
    rcases Nat.lt_or_ge l (lns n r) with g | g
    · exact g
    · rw [hs.rows.emp r l g] at ha; cases ha
  have hm : a ∈ allR n s := List.mem_flatMap.mpr ⟨r, by simpa using hrl, List.mem_flatMap.mpr ⟨l, by simpa using hll, ha⟩⟩
  unfold rowO
  cases hf : (allR n s).find? fun b => b.2.1 == a.2.1 with
  | none =>
    rw [List.find?_eq_none] at hf
    exact absurd (hf _ hm) (by simp)
  | some b =>
    have h1 := List.mem_of_find?_eq_some hf
    have h2 : b.2.1 = a.2.1 := by simpa using List.find?_some hf
    obtain ⟨r', _, h3⟩ := List.mem_flatMap.mp h1
    obtain ⟨l', _, h4⟩ := List.mem_flatMap.mp h3
    obtain ⟨_, _, e⟩ := hs.rows.part.uniq r' l' r l b a h4 ha h2
    rw [e]
theorem rowO_none {c : Int} (h : ∀ r l a, a ∈ s.rows r l → a.2.1 ≠ c) : rowO n s c = none := by
  unfold rowO
  rw [List.find?_eq_none]
  intro a ha e
  obtain ⟨r, _, h3⟩ := List.mem_flatMap.mp ha
  obtain ⟨l, _, h4⟩ := List.mem_flatMap.mp h3
  exact h r l a h4 (by simpa using e)
theorem thB_row (hs : SoundP n cs s) {r l : Nat} {a : Row} (ha : a ∈ s.rows r l) {g cell : Int} : thB n s a.2.1 g cell = geB a g cell := by
  unfold thB
  rw [rowO_some hs ha]
theorem thB_no {c : Int} (h : ∀ r l a, a ∈ s.rows r l → a.2.1 ≠ c) {g cell : Int} : thB n s c g cell = decide (c ∈ s.arr.map (·.1)) := by
  unfold thB
  rw [rowO_none h]
theorem row_or (n : Net) (s : St) (c : Int) : (∃ r l a, a ∈ s.rows r l ∧ a.2.1 = c) ∨ ∀ r l a, a ∈ s.rows r l → a.2.1 ≠ c := by
  by_cases h : ∃ r l a, a ∈ s.rows r l ∧ a.2.1 = c
  · exact .inl h
  · exact .inr fun r l a ha e => h ⟨r, l, a, ha, e⟩
theorem is_past_w (hn : n.ok) (hc : CarsOk n cs) (hs : SoundP n cs s) {c g cell : Int} {S : Store} {Q : D → Store → Prop} (q : Q (.bl (thB n s c g cell)) S) : wp (callF 0 f_is_past [eSt n s, .int c, .int g, .int cell]) S Q := by
  refine wp_call0 (by simp [nrs]) ?_
  have eS : ∀ S : Store, asSq S (eSt n s) = some [.int s.time, eRows n.roads.length (lns n) s.rows, .tup (s.arr.map eArr)] := fun S => by simp [eSt]
  unfold f_is_past b_is_past
  simp only [wp_mBody, startD_eq, wps_seq]
  simp [-aft_nx, startD_eq]
  refine wp_mDGet1 ?_
  simp [-aft_nx]
  refine wp_mono (legs_w hn hs) ?_
  rintro d T ⟨rfl, rfl⟩
  rcases row_or n s c with ⟨r, l, a, ha, rfl⟩ | hno
  · rw [thB_row hs ha] at q
    refine ⟨rfl, some (eLg a), by simp [dGetO, keyD, lg_val hs ha], ?_⟩
    simp [eLg]
    refine wp_dGeT (ns := [a.2.2.2, a.1]) (ms := [g, cell]) ?_
    rw [lexGe_two]
    simp
    exact q
  · rw [thB_no hno] at q
    refine ⟨rfl, none, by simp [dGetO, keyD, lg_none hno], ?_⟩
    simp [eS]
    refine lcL_all eArr (fun p => .int p.1) _ rfl (fun p hp => by simp [eArr]) ?_
    have hal := hs.rows.part.alen
    have hl : s.arr.length ≤ 30 := Nat.le_trans hal hc.few
    simp [lim]
    refine ⟨by omega, ?_⟩
    refine wp_dInS (xs := s.arr.map (·.1)) (asSq_lst.mpr (by simp)) ?_
    simp at q ⊢
    exact q
theorem filt_idx {r : Int} : ∀ (w : List Int) (k : Nat), r ∈ w → ∃ t, ((w.zipIdx k).filter fun p => decide (p.1 = r)).map (·.2) = (k + w.idxOf r) :: t
  | [], _, h => by cases h
  | x :: w, k, h => by
    by_cases e : x = r
    · subst e
      exact ⟨_, by simp [List.zipIdx_cons, List.filter_cons, List.idxOf_cons]; rfl⟩
    · have h2 : r ∈ w := by
        rcases List.mem_cons.mp h with h | h
        · exact (e h.symm).elim
        · exact h
      obtain ⟨t, ht⟩ := filt_idx w (k + 1) h2
      refine ⟨t, ?_⟩
      rw [List.zipIdx_cons, List.filter_cons_of_neg (by simpa using e), ht, List.idxOf_cons, beq_false_of_ne e]
      simp
      omega
theorem filt_range {r : Int} {w : List Int} (h : r ∈ w) : ∃ t, ((List.range w.length).filter fun k : Nat => decide (w[k]? = some r)) = w.idxOf r :: t := by
  obtain ⟨t, ht⟩ := filt_idx w 0 h
  refine ⟨t, ?_⟩
  have e : w.zipIdx 0 = (List.range w.length).map fun k => (w.getD k 0, k) := by
    apply List.ext_getElem
    · simp
    · intro i h1 h2
      simp at h1
      simp [h1]
  rw [e, List.filter_map, List.map_map] at ht
  rw [Nat.zero_add] at ht
  rw [← ht]
  have e2 : ((fun x : Int × Nat => x.2) ∘ fun k => (w.getD k 0, k)) = id := rfl
  rw [e2, List.map_id]
  apply List.filter_congr
  intro k hk
  simp at hk
  simp [hk]
theorem is_there_w (hn : n.ok) (hc : CarsOk n cs) (hs : SoundP n cs s) {k : Nat} {cr : Car} (hk : cs[k]? = some cr) {r cell : Int} (hr : r ∈ cr.2) {S : Store} {Q : D → Store → Prop} (q : Q (.bl (thB n s k (cr.2.idxOf r) cell)) S) : wp (callF 0 f__law_is_there [eSt n s, eCars cs, .int (k : Nat), .int r, .int cell]) S Q := by
  have hf := hn.few
  have hkl := (List.getElem?_eq_some_iff.mp hk).1
  have hcw := (hc.car cr (List.mem_of_getElem? hk)).2.2
  refine wp_call0 (by simp [nrs]) ?_
  have eC : ∀ S : Store, asSq S (eCars cs) = some (cs.map eCar) := fun S => by simp [eCars]
  have eS : ∀ S : Store, asSq S (eSt n s) = some [.int s.time, eRows n.roads.length (lns n) s.rows, .tup (s.arr.map eArr)] := fun S => by simp [eSt]
  have eR : ∀ S : Store, asSq S (eRows n.roads.length (lns n) s.rows) = some ((List.range n.roads.length).map fun r => eLanes (lns n r) (s.rows r)) := fun S => by simp [eRows, eLanes, eLane]
  have eLs : ∀ (S : Store) r, asSq S (eLanes (lns n r) (s.rows r)) = some ((List.range (lns n r)).map fun l => eLane (s.rows r l)) := fun S r => by simp [eLanes]
  have eL : ∀ (S : Store) r l, asSq S (eLane (s.rows r l)) = some ((s.rows r l).map eRow) := fun S r l => by simp [eLane]
  unfold f__law_is_there b__law_is_there
  simp only [wp_mBody, startD_eq, wps_seq]
  simp [-aft_nx, eS]
  refine lcL_all eArr (fun p => .int p.1) _ rfl (fun p hp => by simp [eArr]) ?_
  have hal := hs.rows.part.alen
  have hl : s.arr.length ≤ 30 := Nat.le_trans hal hc.few
  simp [-aft_nx, lim]
  refine ⟨by omega, ?_⟩
  refine wp_dInS (xs := s.arr.map (·.1)) (asSq_lst.mpr (by simp)) ?_
  by_cases harr : (k : Int) ∈ s.arr.map (·.1)
  · have hno : ∀ r l a, a ∈ s.rows r l → a.2.1 ≠ (k : Int) := fun r l a ha => by
      obtain ⟨p, hp, e⟩ := List.mem_map.mp harr
      obtain ⟨_, _, _, _, g⟩ := hs.rows.part.gone p hp
      rw [← e]
      exact g r l a ha
    rw [thB_no hno, decide_eq_true harr] at q
    simp [harr] at q ⊢
    exact q
  · simp only [harr, decide_false, Bool.false_eq_true, if_false]
    simp [-aft_nx]
    rw [aft_nx]
    simp only [wps_seq]
    simp [-aft_nx, eC, Z.atI_nat, hk, eCar, okR]
    have hw6 : cr.2.length ≤ 6 := hcw.few
    refine ⟨by omega, ?_⟩
    rw [rngD0]
    obtain ⟨t, ht⟩ := filt_range hr
    have htl : (((List.range cr.2.length).filter fun k : Nat => decide (cr.2[k]? = some r)).map fun i : Nat => D.int (i : Nat)).length ≤ 6 := by
      rw [List.length_map]
      exact Nat.le_trans (List.length_filter_le _ _) (by simpa using hw6)
    refine lcL_pure _ (fun i : Nat => decide (cr.2[i]? = some r)) (fun i => .int (i : Nat)) _ rfl ?_ ?_
    · intro i hi
      simp at hi
      simp [-aft_nx, eC, Z.atI_nat, hk, eCar, hi]
      exact Decidable.or_iff_not_imp_left.mpr fun h => by simpa using h
    · refine ⟨by simp only [lim]; omega, ?_⟩
      rw [ht]
      simp [-aft_nx, eC]
      generalize cr.2.idxOf r = g at q
      rw [aft_nx]
      simp only [wps_seq]
      simp [-aft_nx, eS, eR]
      refine forL_map (fun i ρ T => T = [] ∧ NoCar n s k i ∧ ∃ x y z a, ρ = [some (eSt n s), some (eCars cs), some (.int (k : Nat)), some (.int r), some (.int cell), some (.int (g : Nat)), x, y, z, a]) _ _ ⟨rfl, fun r l h => by omega, _, _, _, _, rfl⟩ ?_ ?_
      · rintro i i' ρ T hi ⟨rfl, hno, x, y, z, w, rfl⟩
        obtain ⟨hi1, hi2⟩ := List.getElem?_eq_some_iff.mp hi
        simp at hi1 hi2
        subst hi2
        refine ⟨by simp [eRows], _, rfl, ?_⟩
        simp [-aft_nx, eLs]
        refine forL_map (fun j ρ T => T = [] ∧ (∀ l, l < j → ∀ a ∈ s.rows i l, a.2.1 ≠ (k : Int)) ∧ ∃ y z a, ρ = [some (eSt n s), some (eCars cs), some (.int (k : Nat)), some (.int r), some (.int cell), some (.int (g : Nat)), some (eLanes (lns n i) (s.rows i)), y, z, a]) _ _ ⟨rfl, fun l h => by omega, _, _, _, rfl⟩ ?_ ?_
        · rintro j j' ρ T hj ⟨rfl, hno2, y, z, w, rfl⟩
          obtain ⟨hj1, hj2⟩ := List.getElem?_eq_some_iff.mp hj
          simp at hj1 hj2
          subst hj2
          refine ⟨by simp [eLanes], _, rfl, ?_⟩
          simp [-aft_nx, eL]
          refine forL_map (fun m ρ T => T = [] ∧ (∀ a ∈ (s.rows i j).take m, a.2.1 ≠ (k : Int)) ∧ ∃ z a, ρ = [some (eSt n s), some (eCars cs), some (.int (k : Nat)), some (.int r), some (.int cell), some (.int (g : Nat)), some (eLanes (lns n i) (s.rows i)), some (eLane (s.rows i j)), z, a]) eRow _ ⟨rfl, by simp, _, _, rfl⟩ ?_ ?_
          · rintro m a ρ T hm ⟨rfl, hno3, z, w, rfl⟩
            refine ⟨by simp [eLane], _, rfl, ?_⟩
            have ham := List.mem_of_getElem? hm
            by_cases hcar : a.2.1 = (k : Int)
            · have q1 := q
              rw [← hcar, thB_row hs ham] at q1
              unfold geB at q1
              simp [eRow_eq, hcar]
              rcases Int.lt_trichotomy a.2.2.2 (g : Int) with h | h | h
              · refine .inl ⟨by omega, .inl ⟨by omega, ?_⟩⟩
                rw [decide_eq_false (by omega), decide_eq_false (by omega)] at q1
                simpa using q1
              · refine .inl ⟨by omega, .inr ⟨h, ?_⟩⟩
                rw [decide_eq_false (by omega), decide_eq_true h] at q1
                simpa using q1
              · refine .inr ⟨h, ?_⟩
                rw [decide_eq_true h] at q1
                simpa using q1
            · simp [eRow_eq, hcar]
              rw [List.take_add_one, hm]
              intro b b1 b2 b3 hb
              rcases List.mem_append.mp hb with hb | hb
              · exact hno3 _ hb
              · simp at hb
                rw [← hb] at hcar
                exact hcar
          · rintro ρ T ⟨rfl, hno3, z, w, rfl⟩
            rw [List.take_length] at hno3
            refine ⟨by simp [eLane], ?_⟩
            simp
            intro l hl a b1 b2 b3 ha
            rcases Nat.lt_or_ge l j with g | g
            · exact hno2 l g _ ha
            · have : l = j := by omega
              subst this
              exact hno3 _ ha
        · rintro ρ T ⟨rfl, hno2, y, z, w, rfl⟩
          refine ⟨by simp [eLanes], ?_⟩
          simp at hno2
          simp
          intro r l hr hl a ha
          rcases Nat.lt_or_ge r i with g | g
          · exact hno r l g hl a ha
          · have : r = i := by omega
            subst this
            exact hno2 l hl _ _ _ _ ha
      · rintro ρ T ⟨rfl, hno, x, y, z, w, rfl⟩
        rw [List.length_range] at hno
        rw [thB_no (NoCar.all hs hno), decide_eq_false harr] at q
        rw [aft_nx]
        simp [eRows]
        exact q
end
end C
set_option Elab.async false
set_option linter.all false
set_option maxRecDepth 100000
/-! passed, and the law's due. -/
namespace C
open PySem L2 Z
def gB (n : Net) (cs : List Car) (s0 s1 : St) (r cell : Int) (k : Nat) : Bool := match cs[k]? with
  | some cr => decide (r ∈ cr.2) && (thB n s1 k (cr.2.idxOf r) cell && !thB n s0 k (cr.2.idxOf r) cell)
  | none => false
def pairA (n : Net) (cs : List Car) (s0 s1 : St) (r cell : Int) (m : Nat) : List (Int × Int) := ((List.range m).filter (gB n cs s0 s1 r cell)).map fun k : Nat => (s1.time, (k : Int))
def passL (n : Net) (cs : List Car) (ss : List St) (r cell : Int) (i : Nat) : List (Int × Int) := (List.range i).flatMap fun j => match ss[j]?, ss[j + 1]? with
  | some s0, some s1 => pairA n cs s0 s1 r cell cs.length
  | _, _ => []
def eP2 (p : Int × Int) : D := .tup [.int p.1, .int p.2]
section
variable {n : Net} {cs : List Car} {ss : List St}
theorem rng1 (k : Nat) : rngD 1 k = (List.range k).map fun i => .int ((i + 1 : Nat) : Int) := by
  unfold rngD
  apply List.map_congr_left
  intro i _
  congr 1
  omega
theorem pairA_succ {s0 s1 : St} {r cell : Int} {m : Nat} : pairA n cs s0 s1 r cell (m + 1) = pairA n cs s0 s1 r cell m ++ if gB n cs s0 s1 r cell m = true then [(s1.time, (m : Int))] else [] := by
  unfold pairA
  rw [List.range_succ, List.filter_append, List.map_append]
  congr 1
  by_cases h : gB n cs s0 s1 r cell m = true
  · simp [h]
  · simp [h]
theorem pairA_len {s0 s1 : St} {r cell : Int} {m : Nat} : (pairA n cs s0 s1 r cell m).length ≤ m := by
  unfold pairA
  rw [List.length_map]
  exact Nat.le_trans (List.length_filter_le _ _) (by simp)
theorem passL_succ {r cell : Int} {i : Nat} {s0 s1 : St} (h0 : ss[i]? = some s0) (h1 : ss[i + 1]? = some s1) : passL n cs ss r cell (i + 1) = passL n cs ss r cell i ++ pairA n cs s0 s1 r cell cs.length := by
  unfold passL
  rw [List.range_succ, List.flatMap_append]
  simp [h0, h1]
theorem passL_len {r cell : Int} : ∀ i, (passL n cs ss r cell i).length ≤ cs.length * i
  | 0 => by simp [passL]
  | i + 1 => by
    have ih := passL_len (r := r) (cell := cell) i
    have e : passL n cs ss r cell (i + 1) = passL n cs ss r cell i ++ (match ss[i]?, ss[i + 1]? with
        | some s0, some s1 => pairA n cs s0 s1 r cell cs.length
        | _, _ => []) := by
      unfold passL
      rw [List.range_succ, List.flatMap_append]
      simp
    rw [e, List.length_append, Nat.mul_succ]
    have : (match ss[i]?, ss[i + 1]? with
        | some s0, some s1 => pairA n cs s0 s1 r cell cs.length
        | _, _ => []).length ≤ cs.length := by
      split
      · exact pairA_len
      · simp
    omega
/-- the loop over the cars, in passed -/
theorem passed_w (hn : n.ok) (hc : CarsOk n cs) (hss : ∀ s ∈ ss, SoundP n cs s) (hl : ss.length ≤ 200) {S0 : Store} {dS : D} (hA : ∀ U, asSq (S0 ++ U) dS = some (ss.map (eSt n))) {r cell : Int} {Q : D → Store → Prop}
    (q : Q (.ref S0.length) (S0 ++ [.lst ((passL n cs ss r cell (ss.length - 1)).map eP2)])) : wp (f_passed [eNet n, eCars cs, dS, .int r, .int cell]) S0 Q := by
  have hcf := hc.few
  have hg : ∀ x, asSq (S0 ++ [x]) dS = some (ss.map (eSt n)) := fun x => hA [x]
  have eC : ∀ S : Store, asSq S (eCars cs) = some (cs.map eCar) := fun S => by simp [eCars]
  unfold f_passed b_passed
  simp [-aft_nx, startD_eq]
  rw [aft_nx]
  simp only [wps_seq]
  simp [-aft_nx, hg, okR]
  refine ⟨_, _, ⟨rfl, rfl⟩, by omega, ?_⟩
  have eN : ((ss.length : Int) - 1).toNat = ss.length - 1 := by omega
  rw [eN, rng1]
  refine forL_map (fun i ρ T => T = S0 ++ [.lst ((passL n cs ss r cell i).map eP2)] ∧ ∃ a b c d, ρ = [some (eNet n), some (eCars cs), some dS, some (.int r), some (.int cell), some (.ref S0.length), a, b, c, d]) _ _ ⟨by simp [passL], _, _, _, _, rfl⟩ ?_ ?_
  · rintro i i' ρ T hi ⟨rfl, a, b, c, d, rfl⟩
    obtain ⟨hi1, hi2⟩ := List.getElem?_eq_some_iff.mp hi
    simp at hi1 hi2
    subst hi2
    obtain ⟨s0, h0⟩ : ∃ s0, ss[i]? = some s0 := ⟨ss[i]'(by omega), by simp⟩
    obtain ⟨s1, h1⟩ : ∃ s1, ss[i + 1]? = some s1 := ⟨ss[i + 1]'(by omega), by simp⟩
    have hs0 := hss s0 (List.mem_of_getElem? h0)
    have hs1 := hss s1 (List.mem_of_getElem? h1)
    rw [passL_succ h0 h1]
    have hpl := passL_len (n := n) (cs := cs) (ss := ss) (r := r) (cell := cell) i
    have hpl2 : cs.length * i ≤ 30 * 200 := Nat.mul_le_mul hcf (by omega)
    generalize passL n cs ss r cell i = pre at hpl ⊢
    generalize hat : i + 1 = at' at h1 ⊢
    have a0 : atI (ss.map (eSt n)) ((at' : Int) - 1) = some (eSt n s0) := by
      rw [show ((at' : Int) - 1) = (i : Int) by omega, Z.atI_nat]
      simp [h0]
    have a1 : atI (ss.map (eSt n)) (at' : Int) = some (eSt n s1) := by
      rw [Z.atI_nat]
      simp [h1]
    refine ⟨rfl, _, rfl, ?_⟩
    simp [-aft_nx, eC, enum_map]
    refine forL_map (fun k ρ T => T = S0 ++ [.lst ((pre ++ pairA n cs s0 s1 r cell k).map eP2)] ∧ ∃ b c d, ρ = [some (eNet n), some (eCars cs), some dS, some (.int r), some (.int cell), some (.ref S0.length), some (.int (at' : Nat)), b, c, d]) _ _ ⟨by simp [pairA], _, _, _, rfl⟩ ?_ ?_
    · rintro k ⟨cr, k'⟩ ρ T hk ⟨rfl, b, c, d, rfl⟩
      obtain ⟨hk1, hk2⟩ := List.getElem?_eq_some_iff.mp hk
      simp at hk1 hk2
      obtain ⟨hcr, hkk⟩ := hk2
      subst hkk
      have hk : cs[k]? = some cr := by simp [hcr, hk1]
      rw [pairA_succ]
      have hpa := pairA_len (n := n) (cs := cs) (s0 := s0) (s1 := s1) (r := r) (cell := cell) (m := k)
      have hgb : gB n cs s0 s1 r cell k = (decide (r ∈ cr.2) && (thB n s1 k (cr.2.idxOf r) cell && !thB n s0 k (cr.2.idxOf r) cell)) := by
        unfold gB
        rw [hk]
      rw [hgb]
      generalize pairA n cs s0 s1 r cell k = pp at hpa ⊢
      refine ⟨by simp [eCars], _, rfl, ?_⟩
      simp [-aft_nx, eCar]
      refine wp_dInS (xs := cr.2) (by simp) ?_
      by_cases hr : r ∈ cr.2
      · simp [-aft_nx, hr, hg]
        rw [aft_nx]
        simp [-aft_nx, hg, a1]
        refine is_past_w hn hc hs1 ?_
        generalize thB n s1 k (cr.2.idxOf r) cell = b1
        cases b1 with
        | false => simp
        | true =>
          simp only [true_and]
          refine .inr ⟨by simp, _, hg _, _, a0, ?_⟩
          refine is_past_w hn hc hs0 ?_
          generalize thB n s0 k (cr.2.idxOf r) cell = b0
          cases b0 with
          | true => simp
          | false =>
            simp [hg, a1, eSt, eP2]
            simp [lim]
            omega
      · simp [hr]
    · rintro ρ T ⟨rfl, b, c, d, rfl⟩
      rw [List.length_zipIdx]
      exact ⟨by simp [eCars], by simp, _, _, _, _, rfl⟩
  · rintro ρ T ⟨rfl, a, b, c, d, rfl⟩
    rw [aft_nx]
    simp
    exact q
end
end C
set_option Elab.async false
set_option linter.all false
set_option maxRecDepth 100000
/-! The law's due; passed without states. -/
namespace C
open PySem L2 Z
section
variable {n : Net} {cs : List Car} {ss : List St}
theorem passed0_w {S0 : Store} {Q : D → Store → Prop} (q : Q (.ref S0.length) (S0 ++ [.lst []])) : wp (f_passed [eNet n, eCars cs, .lst [], .int 0, .int 0]) S0 Q := by
  unfold f_passed b_passed
  simp [-aft_nx, startD_eq]
  rw [aft_nx]
  simp only [wps_seq]
  simp [-aft_nx, okR]
  refine ⟨_, _, ⟨rfl, rfl⟩, by omega, ?_⟩
  rw [show ((0 : Int) - 1).toNat = 0 by omega, rng1]
  refine forL_map (fun i ρ T => T = S0 ++ [.lst []] ∧ ∃ a b c d, ρ = [some (eNet n), some (eCars cs), some (.lst []), some (.int 0), some (.int 0), some (.ref S0.length), a, b, c, d]) _ _ ⟨rfl, _, _, _, _, rfl⟩ ?_ ?_
  · rintro i i' ρ T hi
    simp at hi
  · rintro ρ T ⟨rfl, a, b, c, d, rfl⟩
    rw [aft_nx]
    simp
    exact q
theorem due_w (hn : n.ok) (hc : CarsOk n cs) (hss : ∀ s ∈ ss, SoundP n cs s) (hl : ss.length ≤ 200) {S0 : Store} {dS : D} (hA : ∀ U, asSq (S0 ++ U) dS = some (ss.map (eSt n))) {r cell : Int} {Q : D → Store → Prop}
    (q : Q (.ref S0.length) (S0 ++ [.lst ((passL n cs ss r cell (ss.length - 1)).map eP2)])) : wp (f__law_due [eCars cs, dS, .int r, .int cell]) S0 Q := by
  have hcf := hc.few
  have hg : ∀ x, asSq (S0 ++ [x]) dS = some (ss.map (eSt n)) := fun x => hA [x]
  have eC : ∀ S : Store, asSq S (eCars cs) = some (cs.map eCar) := fun S => by simp [eCars]
  unfold f__law_due b__law_due
  simp [-aft_nx, startD_eq]
  rw [aft_nx]
  simp only [wps_seq]
  simp [-aft_nx, hg, okR]
  refine ⟨_, _, ⟨rfl, rfl⟩, by omega, ?_⟩
  have eN : ((ss.length : Int) - 1).toNat = ss.length - 1 := by omega
  rw [eN, rng1]
  refine forL_map (fun i ρ T => T = S0 ++ [.lst ((passL n cs ss r cell i).map eP2)] ∧ ∃ a b, ρ = [some (eCars cs), some dS, some (.int r), some (.int cell), some (.ref S0.length), a, b]) _ _ ⟨by simp [passL], _, _, rfl⟩ ?_ ?_
  · rintro i i' ρ T hi ⟨rfl, a, b, rfl⟩
    obtain ⟨hi1, hi2⟩ := List.getElem?_eq_some_iff.mp hi
    simp at hi1 hi2
    subst hi2
    obtain ⟨s0, h0⟩ : ∃ s0, ss[i]? = some s0 := ⟨ss[i]'(by omega), by simp⟩
    obtain ⟨s1, h1⟩ : ∃ s1, ss[i + 1]? = some s1 := ⟨ss[i + 1]'(by omega), by simp⟩
    have hs0 := hss s0 (List.mem_of_getElem? h0)
    have hs1 := hss s1 (List.mem_of_getElem? h1)
    rw [passL_succ h0 h1]
    have hpl := passL_len (n := n) (cs := cs) (ss := ss) (r := r) (cell := cell) i
    have hpl2 : cs.length * i ≤ 30 * 200 := Nat.mul_le_mul hcf (by omega)
    generalize passL n cs ss r cell i = pre at hpl ⊢
    generalize hat : i + 1 = at' at h1 ⊢
    have a0 : atI (ss.map (eSt n)) ((at' : Int) - 1) = some (eSt n s0) := by
      rw [show ((at' : Int) - 1) = (i : Int) by omega, Z.atI_nat]
      simp [h0]
    have a1 : atI (ss.map (eSt n)) (at' : Int) = some (eSt n s1) := by
      rw [Z.atI_nat]
      simp [h1]
    refine ⟨rfl, _, rfl, ?_⟩
    simp [-aft_nx, eC, okR]
    refine ⟨by omega, ?_⟩
    refine forL_rng (fun k ρ T => T = S0 ++ [.lst ((pre ++ pairA n cs s0 s1 r cell k).map eP2)] ∧ ∃ b, ρ = [some (eCars cs), some dS, some (.int r), some (.int cell), some (.ref S0.length), some (.int (at' : Nat)), b]) ⟨by simp [pairA], _, rfl⟩ ?_ ?_
    · rintro k ρ T hk ⟨rfl, b, rfl⟩
      obtain ⟨cr, hcr⟩ : ∃ cr, cs[k]? = some cr := ⟨cs[k], by simp [hk]⟩
      rw [pairA_succ]
      have hpa := pairA_len (n := n) (cs := cs) (s0 := s0) (s1 := s1) (r := r) (cell := cell) (m := k)
      have hgb : gB n cs s0 s1 r cell k = (decide (r ∈ cr.2) && (thB n s1 k (cr.2.idxOf r) cell && !thB n s0 k (cr.2.idxOf r) cell)) := by
        unfold gB
        rw [hcr]
      rw [hgb]
      generalize pairA n cs s0 s1 r cell k = pp at hpa ⊢
      refine ⟨_, rfl, ?_⟩
      simp [-aft_nx, eC, Z.atI_nat, hcr, eCar]
      refine wp_dInS (xs := cr.2) (by simp) ?_
      by_cases hr : r ∈ cr.2
      · simp [-aft_nx, hr, hg, h1]
        refine is_there_w hn hc hs1 hcr hr ?_
        generalize thB n s1 k (cr.2.idxOf r) cell = b1
        cases b1 with
        | false => simp
        | true =>
          simp only [true_and]
          refine .inr ⟨by simp, ?_⟩
          simp [-aft_nx, hg, a0]
          refine is_there_w hn hc hs0 hcr hr ?_
          generalize thB n s0 k (cr.2.idxOf r) cell = b0
          cases b0 with
          | true => simp
          | false =>
            simp [hg, h1, eSt, eP2]
            simp [lim]
            omega
      · simp [hr]
    · rintro ρ T ⟨rfl, b, rfl⟩
      exact ⟨by simp, _, _, rfl⟩
  · rintro ρ T ⟨rfl, a, b, rfl⟩
    rw [aft_nx]
    simp
    exact q
end
end C
set_option Elab.async false
set_option linter.all false
set_option maxRecDepth 100000
/-! Passing, plainly: once at most, later cells not earlier. -/
namespace C
open PySem L2 Z
def stS (n : Net) (cs : List Car) (s0 : St) : Nat → St
  | 0 => s0
  | k + 1 => stepS n cs (stS n cs s0 k)
section
variable {n : Net} {cs : List Car} {s0 : St}
theorem stS_time : ∀ k, (stS n cs s0 k).time = s0.time + (k : Nat)
  | 0 => by simp [stS]
  | k + 1 => by
    show (stS n cs s0 k).time + 1 = _
    rw [stS_time k]
    omega
theorem stS_sound (hn : n.ok) (hc : CarsOk n cs) (h0 : SoundP n cs s0) (ht : s0.time ≤ 1000) : ∀ k, k ≤ 1000 → SoundP n cs (stS n cs s0 k)
  | 0, _ => h0
  | k + 1, hk => step_sound hn hc (stS_sound hn hc h0 ht k (by omega)) (by rw [stS_time]; omega)
theorem stS_run : ∀ k, runS n cs k = stS n cs begS k
  | 0 => rfl
  | k + 1 => by
    show stepS n cs (runS n cs k) = _
    rw [stS_run k]
    rfl
theorem stS_add (j : Nat) : ∀ k, stS n cs s0 (j + k) = stS n cs (stS n cs s0 j) k
  | 0 => rfl
  | k + 1 => by
    show stepS n cs (stS n cs s0 (j + k)) = _
    rw [stS_add j k]
    rfl
theorem geB_le {a : Row} {g c1 c2 : Int} (h : c1 ≤ c2) (e : geB a g c2 = true) : geB a g c1 = true := by
  unfold geB at e ⊢
  simp only [Bool.or_eq_true, decide_eq_true_eq, Bool.and_eq_true] at e ⊢
  omega
theorem thB_le {s : St} {c g c1 c2 : Int} (h : c1 ≤ c2) (e : thB n s c g c2 = true) : thB n s c g c1 = true := by
  unfold thB at e ⊢
  cases hr : rowO n s c with
  | some a => rw [hr] at e; exact geB_le h e
  | none => rw [hr] at e; exact e
/-- once there, there for good -/
theorem th_step (hn : n.ok) (hc : CarsOk n cs) {s : St} (hs : SoundP n cs s) (ht : s.time ≤ 1998000) {c g cell : Int} (h : thB n s c g cell = true) : thB n (stepS n cs s) c g cell = true := by
  have hs2 := step_sound hn hc hs ht
  rcases row_or n s c with ⟨r, l, a, ha, rfl⟩ | hno
  · rw [thB_row hs ha] at h
    rcases row_or n (stepS n cs s) a.2.1 with ⟨r', l', b, hb, e⟩ | hno2
    · rw [← e, thB_row hs2 hb]
      obtain ⟨_, rd, w⟩ := went_on hn hc hs ht ha hb e
      obtain ⟨hb1, hb2⟩ := (hs2.rows.part.row r' l' b hb).1.spd
      unfold geB at h ⊢
      simp only [Bool.or_eq_true, decide_eq_true_eq, Bool.and_eq_true] at h ⊢
      rcases w.leg with ⟨_, e1, e2⟩ | ⟨e1, e2⟩
      · omega
      · omega
    · rw [thB_no hno2]
      have := (went_out hn hc hs ht ha hno2).1
      have hm : a.2.1 ∈ (stepS n cs s).arr.map (·.1) := by
        unfold arrO at this
        have hne : ((stepS n cs s).arr.filter fun p => p.1 == a.2.1) ≠ [] := fun e => by rw [e] at this; cases this
        obtain ⟨p, hp⟩ := List.exists_mem_of_ne_nil _ hne
        obtain ⟨h1, h2⟩ := List.mem_filter.mp hp
        exact List.mem_map.mpr ⟨p, h1, by simpa using h2⟩
      exact decide_eq_true hm
  · rw [thB_no hno] at h
    obtain ⟨p, hp, rfl⟩ := List.mem_map.mp (of_decide_eq_true h)
    have hp2 : p ∈ (stepS n cs s).arr := step_arr.mpr (.inl hp)
    have hno2 : ∀ r l a, a ∈ (stepS n cs s).rows r l → a.2.1 ≠ p.1 := by
      obtain ⟨_, _, _, _, g⟩ := hs2.rows.part.gone p hp2
      exact g
    rw [thB_no hno2]
    exact decide_eq_true (List.mem_map.mpr ⟨p, hp2, rfl⟩)
theorem th_mono (hn : n.ok) (hc : CarsOk n cs) (h0 : SoundP n cs s0) (ht : s0.time ≤ 1000) {c g cell : Int} {i : Nat} : ∀ k, i + k ≤ 1000 → thB n (stS n cs s0 i) c g cell = true → thB n (stS n cs s0 (i + k)) c g cell = true
  | 0, _, h => h
  | k + 1, hk, h => th_step hn hc (stS_sound hn hc h0 ht (i + k) (by omega)) (by rw [stS_time]; omega) (th_mono hn hc h0 ht k (by omega) h)
def passT (n : Net) (cs : List Car) (s0 : St) (r cell : Int) (i : Nat) : List (Int × Int) := (List.range i).flatMap fun j => pairA n cs (stS n cs s0 j) (stS n cs s0 (j + 1)) r cell cs.length
theorem passT_succ {r cell : Int} {i : Nat} : passT n cs s0 r cell (i + 1) = passT n cs s0 r cell i ++ pairA n cs (stS n cs s0 i) (stS n cs s0 (i + 1)) r cell cs.length := by
  unfold passT
  rw [List.range_succ, List.flatMap_append]
  simp
theorem passL_T {r cell : Int} {m : Nat} : passL n cs ((List.range m).map (stS n cs s0)) r cell (m - 1) = passT n cs s0 r cell (m - 1) := by
  unfold passL passT
  rw [List.flatMap_def, List.flatMap_def]
  congr 1
  apply List.map_congr_left
  intro j hj
  have hj : j < m - 1 := by simpa using hj
  rw [List.getElem?_map, List.getElem?_map, List.getElem?_range (by omega), List.getElem?_range (by omega)]
  rfl
theorem passT_mem {r cell : Int} {i : Nat} {p : Int × Int} : p ∈ passT n cs s0 r cell i ↔ ∃ j k : Nat, j < i ∧ k < cs.length ∧ gB n cs (stS n cs s0 j) (stS n cs s0 (j + 1)) r cell k = true ∧ p = ((stS n cs s0 (j + 1)).time, (k : Int)) := by
  unfold passT pairA
  constructor
  · intro h
    obtain ⟨j, hj, h⟩ := List.mem_flatMap.mp h
    obtain ⟨k, hk, rfl⟩ := List.mem_map.mp h
    obtain ⟨h1, h2⟩ := List.mem_filter.mp hk
    exact ⟨j, k, by simpa using hj, by simpa using h1, h2, rfl⟩
  · rintro ⟨j, k, h1, h2, h3, rfl⟩
    exact List.mem_flatMap.mpr ⟨j, by simpa using h1, List.mem_map.mpr ⟨k, List.mem_filter.mpr ⟨by simpa using h2, h3⟩, rfl⟩⟩
theorem gB_th {s1 s2 : St} {r cell : Int} {k : Nat} (h : gB n cs s1 s2 r cell k = true) : ∃ cr, cs[k]? = some cr ∧ r ∈ cr.2 ∧ thB n s2 k (cr.2.idxOf r) cell = true ∧ thB n s1 k (cr.2.idxOf r) cell = false := by
  unfold gB at h
  split at h
  · rename_i cr hk
    simp only [Bool.and_eq_true, decide_eq_true_eq, Bool.not_eq_true'] at h
    exact ⟨cr, hk, h.1, h.2.1, h.2.2⟩
  · cases h
theorem gB_mk {s1 s2 : St} {r cell : Int} {k : Nat} {cr : Car} (hk : cs[k]? = some cr) (hr : r ∈ cr.2) (h2 : thB n s2 k (cr.2.idxOf r) cell = true) (h1 : thB n s1 k (cr.2.idxOf r) cell = false) : gB n cs s1 s2 r cell k = true := by
  unfold gB
  rw [hk]
  simp [hr, h1, h2]
theorem gB_uniq (hn : n.ok) (hc : CarsOk n cs) (h0 : SoundP n cs s0) (ht : s0.time ≤ 1000) {r cell : Int} {k i j : Nat} (hi : i < 1000) (hj : j < 1000) (h1 : gB n cs (stS n cs s0 i) (stS n cs s0 (i + 1)) r cell k = true) (h2 : gB n cs (stS n cs s0 j) (stS n cs s0 (j + 1)) r cell k = true) : i = j := by
  obtain ⟨cr, hk, hr, a1, a2⟩ := gB_th h1
  obtain ⟨cr', hk', _, b1, b2⟩ := gB_th h2
  rw [hk] at hk'
  cases hk'
  rcases Nat.lt_trichotomy i j with h | h | h
  · have := th_mono hn hc h0 ht (i := i + 1) (j - (i + 1)) (by omega) a1
    rw [show i + 1 + (j - (i + 1)) = j by omega, b2] at this
    cases this
  · exact h
  · have := th_mono hn hc h0 ht (i := j + 1) (i - (j + 1)) (by omega) b1
    rw [show j + 1 + (i - (j + 1)) = i by omega, a2] at this
    cases this
theorem pass_uniq (hn : n.ok) (hc : CarsOk n cs) (h0 : SoundP n cs s0) (ht : s0.time ≤ 1000) {r cell : Int} {i : Nat} (hi : i < 1000) {t1 t2 c : Int} (h1 : (t1, c) ∈ passT n cs s0 r cell i) (h2 : (t2, c) ∈ passT n cs s0 r cell i) : t1 = t2 := by
  obtain ⟨j, k, a1, a2, a3, a4⟩ := passT_mem.mp h1
  obtain ⟨j', k', b1, b2, b3, b4⟩ := passT_mem.mp h2
  cases a4
  have hkk : k = k' := by have := congrArg Prod.snd b4; simp only at this; omega
  subst hkk
  have := gB_uniq hn hc h0 ht (by omega) (by omega) a3 b3
  subst this
  exact (congrArg Prod.fst b4).symm
theorem pairA_cnt {s1 s2 : St} {r cell c : Int} (m : Nat) : ((pairA n cs s1 s2 r cell m).map (·.2)).count c ≤ 1 := by
  unfold pairA
  rw [List.map_map]
  have : (((List.range m).filter (gB n cs s1 s2 r cell)).map ((fun x : Int × Int => x.2) ∘ fun k : Nat => (s2.time, (k : Int)))).Nodup := by
    refine List.Pairwise.map _ (fun a b h => ?_) ((List.nodup_range (n := m)).filter _)
    simp only [Function.comp]
    omega
  exact List.nodup_iff_count.mp this c
theorem pass_cnt (hn : n.ok) (hc : CarsOk n cs) (h0 : SoundP n cs s0) (ht : s0.time ≤ 1000) {r cell c : Int} : ∀ i, i < 1000 → ((passT n cs s0 r cell i).map (·.2)).count c ≤ 1
  | 0, _ => by simp [passT]
  | i + 1, hi => by
    have ih := pass_cnt hn hc h0 ht (r := r) (cell := cell) (c := c) i (by omega)
    rw [passT_succ, List.map_append, List.count_append]
    have h1 := pairA_cnt (n := n) (cs := cs) (s1 := stS n cs s0 i) (s2 := stS n cs s0 (i + 1)) (r := r) (cell := cell) (c := c) cs.length
    by_cases hm : c ∈ (passT n cs s0 r cell i).map (·.2)
    · have : c ∉ (pairA n cs (stS n cs s0 i) (stS n cs s0 (i + 1)) r cell cs.length).map (·.2) := fun hm2 => by
        obtain ⟨p, hp, rfl⟩ := List.mem_map.mp hm
        obtain ⟨j, k, b1, b2, b3, rfl⟩ := passT_mem.mp hp
        obtain ⟨p2, hp2, e⟩ := List.mem_map.mp hm2
        unfold pairA at hp2
        obtain ⟨k2, hk2, rfl⟩ := List.mem_map.mp hp2
        have hk3 : k2 = k := by simp only at e; omega
        subst hk3
        have := gB_uniq hn hc h0 ht (by omega) (by omega) b3 (List.mem_filter.mp hk2).2
        omega
      rw [List.count_eq_zero_of_not_mem this]
      omega
    · rw [List.count_eq_zero_of_not_mem hm]
      omega
/-- nobody is anywhere at the beginning -/
theorem th_beg {c g cell : Int} : thB n begS c g cell = false := by
  unfold thB
  rw [rowO_none (by simp [begS])]
  simp [begS]
theorem first_th {P : Nat → Bool} (h0 : P 0 = false) : ∀ i, P i = true → ∃ j, j < i ∧ P j = false ∧ P (j + 1) = true
  | 0, h => by rw [h0] at h; cases h
  | i + 1, h => by
    cases hp : P i with
    | false => exact ⟨i, by omega, hp, h⟩
    | true =>
      obtain ⟨j, h1, h2, h3⟩ := first_th h0 i hp
      exact ⟨j, by omega, h2, h3⟩
theorem pass_later {r c1 c2 : Int} (h : c1 ≤ c2) {i : Nat} {t c : Int} (hm : (t, c) ∈ passT n cs begS r c2 i) : ∃ t', (t', c) ∈ passT n cs begS r c1 i ∧ t' ≤ t := by
  obtain ⟨j, k, a1, a2, a3, a4⟩ := passT_mem.mp hm
  cases a4
  obtain ⟨cr, hk, hr, b1, _⟩ := gB_th a3
  obtain ⟨j', d1, d2, d3⟩ := first_th (P := fun j => thB n (stS n cs begS j) k (cr.2.idxOf r) c1) th_beg (j + 1) (thB_le h b1)
  refine ⟨(stS n cs begS (j' + 1)).time, passT_mem.mpr ⟨j', k, by omega, a2, gB_mk hk hr d3 d2, rfl⟩, ?_⟩
  rw [stS_time, stS_time]
  omega
end
end C
set_option Elab.async false
set_option linter.all false
set_option maxRecDepth 100000
/-! alike; outside; counts. -/
namespace C
open PySem L2 Z
theorem nrs_of {xs : List D} (h : ∀ x ∈ xs, nr x = true) : nrs xs = true := by
  induction xs with
  | nil => rfl
  | cons x xs ih => simp only [nrs, Bool.and_eq_true]; exact ⟨h x List.mem_cons_self, ih fun y hy => h y (List.mem_cons_of_mem _ hy)⟩
def al : Nat → D → Bool
  | 0, _ => false
  | n + 1, .tup xs => decide (xs.length ≤ 100000) && xs.all (al n)
  | n + 1, .lst xs => decide (xs.length ≤ 100000) && xs.all (al n)
  | _ + 1, .int _ => true
  | _ + 1, .bl _ => true
  | _ + 1, .non => true
  | _ + 1, _ => false
theorem al_nr : ∀ (n : Nat) {d : D}, al n d = true → nr d = true := by
  intro n
  induction n with
  | zero => intro d h; cases h
  | succ n ih =>
    intro d h
    cases d with
    | tup xs => simp only [al, Bool.and_eq_true, List.all_eq_true] at h; simp only [Z.nr]; exact nrs_of fun x hx => ih (h.2 x hx)
    | lst xs => simp only [al, Bool.and_eq_true, List.all_eq_true] at h; simp only [Z.nr]; exact nrs_of fun x hx => ih (h.2 x hx)
    | int i => rfl
    | bl b => rfl
    | non => rfl
    | str x => cases h
    | scr x => cases h
    | tpi x => cases h
    | ref x => cases h
    | tpx x => cases h
    | dcf x => cases h
theorem alike_w : ∀ (n : Nat) {d : D}, al n d = true → wp (f__law_alike n [d, d]) [] fun v S1 => S1 = [] ∧ v = .bl true := by
  intro n
  induction n with
  | zero => intro d h; cases h
  | succ n ih =>
    intro d h
    have call : ∀ {e : D} {S : Store} {Q : D → Store → Prop}, al n e = true → Q (.bl true) S → wp (callF 0 (f__law_alike n) [e, e]) S Q := fun {e S Q} he q =>
      wp_call0 (by simp [nrs, al_nr _ he]) (wp_mono (ih he) fun v S1 ⟨h1, h2⟩ => ⟨h1, by rw [h2]; exact q⟩)
    show wp (mBody 3 (b__law_alike (f__law_alike n)) [d, d]) [] _
    unfold b__law_alike
    cases d with
    | int i =>
      simp [startD_eq, tyD, isiB]
      refine wp_dEqB ?_
      simp
      refine wp_dEqB ?_
      simp
    | bl b =>
      simp [startD_eq, tyD, isiB]
      refine wp_dEqB ?_
      simp
      refine wp_dEqB ?_
      simp
      refine wp_dEqB ?_
      simp
    | non =>
      simp [startD_eq, tyD, isiB]
      refine wp_dEq (eqD_same (v := .non) rfl rfl rfl) ?_
      simp
      refine wp_dEqB ?_
      simp
      refine wp_dEqB ?_
      simp
    | tup xs =>
      simp only [al, Bool.and_eq_true, decide_eq_true_eq, List.all_eq_true] at h
      obtain ⟨hl, h⟩ := h
      simp [-aft_nx, startD_eq, tyD, isiB]
      refine wp_dNeB ?_
      simp [-aft_nx, tyD, isiB]
      rw [aft_nx]
      simp [-aft_nx, okR]
      refine ⟨by omega, ?_⟩
      rw [rngD0]
      refine lcL_all _ (fun _ => .bl true) _ rfl (fun i hi => ?_) ?_
      · have hi2 : i < xs.length := by simpa using hi
        have g1 : xs[i]? = some xs[i] := by simp [hi2]
        have ha := h xs[i] (List.getElem_mem hi2)
        generalize xs[i] = e at g1 ha
        refine ⟨_, rfl, ?_⟩
        simp [Z.atI_nat, g1]
        exact call ha ⟨rfl, rfl⟩
      · have e : (List.range xs.length).map (fun _ => D.bl true) = ((List.range xs.length).map fun _ => true).map .bl := by simp
        rw [e]
        refine ⟨by simp [lim]; omega, _, blsOf_map _, ?_⟩
        intro hf
        obtain ⟨_, _, e⟩ := List.mem_map.mp hf
        cases e
    | lst xs =>
      simp only [al, Bool.and_eq_true, decide_eq_true_eq, List.all_eq_true] at h
      obtain ⟨hl, h⟩ := h
      simp [-aft_nx, startD_eq, tyD, isiB]
      refine wp_dNeB ?_
      simp [-aft_nx, tyD, isiB]
      rw [aft_nx]
      simp [-aft_nx, okR]
      refine ⟨by omega, ?_⟩
      rw [rngD0]
      refine lcL_all _ (fun _ => .bl true) _ rfl (fun i hi => ?_) ?_
      · have hi2 : i < xs.length := by simpa using hi
        have g1 : xs[i]? = some xs[i] := by simp [hi2]
        have ha := h xs[i] (List.getElem_mem hi2)
        generalize xs[i] = e at g1 ha
        refine ⟨_, rfl, ?_⟩
        simp [Z.atI_nat, g1]
        exact call ha ⟨rfl, rfl⟩
      · have e : (List.range xs.length).map (fun _ => D.bl true) = ((List.range xs.length).map fun _ => true).map .bl := by simp
        rw [e]
        refine ⟨by simp [lim]; omega, _, blsOf_map _, ?_⟩
        intro hf
        obtain ⟨_, _, e⟩ := List.mem_map.mp hf
        cases e
    | str x => cases h
    | scr x => cases h
    | tpi x => cases h
    | ref x => cases h
    | tpx x => cases h
    | dcf x => cases h
theorem alike_c {d : D} {n : Nat} (h : al n d = true) {S : Store} {Q : D → Store → Prop} (q : Q (.bl true) S) : wp (callF 0 (f__law_alike n) [d, d]) S Q :=
  wp_call0 (by simp [nrs, al_nr _ h]) (wp_mono (alike_w n h) fun v S1 ⟨h1, h2⟩ => ⟨h1, by rw [h2]; exact q⟩)
theorem alike_r {d d' : D} {n : Nat} {S : Store} (hd : rk 0 S 4 d' = d) (h : al n d = true) {Q : D → Store → Prop} (q : Q (.bl true) S) : wp (callF 0 (f__law_alike n) [d', d]) S Q := by
  obtain ⟨v, S1, e, rfl, rfl⟩ := alike_w n h
  refine ⟨.bl true, S, ?_, q⟩
  have hb : belows 0 [d, d] = true := nrs_belows 0 _ (by simp [nrs, al_nr _ h])
  have hb2 : below 0 d = true := by
    simp only [belows, Bool.and_eq_true] at hb
    exact hb.1
  have hd2 : rk 0 S 4 d = d := rk_below S 4 hb2
  unfold callF
  simp only [List.map_cons, List.map_nil, hd, hd2, List.take_zero, List.drop_zero]
  simp [hb2, e, noL]
theorem alike_rr {d e1 e2 : D} {n : Nat} {S : Store} (h1 : rk 0 S 4 e1 = d) (h2 : rk 0 S 4 e2 = d) (h : al n d = true) {Q : D → Store → Prop} (q : Q (.bl true) S) : wp (callF 0 (f__law_alike n) [e1, e2]) S Q := by
  obtain ⟨v, S1, e, rfl, rfl⟩ := alike_w n h
  refine ⟨.bl true, S, ?_, q⟩
  have hb : belows 0 [d, d] = true := nrs_belows 0 _ (by simp [nrs, al_nr _ h])
  have hb2 : below 0 d = true := by
    simp only [belows, Bool.and_eq_true] at hb
    exact hb.1
  unfold callF
  simp only [List.map_cons, List.map_nil, h1, h2, List.take_zero, List.drop_zero]
  simp [hb2, e, noL]
end C
set_option Elab.async false
set_option linter.all false
set_option maxRecDepth 100000
/-! The dict of the first passings; the loop's body. -/
namespace C
open PySem L2 Z
def kvP (p : Int × Int) : Key × D := (Sum.inl p.2, .int p.1)
theorem fst_val {P : List (Int × Int)} (hnd : (P.map (·.2)).Nodup) {t c : Int} (h : (t, c) ∈ P) : valD (P.map kvP) (.inl c) = some (.int t) := by
  induction P with
  | nil => cases h
  | cons p P ih =>
    obtain ⟨h1, h2⟩ := List.nodup_cons.mp hnd
    unfold valD at ih ⊢
    rw [List.map_cons, List.find?_cons]
    rcases List.mem_cons.mp h with e | h
    · subst e
      simp [kvP]
    · have hne : p.2 ≠ c := fun e => h1 (List.mem_map.mpr ⟨_, h, e.symm⟩)
      rw [decide_eq_false (by simpa [kvP] using hne)]
      exact ih h2 h
theorem fresh_kv {P : List (Int × Int)} (hnd : (P.map (·.2)).Nodup) {k : Nat} {p : Int × Int} (h : P[k]? = some p) : putD ((P.take k).map kvP) (Sum.inl p.2 : Key) (.int p.1) = (P.take (k + 1)).map kvP := by
  have e : P.take (k + 1) = P.take k ++ [p] := by rw [List.take_add_one, h]; rfl
  rw [e, List.map_append]
  refine put_fresh fun kv hkv e2 => ?_
  obtain ⟨q, hq, rfl⟩ := List.mem_map.mp hkv
  have hnd2 : ((P.take (k + 1)).map (·.2)).Nodup := ((List.take_sublist _ _).map _).nodup hnd
  rw [e, List.map_append, List.nodup_append] at hnd2
  exact hnd2.2.2 q.2 (List.mem_map.mpr ⟨q, hq, rfl⟩) p.2 (by simp) (Sum.inl.inj e2)
def bd09 : MS := (mSeq (mSet 8 (mCall 2 f__law_draw (mCons (mVar 1) (mCons (mCB cLen (mCons (mOp dIx (mVar 2) (mC (.int 0))) mNil)) mNil)))) (mSeq (mSet 9 (mCall 2 f__law_draw (mCons (mVar 1) (mCons (mOp dIx (mOp dIx (mOp dIx (mVar 2) (mC (.int 0))) (mVar 8)) (mC (.int 1))) mNil)))) (mSeq (mSet 10 (mCallG f_passed (mCons (mVar 2) (mCons (mVar 3) (mCons (mVar 4) (mCons (mVar 8) (mCons (mVar 9) mNil))))))) (mSeq (mIfS (mOr (mNot (mTru (mCall 0 (f__law_alike 4) (mCons (mVar 10) (mCons (mCallG f__law_due (mCons (mVar 3) (mCons (mVar 4) (mCons (mVar 8) (mCons (mVar 9) mNil))))) mNil))))) (mB (mOp dNe (mVar 4) (mVar 6)))) (mRet (mC (.bl false))) mNext) (mSeq (mIfS (mTru (mCB cAny (mCons (mFz (mLc [13] (.nm 13) (mItR (mCons (mCB cLen (mCons (mVar 3) mNil)) mNil)) mTrue (mOp dGt (mMth lCnt (mFz (mLc [14] (.nm 14) (mItS (mVar 10)) mTrue (mOp dIx (mVar 14) (mC (.int 1))))) (mCons (mVar 13) mNil)) (mC (.int 1))))) mNil))) (mRet (mC (.bl false))) mNext) (mSeq (mSet 11 mNewK) (mSeq (mFor (.tp [12, 13]) (mItS (mVar 10)) (mSetD (mVar 11) (mVar 13) (mVar 12))) (mSeq (mFor (.tp [12, 13]) (mItS (mCallG f_passed (mCons (mVar 2) (mCons (mVar 3) (mCons (mVar 4) (mCons (mVar 8) (mCons (mOp dSub (mOp dIx (mOp dIx (mOp dIx (mVar 2) (mC (.int 0))) (mVar 8)) (mC (.int 1))) (mC (.int 1))) mNil))))))) (mIfS (mAnd (mB (mOp dGt (mVar 5) (mC (.int 1)))) (mOr (mB (mDIn true (mVar 13) (mVar 11))) (mB (mOp dGt (mDGet (mVar 11) (mVar 13)) (mVar 12))))) (mRet (mC (.bl false))) mNext)) (mSeq (mDrop (mMth lApp (mVar 10) (mCons (mC (.int 99)) mNil))) (mIfS (mOr (mB (mOp dNe (mCallG f_passed (mCons (mVar 2) (mCons (mVar 3) (mCons (mVar 4) (mCons (mVar 8) (mCons (mVar 9) mNil)))))) (mCallG f__law_due (mCons (mVar 3) (mCons (mVar 4) (mCons (mVar 8) (mCons (mVar 9) mNil))))))) (mB (mOp dNe (mSl (mVar 10) (mPart (mNeg (mC (.int 1)))) mNoPart) (mFz (mCons (mC (.int 99)) mNil))))) (mRet (mC (.bl false))) mNext))))))))))
def lp09 : MS := (mFor (.nm 7) (mItR (mCons (mC (.int 3)) mNil)) bd09)
theorem fit_P {P : List (Int × Int)} : fit 60 (.lst (P.map eP2)) = true := by simp [fit, eP2]
theorem rs_P {S : Store} {i : Nat} {P : List (Int × Int)} (h : S[i]? = some (.lst (P.map eP2))) : rs S 4 (.ref i) = .lst (P.map eP2) := by
  rw [rs_ref h, List.map_map]
  rfl
theorem rk_P {S : Store} {i : Nat} {P : List (Int × Int)} (h : S[i]? = some (.lst (P.map eP2))) : rk 0 S 4 (.ref i) = .lst (P.map eP2) := by
  show rsF (rkG 0 S (rk 0 S 3)) (.ref i) = _
  simp only [rsF, rkG, Nat.not_lt_zero, if_false, rsG, h]
  rw [List.map_map]
  congr 1
theorem al_P {P : List (Int × Int)} (h : P.length ≤ 100000) : al 4 (.lst (P.map eP2)) = true := by
  simp [al, h, eP2]
section
variable {n : Net} {cs : List Car} {s0 : St} {M : Nat}
theorem bd_w (hn : n.ok) (hc : CarsOk n cs) (h0 : SoundP n cs s0) (ht : s0.time ≤ 1000) (hM : 1 ≤ M ∧ M ≤ 100) {pick : Int} (hp : 1 < pick → s0 = begS) {x y : MO} {rest : Store} (h : SP x y) {dS : D} (hA : ∀ x y U, asSq (x :: y :: (rest ++ U)) dS = some (((List.range M).map (stS n cs s0)).map (eSt n)) ∧ rs (x :: y :: (rest ++ U)) 4 dS = .lst (((List.range M).map (stS n cs s0)).map (eSt n)))
    {a0 a7 a8 a9 a10 a11 a12 a13 a14 : Option D} {Q : Out → Store → Prop}
    (q : ∀ x y V b8 b9 b10 b11 b12 b13 b14, SP x y → Q (.nx [a0, some (.ref 1), some (eNet n), some (eCars cs), some dS, some (.int pick), some (.lst (((List.range M).map (stS n cs s0)).map (eSt n))), a7, b8, b9, b10, b11, b12, b13, b14]) (x :: y :: (rest ++ V))) :
    wps bd09 [a0, some (.ref 1), some (eNet n), some (eCars cs), some dS, some (.int pick), some (.lst (((List.range M).map (stS n cs s0)).map (eSt n))), a7, a8, a9, a10, a11, a12, a13, a14] (x :: y :: rest) Q := by
  have hcf := hc.few
  have hmany := hn.many
  have hfew := hn.few
  have eN : ∀ S : Store, asSq S (eNet n) = some [.tup (n.roads.map eRoad), .tup (n.cross.map eCr)] := fun S => by simp [eNet]
  have eC : ∀ S : Store, asSq S (eCars cs) = some (cs.map eCar) := fun S => by simp [eCars]
  have hss : ∀ s ∈ (List.range M).map (stS n cs s0), SoundP n cs s := fun s hs => by
    obtain ⟨k, hk, rfl⟩ := List.mem_map.mp hs
    have : k < M := by simpa using hk
    exact stS_sound hn hc h0 ht k (by omega)
  have hssl : ((List.range M).map (stS n cs s0)).length ≤ 200 := by simp; omega
  have hfs : fit 60 (.lst (((List.range M).map (stS n cs s0)).map (eSt n))) = true := by simp [fit, fit_st59]
  have hlen : ((List.range M).map (stS n cs s0)).length - 1 = M - 1 := by simp
  have hPT : ∀ r cell, passL n cs ((List.range M).map (stS n cs s0)) r cell (((List.range M).map (stS n cs s0)).length - 1) = passT n cs s0 r cell (M - 1) := fun r cell => by rw [hlen]; exact passL_T
  generalize hX : (List.range M).map (stS n cs s0) = ss at *
  generalize hXX : ss.map (eSt n) = X at *
  unfold bd09
  simp only [wps_seq]
  simp [-aft_nx, eN]
  refine draw_c h (by omega) (by omega) fun x y r h hr0 hr1 => ?_
  obtain ⟨r, rfl⟩ := Int.eq_ofNat_of_zero_le hr0
  obtain ⟨rd, hrd⟩ : ∃ rd, n.roads[r]? = some rd := ⟨n.roads[r]'(by omega), by simp⟩
  obtain ⟨hd1, hd2, hd3, hd4, hd5, hd6, _⟩ := hn.road rd (List.mem_of_getElem? hrd)
  rw [aft_nx]
  simp only [wps_seq]
  simp [-aft_nx, eN, Z.atI_nat, hrd, eRoad]
  refine draw_c h (by omega) (by omega) fun x y cell h hc0 hc1 => ?_
  rw [aft_nx]
  simp only [wps_seq]
  have hA1 : ∀ U, asSq ((x :: y :: rest) ++ U) dS = some (ss.map (eSt n)) := fun U => by rw [hXX]; exact (hA x y U).1
  have hA2 : ∀ U, rs ((x :: y :: rest) ++ U) 4 dS = .lst X := fun U => (hA x y U).2
  generalize hT0 : x :: y :: rest = T0 at hA1 hA2 ⊢
  have gm : ∀ V U : Store, asSq ((T0 ++ V) ++ U) dS = some (ss.map (eSt n)) := fun V U => by rw [List.append_assoc]; exact hA1 _
  have gj : ∀ (U : Store) j, (T0 ++ U)[T0.length + j]? = U[j]? := fun U j => by rw [List.getElem?_append_right (by omega)]; congr 1; omega
  have gj0 : ∀ (U : Store), (T0 ++ U)[T0.length]? = U[0]? := fun U => gj U 0
  have hPl : ∀ r cell, (passT n cs s0 r cell (M - 1)).length ≤ 3000 := fun r cell => by
    have h1 := passL_len (n := n) (cs := cs) (ss := ss) (r := r) (cell := cell) (ss.length - 1)
    rw [hPT] at h1
    have h2 : cs.length * (ss.length - 1) ≤ 30 * 99 := Nat.mul_le_mul hcf (by omega)
    omega
  have hPn : ∀ r cell, ((passT n cs s0 r cell (M - 1)).map (·.2)).Nodup := fun r cell => List.nodup_iff_count.mpr fun c => pass_cnt hn hc h0 ht (M - 1) (by omega)
  have hP1 := hPl r cell
  have hP2 := hPn r cell
  have hrange : ∀ p ∈ passT n cs s0 r cell (M - 1), True := fun _ _ => trivial
  simp [-aft_nx]
  refine passed_w hn hc hss hssl hA1 ?_
  rw [hPT]
  generalize hP : passT n cs s0 r cell (M - 1) = P at hP1 hP2 ⊢
  rw [aft_nx]
  simp only [wps_seq]
  simp [-aft_nx]
  refine due_w hn hc hss hssl (gm _) ?_
  rw [hPT, hP]
  simp only [List.append_assoc, List.cons_append, List.nil_append, List.length_append, List.length_cons, List.length_nil, Nat.zero_add]
  refine alike_rr (d := .lst (P.map eP2)) (rk_P (by rw [gj0]; rfl)) (rk_P (by rw [gj]; rfl)) (al_P (by omega)) ?_
  simp [-aft_nx]
  refine wp_dNe (eqD_same (hA2 _) (rs_fit hfs) hfs) ?_
  simp [-aft_nx]
  rw [aft_nx]
  simp only [wps_seq]
  simp [-aft_nx, eC, okR]
  refine ⟨by omega, ?_⟩
  rw [rngD0]
  refine lcL_all _ (fun _ => .bl false) _ rfl (fun i hi => ⟨_, rfl, ?_⟩) ?_
  · simp [wipeD, gj0]
    refine lcL_all eP2 (fun p => .int p.2) _ (by simp [gj0]) (fun p hp => by simp [eP2]) ?_
    have e : (P.map fun p => D.int p.2) = (P.map (·.2)).map .int := by simp
    rw [e]
    refine ⟨by simp [lim]; omega, ?_⟩
    have h1 : (P.map (·.2)).count (i : Int) ≤ 1 := List.nodup_iff_count.mp hP2 _
    exact ⟨Option.isSome_iff_exists.mpr ⟨_, asLC_lst.mpr rfl⟩, P.map (·.2), intsOf_map _, by omega, rfl⟩
  have eb : (List.range cs.length).map (fun _ => D.bl false) = ((List.range cs.length).map fun _ => false).map .bl := by simp
  rw [eb]
  refine ⟨by simp [lim]; omega, _, blsOf_map _, .inl ⟨(fun hm => by obtain ⟨_, _, e⟩ := List.mem_map.mp hm; cases e), ?_⟩⟩
  rw [aft_nx]
  simp only [wps_seq]
  simp [-aft_nx]
  rw [aft_nx]
  simp only [wps_seq]
  simp [-aft_nx, gj0]
  refine forL_map (fun k ρ T => T = T0 ++ [.lst (P.map eP2), .lst (P.map eP2), .dct ((P.take k).map kvP)] ∧ ∃ a12 a13, ρ = [a0, some (.ref 1), some (eNet n), some (eCars cs), some dS, some (.int pick), some (.lst X), a7, some (.int (r : Nat)), some (.int cell), some (.ref T0.length), some (.ref (T0.length + 2)), a12, a13, a14]) eP2 P ⟨by simp, _, _, rfl⟩ ?_ ?_
  · rintro k p ρ T hk ⟨rfl, b12, b13, rfl⟩
    refine ⟨by simp [gj0], _, rfl, ?_⟩
    have hset : ∀ z : MO, (T0 ++ [MO.lst (P.map eP2), MO.lst (P.map eP2), MO.dct ((P.take k).map kvP)]).set (T0.length + 2) z = T0 ++ [MO.lst (P.map eP2), MO.lst (P.map eP2), z] := fun z => by rw [List.set_append_right _ _ (by omega)]; simp
    have hkl := (List.getElem?_eq_some_iff.mp hk).1
    have hfk := fresh_kv hP2 hk
    simp only [List.map_take] at hset hfk ⊢
    simp [-List.map_take, dPutS, gj, keyD, hset, hfk]
    simp [lim]
    omega
  · rintro ρ T ⟨rfl, b12, b13, rfl⟩
    rw [List.take_length]
    refine ⟨by simp [gj0], ?_⟩
    rw [aft_nx]
    simp only [wps_seq]
    simp [-aft_nx, eN, Z.atI_nat, hrd, eRoad]
    refine passed_w hn hc hss hssl (gm _) ?_
    rw [hPT]
    have hPl2 := hPl r (rd.2.1 - 1)
    have hlater : 1 < pick → ∀ t c : Int, (t, c) ∈ passT n cs s0 r (rd.2.1 - 1) (M - 1) → ∃ t', (t', c) ∈ P ∧ t' ≤ t := fun hpk t c hm => by
      have e0 := hp hpk
      rw [← hP]
      rw [e0] at hm ⊢
      exact pass_later (by omega) hm
    generalize passT n cs s0 r (rd.2.1 - 1) (M - 1) = P2 at hPl2 hlater ⊢
    simp only [List.append_assoc, List.cons_append, List.nil_append, List.length_append, List.length_cons, List.length_nil, Nat.zero_add]
    refine ⟨P2.map eP2, by simp [gj], ?_⟩
    refine forL_map (fun k ρ T => T = T0 ++ [.lst (P.map eP2), .lst (P.map eP2), .dct (P.map kvP), .lst (P2.map eP2)] ∧ ∃ a12 a13, ρ = [a0, some (.ref 1), some (eNet n), some (eCars cs), some dS, some (.int pick), some (.lst X), a7, some (.int (r : Nat)), some (.int cell), some (.ref T0.length), some (.ref (T0.length + 2)), a12, a13, a14]) eP2 P2 ⟨rfl, _, _, rfl⟩ ?_ ?_
    · rintro k p ρ T hk ⟨rfl, b12, b13, rfl⟩
      refine ⟨by simp [gj], _, rfl, ?_⟩
      by_cases hpk : 1 < pick
      · obtain ⟨t', h1, h2⟩ := hlater hpk p.1 p.2 (List.mem_of_getElem? hk)
        have hv := fst_val hP2 h1
        simp [hpk, dGetO, keyD, gj, hv]
        exact .inl h2
      · simp [hpk]
    · rintro ρ T ⟨rfl, b12, b13, rfl⟩
      refine ⟨by simp [gj], ?_⟩
      rw [aft_nx]
      simp only [wps_seq]
      simp [-aft_nx, gj0]
      refine ⟨by simp only [lim]; omega, ?_⟩
      rw [aft_nx]
      simp [-aft_nx]
      refine passed_w hn hc hss hssl (gm _) ?_
      rw [hPT, hP]
      refine due_w hn hc hss hssl (fun U => by simp only [List.append_assoc]; exact hA1 _) ?_
      rw [hPT, hP]
      simp only [List.append_assoc, List.cons_append, List.nil_append, List.length_append, List.length_cons, List.length_nil, Nat.zero_add]
      refine wp_dNe (eqD_same (rs_P (by rw [gj]; rfl)) (rs_P (by rw [gj]; rfl)) fit_P) ?_
      simp [gj0]
      have hcut : cutD (P.map eP2 ++ [D.int 99]) (some (-1)) none = [D.int 99] := by
        unfold cutD HT.sIx
        simp
        rw [show (-1 + ((P.length : Int) + 1)).toNat = P.length by omega, show P.length + 1 - P.length = 1 by omega, List.drop_append_of_le_length (by simp), List.drop_of_length_le (by simp)]
        rfl
      rw [hcut]
      have h99 : fit 60 (D.lst [D.int 99]) = true := by simp
      refine wp_dNe (eqD_same (rs_fit h99) (rs_fit h99) h99) ?_
      refine .inl ⟨rfl, ?_⟩
      rw [← hT0]
      simp only [List.cons_append]
      exact q x y _ _ _ _ _ _ _ _ h
end
end C
set_option Elab.async false
set_option linter.all false
set_option maxRecDepth 100000
/-! The law. -/
namespace C
open PySem L2 Z
def rs09 : MS := (mSeq (mSet 6 (mFz (mCF cList (mCons (mVar 4) mNil)))) (mSeq (mIfS (mB (mOp dNe (mCallG f_passed (mCons (mVar 2) (mCons (mVar 3) (mCons (mFz mNil) (mCons (mC (.int 0)) (mCons (mC (.int 0)) mNil)))))) (mFz mNil))) (mRet (mC (.bl false))) mNext) (mSeq lp09 (mRet (mC (.bl true))))))
section
variable {n : Net} {cs : List Car} {s0 : St} {M : Nat}
theorem rest_w (hn : n.ok) (hc : CarsOk n cs) (h0 : SoundP n cs s0) (ht : s0.time ≤ 1000) (hM : 1 ≤ M ∧ M ≤ 100) {pick : Int} (hp : 1 < pick → s0 = begS) {x y : MO} {rest : Store} (h : SP x y) {dS : D} (hA : ∀ x y U, asSq (x :: y :: (rest ++ U)) dS = some (((List.range M).map (stS n cs s0)).map (eSt n)) ∧ rs (x :: y :: (rest ++ U)) 4 dS = .lst (((List.range M).map (stS n cs s0)).map (eSt n)))
    {a0 a6 a7 a8 a9 a10 a11 a12 a13 a14 : Option D} {Q : Out → Store → Prop} (q : ∀ S, Q (.rt (.bl true)) S) :
    wps rs09 [a0, some (.ref 1), some (eNet n), some (eCars cs), some dS, some (.int pick), a6, a7, a8, a9, a10, a11, a12, a13, a14] (x :: y :: rest) Q := by
  have hXl : (((List.range M).map (stS n cs s0)).map (eSt n)).length ≤ 100 := by simp; omega
  unfold rs09
  simp only [wps_seq]
  generalize hX : ((List.range M).map (stS n cs s0)).map (eSt n) = X at hA hXl
  simp [-aft_nx]
  refine ⟨X, by simpa using (hA x y []).1, ?_⟩
  rw [aft_nx]
  simp only [wps_seq]
  simp [-aft_nx]
  refine passed0_w ?_
  have hr0 : rs ((x :: y :: rest) ++ [MO.lst []]) 4 (.ref (x :: y :: rest).length) = .lst [] := by
    rw [rs_ref (xs := []) (by simp)]
    rfl
  refine wp_dNe (eqD_same hr0 (rs_fit (m := 60) rfl) rfl) ?_
  simp [-aft_nx]
  rw [aft_nx]
  unfold lp09
  simp only [wps_seq]
  simp [-aft_nx, okR]
  refine forL_rng (n := 3) (fun i ρ T => ∃ x y V b7 b8 b9 b10 b11 b12 b13 b14, SP x y ∧ T = x :: y :: (rest ++ V) ∧ ρ = [a0, some (.ref 1), some (eNet n), some (eCars cs), some dS, some (.int pick), some (.lst X), b7, b8, b9, b10, b11, b12, b13, b14]) ⟨x, y, _, _, _, _, _, _, _, _, _, h, rfl, rfl⟩ ?_ ?_
  · rintro i ρ T hi ⟨x, y, V, b7, b8, b9, b10, b11, b12, b13, b14, h, rfl, rfl⟩
    refine ⟨_, rfl, ?_⟩
    rw [← hX] at hA ⊢
    exact bd_w hn hc h0 ht hM hp h (fun x y U => by rw [List.append_assoc]; exact hA x y _) fun x y V2 b8 b9 b10 b11 b12 b13 b14 h => ⟨x, y, V ++ V2, _, b8, b9, b10, b11, b12, b13, b14, h, by rw [List.append_assoc], rfl⟩
  · rintro ρ T ⟨x, y, V, b7, b8, b9, b10, b11, b12, b13, b14, h, rfl, rfl⟩
    rw [aft_nx]
    simp
    exact q _
end
theorem law_wp (ns : List Int) : wp (f_law [.scr ns]) [] fun d _ => d = .bl true := by
  unfold f_law b_law
  simp [-aft_nx, startD_eq]
  refine wp_mono (stream_ok ns) ?_
  rintro d S ⟨rfl, x, y, rfl, h⟩
  rw [aft_nx]
  simp [-aft_nx]
  refine net_c h fun x y n h hn => ?_
  rw [aft_nx]
  simp [-aft_nx]
  refine cars_c hn h fun x y cs h hc => ?_
  rw [aft_nx]
  simp only [wps_seq]
  simp [-aft_nx]
  refine draw_c h (by omega) (by omega) fun x y k h hk0 hk1 => ?_
  obtain ⟨mx, e, hmx⟩ := pick2 (a := 20) (b := 61) hk0 hk1
  simp [-aft_nx, e]
  refine draw_c h (by omega) (by omega) fun x y k h hk0 hk1 => ?_
  obtain ⟨k, rfl⟩ := Int.eq_ofNat_of_zero_le hk0
  have hk : k ≤ 60 := by omega
  refine run_w hn hc (by omega) ?_
  simp [-aft_nx]
  have eX : ∀ M, ((List.range M).map (stS n cs begS)).map (eSt n) = (List.range M).map fun i => eSt n (runS n cs i) := fun M => by
    rw [List.map_map]
    apply List.map_congr_left
    intro i _
    simp [stS_run]
  rw [aft_nx]
  simp only [wps_seq]
  simp [-aft_nx]
  refine draw_c h (by omega) (by omega) fun x y pick h hp0 hp1 => ?_
  rw [aft_nx]
  change wps (mSeq _ (mSeq _ rs09)) _ _ _
  simp only [wps_seq]
  have hb := beg_sound n cs
  have ht0 : (runS n cs 0).time = 0 := rfl
  by_cases h1 : pick = 0
  · subst h1
    simp [-aft_nx, runD_len]
    refine draw_c h (by omega) (by omega) fun x y d h hd0 hd1 => ?_
    obtain ⟨d, rfl⟩ := Int.eq_ofNat_of_zero_le hd0
    simp [-aft_nx]
    rw [aft_nx]
    simp only [wps_seq]
    simp [-aft_nx]
    rw [aft_nx]
    have hdk : d ≤ k := by omega
    have hcut : cutD (runD n cs k) (some (d : Int)) none = ((List.range (k + 1 - d)).map (stS n cs (runS n cs d))).map (eSt n) := by
      rw [cut_drop (by omega), Int.toNat_natCast]
      apply List.ext_getElem?
      intro i
      rw [List.getElem?_drop, List.map_map, List.getElem?_map]
      by_cases hi : d + i ≤ k
      · rw [runD_get hi, List.getElem?_range (by omega), stS_run, stS_add, ← stS_run]
        rfl
      · rw [List.getElem?_eq_none (by rw [runD_len]; omega), List.getElem?_eq_none (by simp; omega)]
        rfl
    rw [hcut]
    have hfs : fit 60 (D.lst (((List.range (k + 1 - d)).map (stS n cs (runS n cs d))).map (eSt n))) = true := by simp [fit, fit_st59]
    refine rest_w (s0 := runS n cs d) (M := k + 1 - d) (rest := [.lst (runD n cs k)]) hn hc (run_sound hn hc d (by omega)) (by rw [run_time]; omega) (by omega) (fun h => by omega) h (fun x y U => ⟨asSq_lst.mpr rfl, rs_fit hfs⟩) fun S => ?_
    simp
  by_cases h2 : pick = 1
  · subst h2
    simp [-aft_nx]
    rw [aft_nx]
    simp only [wps_seq]
    simp [-aft_nx]
    refine state_c2 hn hc h fun x y s0 h hs0 hst => ?_
    obtain ⟨hs, e⟩ := sound_cut hs0 (by omega)
    rw [← e]
    have ht : St.time ⟨s0.time, cutRows n s0.rows, s0.arr⟩ ≤ 1000 := hst
    generalize (⟨s0.time, cutRows n s0.rows, s0.arr⟩ : St) = s at hs ht
    simp [-aft_nx]
    rw [aft_nx]
    simp [-aft_nx]
    refine draw_c h (by omega) (by omega) fun x y g h hg0 hg1 => ?_
    obtain ⟨g, rfl⟩ := Int.eq_ofNat_of_zero_le hg0
    simp [-aft_nx, okR]
    refine ⟨by omega, ?_⟩
    refine forL_rng (fun i ρ T => T = [x, y, .lst (runD n cs k), .lst (((List.range (i + 1)).map (stS n cs s)).map (eSt n))] ∧ ∃ a7, ρ = [some (.scr ns), some (.ref 1), some (eNet n), some (eCars cs), some (.ref 3), some (.int 1), none, a7, none, none, none, none, none, none, none]) ⟨by simp [stS], _, rfl⟩ ?_ ?_
    · rintro i ρ T hi ⟨rfl, a7, rfl⟩
      have e1 : ((List.range (i + 1 + 1)).map (stS n cs s)).map (eSt n) = ((List.range (i + 1)).map (stS n cs s)).map (eSt n) ++ [eSt n (stS n cs s (i + 1))] := by
        rw [List.range_succ, List.map_append, List.map_append]
        rfl
      have e0 : ((List.range (i + 1)).map (stS n cs s)).map (eSt n) = ((List.range i).map (stS n cs s)).map (eSt n) ++ [eSt n (stS n cs s i)] := by
        rw [List.range_succ, List.map_append, List.map_append]
        rfl
      have hlast : atI (((List.range (i + 1)).map (stS n cs s)).map (eSt n)) (-1) = some (eSt n (stS n cs s i)) := by rw [e0]; exact atI_last
      have hl : (((List.range (i + 1)).map (stS n cs s)).map (eSt n)).length = i + 1 := by simp
      rw [e1]
      generalize ((List.range (i + 1)).map (stS n cs s)).map (eSt n) = xs at hl hlast
      refine ⟨_, rfl, ?_⟩
      simp [-aft_nx, hlast]
      refine step_w hn hc (stS_sound hn hc hs ht i (by omega)) (by rw [stS_time]; omega) ?_
      simp
      exact ⟨by simp [lim]; omega, rfl⟩
    · rintro ρ T ⟨rfl, a7, rfl⟩
      rw [aft_nx]
      have hX : ∀ (x y : MO) (U : Store), (x :: y :: ([MO.lst (runD n cs k), MO.lst (((List.range (g + 1)).map (stS n cs s)).map (eSt n))] ++ U))[3]? = some (.lst (((List.range (g + 1)).map (stS n cs s)).map (eSt n))) := fun x y U => rfl
      refine rest_w (s0 := s) (M := g + 1) (rest := [MO.lst (runD n cs k), MO.lst (((List.range (g + 1)).map (stS n cs s)).map (eSt n))]) hn hc hs ht (by omega) (fun h => by omega) h (fun x y U => ⟨by simpa using hX x y U, ?_⟩) fun S => ?_
      · rw [rs_ref (hX x y U)]
        congr 1
        conv => rhs; rw [← List.map_id (((List.range (g + 1)).map (stS n cs s)).map (eSt n))]
        exact List.map_congr_left fun d hd => by
          obtain ⟨s', _, rfl⟩ := List.mem_map.mp hd
          exact rs_fit fit_st
      · simp
  · simp [-aft_nx, h1, h2]
    rw [aft_nx]
    simp [-aft_nx, h2]
    rw [aft_nx]
    have hX : ∀ (x y : MO) (U : Store), (x :: y :: ([MO.lst (runD n cs k)] ++ U))[2]? = some (.lst (((List.range (k + 1)).map (stS n cs begS)).map (eSt n))) := fun x y U => by rw [eX]; rfl
    refine rest_w (s0 := begS) (M := k + 1) (rest := [MO.lst (runD n cs k)]) hn hc hb (by simp [begS]) (by omega) (fun _ => rfl) h (fun x y U => ⟨by simpa using hX x y U, ?_⟩) fun S => ?_
    · rw [rs_ref (hX x y U)]
      congr 1
      conv => rhs; rw [← List.map_id (((List.range (k + 1)).map (stS n cs begS)).map (eSt n))]
      exact List.map_congr_left fun d hd => by
        obtain ⟨s', _, rfl⟩ := List.mem_map.mp hd
        exact rs_fit fit_st
    · simp
theorem law_true (ns : List Int) (hns : ns.length ≤ 63) : ∃ S, f_law [.scr ns] [] = some (.bl true, S) := by
  obtain ⟨d, S, e, rfl⟩ := law_wp ns
  exact ⟨S, e⟩
end C
set_option Elab.async false
set_option linter.all false
set_option maxRecDepth 100000
set_option maxHeartbeats 4000000
namespace C
open PySem L2 Z
theorem all_mk {l : PySem.W.OpenLaw} {w : World} {K : PySem.W.Frag} {h : Heap} {mg : Str → Option Value} {fa f1 f2 f3 f4 f5 f6 f7 f8 f9 f10 f11 f12 f13 f14 f15 f16 f17 f18 f19 f20 f21 f22 f23 f24 f25 f26 f27 f28 f29 f30 f31 f32 f33 f34 f35 f36 f37 f38 f39 f40 : Addr} (X : K.In h) (G : h.Ns mainGlobals mg) (hfa : mg "law" = some (.ref fa))
    {od1 an1 od2 an2 od3 an3 od4 an4 od5 an5 od6 an6 od7 an7 od8 an8 od9 an9 od10 an10 od11 an11 od12 an12 od13 an13 od14 an14 od15 an15 od16 an16 od17 an17 od18 an18 od19 an19 od20 an20 od21 an21 od22 an22 od23 an23 od24 an24 od25 an25 od26 an26 od27 an27 od28 an28 od29 an29 od30 an30 od31 an31 od32 an32 od33 an33 od34 an34 od35 an35 od36 an36 od37 an37 od38 an38 od39 an39 od40 an40 : Option Addr} {sl1 sl2 sl3 sl4 sl5 sl6 sl7 sl8 sl9 sl10 sl11 sl12 sl13 sl14 sl15 sl16 sl17 sl18 sl19 sl20 sl21 sl22 sl23 sl24 sl25 sl26 sl27 sl28 sl29 sl30 sl31 sl32 sl33 sl34 sl35 sl36 sl37 sl38 sl39 sl40 : Array (Option Value)} {oc1 kV1 dc1 pm1 cd1 ct1 oc2 kV2 dc2 pm2 cd2 ct2 oc3 kV3 dc3 pm3 cd3 ct3 oc4 kV4 dc4 pm4 cd4 ct4 oc5 kV5 dc5 pm5 cd5 ct5 oc6 kV6 dc6 pm6 cd6 ct6 oc7 kV7 dc7 pm7 cd7 ct7 oc8 kV8 dc8 pm8 cd8 ct8 oc9 kV9 dc9 pm9 cd9 ct9 oc10 kV10 dc10 pm10 cd10 ct10 oc11 kV11 dc11 pm11 cd11 ct11 oc12 kV12 dc12 pm12 cd12 ct12 oc13 kV13 dc13 pm13 cd13 ct13 oc14 kV14 dc14 pm14 cd14 ct14 oc15 kV15 dc15 pm15 cd15 ct15 oc16 kV16 dc16 pm16 cd16 ct16 oc17 kV17 dc17 pm17 cd17 ct17 oc18 kV18 dc18 pm18 cd18 ct18 oc19 kV19 dc19 pm19 cd19 ct19 oc20 kV20 dc20 pm20 cd20 ct20 oc21 kV21 dc21 pm21 cd21 ct21 oc22 kV22 dc22 pm22 cd22 ct22 oc23 kV23 dc23 pm23 cd23 ct23 oc24 kV24 dc24 pm24 cd24 ct24 oc25 kV25 dc25 pm25 cd25 ct25 oc26 kV26 dc26 pm26 cd26 ct26 oc27 kV27 dc27 pm27 cd27 ct27 oc28 kV28 dc28 pm28 cd28 ct28 oc29 kV29 dc29 pm29 cd29 ct29 oc30 kV30 dc30 pm30 cd30 ct30 oc31 kV31 dc31 pm31 cd31 ct31 oc32 kV32 dc32 pm32 cd32 ct32 oc33 kV33 dc33 pm33 cd33 ct33 oc34 kV34 dc34 pm34 cd34 ct34 oc35 kV35 dc35 pm35 cd35 ct35 oc36 kV36 dc36 pm36 cd36 ct36 oc37 kV37 dc37 pm37 cd37 ct37 oc38 kV38 dc38 pm38 cd38 ct38 oc39 kV39 dc39 pm39 cd39 ct39 oc40 kV40 dc40 pm40 cd40 ct40 : Value}
    (a1 : PySem.W.nsIn K mainGlobals "legs" = some (some (.ref f1))) (l1 : K.lookup f1 = some ⟨oc1, od1, .func (PySem.W.fnOf "legs" "legs" (defArgs s_legs) (defBody s_legs) (defScope s_legs) .none kV1 dc1 pm1 an1 cd1 ct1), sl1⟩) (c1 : PySem.W.codeIn K cd1 "legs" = true) (k1 : PySem.W.keepIn K (.ref f1) = true)
    (a2 : PySem.W.nsIn K mainGlobals "is_past" = some (some (.ref f2))) (l2 : K.lookup f2 = some ⟨oc2, od2, .func (PySem.W.fnOf "is_past" "is_past" (defArgs s_is_past) (defBody s_is_past) (defScope s_is_past) .none kV2 dc2 pm2 an2 cd2 ct2), sl2⟩) (c2 : PySem.W.codeIn K cd2 "is_past" = true) (k2 : PySem.W.keepIn K (.ref f2) = true)
    (a3 : PySem.W.nsIn K mainGlobals "passed" = some (some (.ref f3))) (l3 : K.lookup f3 = some ⟨oc3, od3, .func (PySem.W.fnOf "passed" "passed" (defArgs s_passed) (defBody s_passed) (defScope s_passed) .none kV3 dc3 pm3 an3 cd3 ct3), sl3⟩) (c3 : PySem.W.codeIn K cd3 "passed" = true) (k3 : PySem.W.keepIn K (.ref f3) = true)
    (a4 : PySem.W.nsIn K mainGlobals "all_cars" = some (some (.ref f4))) (l4 : K.lookup f4 = some ⟨oc4, od4, .func (PySem.W.fnOf "all_cars" "all_cars" (defArgs s_all_cars) (defBody s_all_cars) (defScope s_all_cars) .none kV4 dc4 pm4 an4 cd4 ct4), sl4⟩) (c4 : PySem.W.codeIn K cd4 "all_cars" = true) (k4 : PySem.W.keepIn K (.ref f4) = true)
    (a5 : PySem.W.nsIn K mainGlobals "outside" = some (some (.ref f5))) (l5 : K.lookup f5 = some ⟨oc5, od5, .func (PySem.W.fnOf "outside" "outside" (defArgs s_outside) (defBody s_outside) (defScope s_outside) .none kV5 dc5 pm5 an5 cd5 ct5), sl5⟩) (c5 : PySem.W.codeIn K cd5 "outside" = true) (k5 : PySem.W.keepIn K (.ref f5) = true)
    (a6 : PySem.W.nsIn K mainGlobals "room_in" = some (some (.ref f6))) (l6 : K.lookup f6 = some ⟨oc6, od6, .func (PySem.W.fnOf "room_in" "room_in" (defArgs s_room_in) (defBody s_room_in) (defScope s_room_in) .none kV6 dc6 pm6 an6 cd6 ct6), sl6⟩) (c6 : PySem.W.codeIn K cd6 "room_in" = true) (k6 : PySem.W.keepIn K (.ref f6) = true)
    (a7 : PySem.W.nsIn K mainGlobals "wanted" = some (some (.ref f7))) (l7 : K.lookup f7 = some ⟨oc7, od7, .func (PySem.W.fnOf "wanted" "wanted" (defArgs s_wanted) (defBody s_wanted) (defScope s_wanted) .none kV7 dc7 pm7 an7 cd7 ct7), sl7⟩) (c7 : PySem.W.codeIn K cd7 "wanted" = true) (k7 : PySem.W.keepIn K (.ref f7) = true)
    (a8 : PySem.W.nsIn K mainGlobals "gap_at" = some (some (.ref f8))) (l8 : K.lookup f8 = some ⟨oc8, od8, .func (PySem.W.fnOf "gap_at" "gap_at" (defArgs s_gap_at) (defBody s_gap_at) (defScope s_gap_at) .none kV8 dc8 pm8 an8 cd8 ct8), sl8⟩) (c8 : PySem.W.codeIn K cd8 "gap_at" = true) (k8 : PySem.W.keepIn K (.ref f8) = true)
    (a9 : PySem.W.nsIn K mainGlobals "goes_over" = some (some (.ref f9))) (l9 : K.lookup f9 = some ⟨oc9, od9, .func (PySem.W.fnOf "goes_over" "goes_over" (defArgs s_goes_over) (defBody s_goes_over) (defScope s_goes_over) .none kV9 dc9 pm9 an9 cd9 ct9), sl9⟩) (c9 : PySem.W.codeIn K cd9 "goes_over" = true) (k9 : PySem.W.keepIn K (.ref f9) = true)
    (a10 : PySem.W.nsIn K mainGlobals "changed_road" = some (some (.ref f10))) (l10 : K.lookup f10 = some ⟨oc10, od10, .func (PySem.W.fnOf "changed_road" "changed_road" (defArgs s_changed_road) (defBody s_changed_road) (defScope s_changed_road) .none kV10 dc10 pm10 an10 cd10 ct10), sl10⟩) (c10 : PySem.W.codeIn K cd10 "changed_road" = true) (k10 : PySem.W.keepIn K (.ref f10) = true)
    (a11 : PySem.W.nsIn K mainGlobals "changed" = some (some (.ref f11))) (l11 : K.lookup f11 = some ⟨oc11, od11, .func (PySem.W.fnOf "changed" "changed" (defArgs s_changed) (defBody s_changed) (defScope s_changed) .none kV11 dc11 pm11 an11 cd11 ct11), sl11⟩) (c11 : PySem.W.codeIn K cd11 "changed" = true) (k11 : PySem.W.keepIn K (.ref f11) = true)
    (a12 : PySem.W.nsIn K mainGlobals "front" = some (some (.ref f12))) (l12 : K.lookup f12 = some ⟨oc12, od12, .func (PySem.W.fnOf "front" "front" (defArgs s_front) (defBody s_front) (defScope s_front) .none kV12 dc12 pm12 an12 cd12 ct12), sl12⟩) (c12 : PySem.W.codeIn K cd12 "front" = true) (k12 : PySem.W.keepIn K (.ref f12) = true)
    (a13 : PySem.W.nsIn K mainGlobals "greens" = some (some (.ref f13))) (l13 : K.lookup f13 = some ⟨oc13, od13, .func (PySem.W.fnOf "greens" "greens" (defArgs s_greens) (defBody s_greens) (defScope s_greens) .none kV13 dc13 pm13 an13 cd13 ct13), sl13⟩) (c13 : PySem.W.codeIn K cd13 "greens" = true) (k13 : PySem.W.keepIn K (.ref f13) = true)
    (a14 : PySem.W.nsIn K mainGlobals "road_ends" = some (some (.ref f14))) (l14 : K.lookup f14 = some ⟨oc14, od14, .func (PySem.W.fnOf "road_ends" "road_ends" (defArgs s_road_ends) (defBody s_road_ends) (defScope s_road_ends) .none kV14 dc14 pm14 an14 cd14 ct14), sl14⟩) (c14 : PySem.W.codeIn K cd14 "road_ends" = true) (k14 : PySem.W.keepIn K (.ref f14) = true)
    (a15 : PySem.W.nsIn K mainGlobals "ends" = some (some (.ref f15))) (l15 : K.lookup f15 = some ⟨oc15, od15, .func (PySem.W.fnOf "ends" "ends" (defArgs s_ends) (defBody s_ends) (defScope s_ends) .none kV15 dc15 pm15 an15 cd15 ct15), sl15⟩) (c15 : PySem.W.codeIn K cd15 "ends" = true) (k15 : PySem.W.keepIn K (.ref f15) = true)
    (a16 : PySem.W.nsIn K mainGlobals "road_order" = some (some (.ref f16))) (l16 : K.lookup f16 = some ⟨oc16, od16, .func (PySem.W.fnOf "road_order" "road_order" (defArgs s_road_order) (defBody s_road_order) (defScope s_road_order) .none kV16 dc16 pm16 an16 cd16 ct16), sl16⟩) (c16 : PySem.W.codeIn K cd16 "road_order" = true) (k16 : PySem.W.keepIn K (.ref f16) = true)
    (a17 : PySem.W.nsIn K mainGlobals "asking_at" = some (some (.ref f17))) (l17 : K.lookup f17 = some ⟨oc17, od17, .func (PySem.W.fnOf "asking_at" "asking_at" (defArgs s_asking_at) (defBody s_asking_at) (defScope s_asking_at) .none kV17 dc17 pm17 an17 cd17 ct17), sl17⟩) (c17 : PySem.W.codeIn K cd17 "asking_at" = true) (k17 : PySem.W.keepIn K (.ref f17) = true)
    (a18 : PySem.W.nsIn K mainGlobals "full_by" = some (some (.ref f18))) (l18 : K.lookup f18 = some ⟨oc18, od18, .func (PySem.W.fnOf "full_by" "full_by" (defArgs s_full_by) (defBody s_full_by) (defScope s_full_by) .none kV18 dc18 pm18 an18 cd18 ct18), sl18⟩) (c18 : PySem.W.codeIn K cd18 "full_by" = true) (k18 : PySem.W.keepIn K (.ref f18) = true)
    (a19 : PySem.W.nsIn K mainGlobals "cause_at" = some (some (.ref f19))) (l19 : K.lookup f19 = some ⟨oc19, od19, .func (PySem.W.fnOf "cause_at" "cause_at" (defArgs s_cause_at) (defBody s_cause_at) (defScope s_cause_at) .none kV19 dc19 pm19 an19 cd19 ct19), sl19⟩) (c19 : PySem.W.codeIn K cd19 "cause_at" = true) (k19 : PySem.W.keepIn K (.ref f19) = true)
    (a20 : PySem.W.nsIn K mainGlobals "let_through" = some (some (.ref f20))) (l20 : K.lookup f20 = some ⟨oc20, od20, .func (PySem.W.fnOf "let_through" "let_through" (defArgs s_let_through) (defBody s_let_through) (defScope s_let_through) .none kV20 dc20 pm20 an20 cd20 ct20), sl20⟩) (c20 : PySem.W.codeIn K cd20 "let_through" = true) (k20 : PySem.W.keepIn K (.ref f20) = true)
    (a21 : PySem.W.nsIn K mainGlobals "entry" = some (some (.ref f21))) (l21 : K.lookup f21 = some ⟨oc21, od21, .func (PySem.W.fnOf "entry" "entry" (defArgs s_entry) (defBody s_entry) (defScope s_entry) .none kV21 dc21 pm21 an21 cd21 ct21), sl21⟩) (c21 : PySem.W.codeIn K cd21 "entry" = true) (k21 : PySem.W.keepIn K (.ref f21) = true)
    (a22 : PySem.W.nsIn K mainGlobals "moved" = some (some (.ref f22))) (l22 : K.lookup f22 = some ⟨oc22, od22, .func (PySem.W.fnOf "moved" "moved" (defArgs s_moved) (defBody s_moved) (defScope s_moved) .none kV22 dc22 pm22 an22 cd22 ct22), sl22⟩) (c22 : PySem.W.codeIn K cd22 "moved" = true) (k22 : PySem.W.keepIn K (.ref f22) = true)
    (a23 : PySem.W.nsIn K mainGlobals "first_outside" = some (some (.ref f23))) (l23 : K.lookup f23 = some ⟨oc23, od23, .func (PySem.W.fnOf "first_outside" "first_outside" (defArgs s_first_outside) (defBody s_first_outside) (defScope s_first_outside) .none kV23 dc23 pm23 an23 cd23 ct23), sl23⟩) (c23 : PySem.W.codeIn K cd23 "first_outside" = true) (k23 : PySem.W.keepIn K (.ref f23) = true)
    (a24 : PySem.W.nsIn K mainGlobals "free_lane" = some (some (.ref f24))) (l24 : K.lookup f24 = some ⟨oc24, od24, .func (PySem.W.fnOf "free_lane" "free_lane" (defArgs s_free_lane) (defBody s_free_lane) (defScope s_free_lane) .none kV24 dc24 pm24 an24 cd24 ct24), sl24⟩) (c24 : PySem.W.codeIn K cd24 "free_lane" = true) (k24 : PySem.W.keepIn K (.ref f24) = true)
    (a25 : PySem.W.nsIn K mainGlobals "entered" = some (some (.ref f25))) (l25 : K.lookup f25 = some ⟨oc25, od25, .func (PySem.W.fnOf "entered" "entered" (defArgs s_entered) (defBody s_entered) (defScope s_entered) .none kV25 dc25 pm25 an25 cd25 ct25), sl25⟩) (c25 : PySem.W.codeIn K cd25 "entered" = true) (k25 : PySem.W.keepIn K (.ref f25) = true)
    (a26 : PySem.W.nsIn K mainGlobals "step" = some (some (.ref f26))) (l26 : K.lookup f26 = some ⟨oc26, od26, .func (PySem.W.fnOf "step" "step" (defArgs s_step) (defBody s_step) (defScope s_step) .none kV26 dc26 pm26 an26 cd26 ct26), sl26⟩) (c26 : PySem.W.codeIn K cd26 "step" = true) (k26 : PySem.W.keepIn K (.ref f26) = true)
    (a27 : PySem.W.nsIn K mainGlobals "beginning" = some (some (.ref f27))) (l27 : K.lookup f27 = some ⟨oc27, od27, .func (PySem.W.fnOf "beginning" "beginning" (defArgs s_beginning) (defBody s_beginning) (defScope s_beginning) .none kV27 dc27 pm27 an27 cd27 ct27), sl27⟩) (c27 : PySem.W.codeIn K cd27 "beginning" = true) (k27 : PySem.W.keepIn K (.ref f27) = true)
    (a28 : PySem.W.nsIn K mainGlobals "run" = some (some (.ref f28))) (l28 : K.lookup f28 = some ⟨oc28, od28, .func (PySem.W.fnOf "run" "run" (defArgs s_run) (defBody s_run) (defScope s_run) .none kV28 dc28 pm28 an28 cd28 ct28), sl28⟩) (c28 : PySem.W.codeIn K cd28 "run" = true) (k28 : PySem.W.keepIn K (.ref f28) = true)
    (a29 : PySem.W.nsIn K mainGlobals "_law_stream" = some (some (.ref f29))) (l29 : K.lookup f29 = some ⟨oc29, od29, .func (PySem.W.fnOf "_law_stream" "_law_stream" (defArgs s__law_stream) (defBody s__law_stream) (defScope s__law_stream) .none kV29 dc29 pm29 an29 cd29 ct29), sl29⟩) (c29 : PySem.W.codeIn K cd29 "_law_stream" = true) (k29 : PySem.W.keepIn K (.ref f29) = true)
    (a30 : PySem.W.nsIn K mainGlobals "_law_draw" = some (some (.ref f30))) (l30 : K.lookup f30 = some ⟨oc30, od30, .func (PySem.W.fnOf "_law_draw" "_law_draw" (defArgs s__law_draw) (defBody s__law_draw) (defScope s__law_draw) .none kV30 dc30 pm30 an30 cd30 ct30), sl30⟩) (c30 : PySem.W.codeIn K cd30 "_law_draw" = true) (k30 : PySem.W.keepIn K (.ref f30) = true)
    (a31 : PySem.W.nsIn K mainGlobals "_law_some" = some (some (.ref f31))) (l31 : K.lookup f31 = some ⟨oc31, od31, .func (PySem.W.fnOf "_law_some" "_law_some" (defArgs s__law_some) (defBody s__law_some) (defScope s__law_some) .none kV31 dc31 pm31 an31 cd31 ct31), sl31⟩) (c31 : PySem.W.codeIn K cd31 "_law_some" = true) (k31 : PySem.W.keepIn K (.ref f31) = true)
    (a32 : PySem.W.nsIn K mainGlobals "_law_rule" = some (some (.ref f32))) (l32 : K.lookup f32 = some ⟨oc32, od32, .func (PySem.W.fnOf "_law_rule" "_law_rule" (defArgs s__law_rule) (defBody s__law_rule) (defScope s__law_rule) .none kV32 dc32 pm32 an32 cd32 ct32), sl32⟩) (c32 : PySem.W.codeIn K cd32 "_law_rule" = true) (k32 : PySem.W.keepIn K (.ref f32) = true)
    (a33 : PySem.W.nsIn K mainGlobals "_law_net" = some (some (.ref f33))) (l33 : K.lookup f33 = some ⟨oc33, od33, .func (PySem.W.fnOf "_law_net" "_law_net" (defArgs s__law_net) (defBody s__law_net) (defScope s__law_net) .none kV33 dc33 pm33 an33 cd33 ct33), sl33⟩) (c33 : PySem.W.codeIn K cd33 "_law_net" = true) (k33 : PySem.W.keepIn K (.ref f33) = true)
    (a34 : PySem.W.nsIn K mainGlobals "_law_way" = some (some (.ref f34))) (l34 : K.lookup f34 = some ⟨oc34, od34, .func (PySem.W.fnOf "_law_way" "_law_way" (defArgs s__law_way) (defBody s__law_way) (defScope s__law_way) .none kV34 dc34 pm34 an34 cd34 ct34), sl34⟩) (c34 : PySem.W.codeIn K cd34 "_law_way" = true) (k34 : PySem.W.keepIn K (.ref f34) = true)
    (a35 : PySem.W.nsIn K mainGlobals "_law_cars" = some (some (.ref f35))) (l35 : K.lookup f35 = some ⟨oc35, od35, .func (PySem.W.fnOf "_law_cars" "_law_cars" (defArgs s__law_cars) (defBody s__law_cars) (defScope s__law_cars) .none kV35 dc35 pm35 an35 cd35 ct35), sl35⟩) (c35 : PySem.W.codeIn K cd35 "_law_cars" = true) (k35 : PySem.W.keepIn K (.ref f35) = true)
    (a36 : PySem.W.nsIn K mainGlobals "_law_is_there" = some (some (.ref f36))) (l36 : K.lookup f36 = some ⟨oc36, od36, .func (PySem.W.fnOf "_law_is_there" "_law_is_there" (defArgs s__law_is_there) (defBody s__law_is_there) (defScope s__law_is_there) .none kV36 dc36 pm36 an36 cd36 ct36), sl36⟩) (c36 : PySem.W.codeIn K cd36 "_law_is_there" = true) (k36 : PySem.W.keepIn K (.ref f36) = true)
    (a37 : PySem.W.nsIn K mainGlobals "_law_due" = some (some (.ref f37))) (l37 : K.lookup f37 = some ⟨oc37, od37, .func (PySem.W.fnOf "_law_due" "_law_due" (defArgs s__law_due) (defBody s__law_due) (defScope s__law_due) .none kV37 dc37 pm37 an37 cd37 ct37), sl37⟩) (c37 : PySem.W.codeIn K cd37 "_law_due" = true) (k37 : PySem.W.keepIn K (.ref f37) = true)
    (a38 : PySem.W.nsIn K mainGlobals "_law_state" = some (some (.ref f38))) (l38 : K.lookup f38 = some ⟨oc38, od38, .func (PySem.W.fnOf "_law_state" "_law_state" (defArgs s__law_state) (defBody s__law_state) (defScope s__law_state) .none kV38 dc38 pm38 an38 cd38 ct38), sl38⟩) (c38 : PySem.W.codeIn K cd38 "_law_state" = true) (k38 : PySem.W.keepIn K (.ref f38) = true)
    (a39 : PySem.W.nsIn K mainGlobals "_law_alike" = some (some (.ref f39))) (l39 : K.lookup f39 = some ⟨oc39, od39, .func (PySem.W.fnOf "_law_alike" "_law_alike" (defArgs s__law_alike) (defBody s__law_alike) (defScope s__law_alike) .none kV39 dc39 pm39 an39 cd39 ct39), sl39⟩) (c39 : PySem.W.codeIn K cd39 "_law_alike" = true) (k39 : PySem.W.keepIn K (.ref f39) = true)
    (a40 : PySem.W.nsIn K mainGlobals "law" = some (some (.ref f40))) (l40 : K.lookup f40 = some ⟨oc40, od40, .func (PySem.W.fnOf "law" "law" (defArgs s_law) (defBody s_law) (defScope s_law) .none kV40 dc40 pm40 an40 cd40 ct40), sl40⟩) (c40 : PySem.W.codeIn K cd40 "law" = true) (k40 : PySem.W.keepIn K (.ref f40) = true)
    (z_abs : PySem.W.nsIn K mainGlobals "abs" = some none)
    (z_all : PySem.W.nsIn K mainGlobals "all" = some none)
    (z_any : PySem.W.nsIn K mainGlobals "any" = some none)
    (z_bool : PySem.W.nsIn K mainGlobals "bool" = some none)
    (z_enumerate : PySem.W.nsIn K mainGlobals "enumerate" = some none)
    (z_int : PySem.W.nsIn K mainGlobals "int" = some none)
    (z_isinstance : PySem.W.nsIn K mainGlobals "isinstance" = some none)
    (z_len : PySem.W.nsIn K mainGlobals "len" = some none)
    (z_list : PySem.W.nsIn K mainGlobals "list" = some none)
    (z_min : PySem.W.nsIn K mainGlobals "min" = some none)
    (z_range : PySem.W.nsIn K mainGlobals "range" = some none)
    (z_sorted : PySem.W.nsIn K mainGlobals "sorted" = some none)
    (z_sum : PySem.W.nsIn K mainGlobals "sum" = some none)
    (z_tuple : PySem.W.nsIn K mainGlobals "tuple" = some none)
    : ∃ fd : FuncData, (∀ (s : Shared) (v : Value), BindsTo s fd ⟨[v], []⟩ [("_law_script", v)]) ∧ ∀ base : Heap, K.In base → base.Ns mainGlobals mg → GRun l.prog w K mg base CX0 9 fa fd ["_law_script"] (spG K 1 f_law) := by
  cases hfa.symm.trans (PySem.W.mg_of X G a40)
  have T : Txt mg := ⟨PySem.W.mg_none_of X G z_abs, PySem.W.mg_none_of X G z_all, PySem.W.mg_none_of X G z_any, PySem.W.mg_none_of X G z_bool, PySem.W.mg_none_of X G z_enumerate, PySem.W.mg_none_of X G z_int, PySem.W.mg_none_of X G z_isinstance, PySem.W.mg_none_of X G z_len, PySem.W.mg_none_of X G z_list, PySem.W.mg_none_of X G z_min, PySem.W.mg_none_of X G z_range, PySem.W.mg_none_of X G z_sorted, PySem.W.mg_none_of X G z_sum, PySem.W.mg_none_of X G z_tuple⟩
  have F1 := fun_mk (st := s_legs) l1 c1 k1
  have b1 := F1.binds (ps := ["state"]) fun _ _ _ _ _ _ us hl => match us, hl with | [_], _ => rfl
  have F2 := fun_mk (st := s_is_past) l2 c2 k2
  have b2 := F2.binds (ps := ["state", "car", "leg", "cell"]) fun _ _ _ _ _ _ us hl => match us, hl with | [_, _, _, _], _ => rfl
  have F3 := fun_mk (st := s_passed) l3 c3 k3
  have b3 := F3.binds (ps := ["net", "cars", "states", "road", "cell"]) fun _ _ _ _ _ _ us hl => match us, hl with | [_, _, _, _, _], _ => rfl
  have F4 := fun_mk (st := s_all_cars) l4 c4 k4
  have b4 := F4.binds (ps := ["state"]) fun _ _ _ _ _ _ us hl => match us, hl with | [_], _ => rfl
  have F5 := fun_mk (st := s_outside) l5 c5 k5
  have b5 := F5.binds (ps := ["cars", "state"]) fun _ _ _ _ _ _ us hl => match us, hl with | [_, _], _ => rfl
  have F6 := fun_mk (st := s_room_in) l6 c6 k6
  have b6 := F6.binds (ps := ["rows", "at", "cells"]) fun _ _ _ _ _ _ us hl => match us, hl with | [_, _, _], _ => rfl
  have F7 := fun_mk (st := s_wanted) l7 c7 k7
  have b7 := F7.binds (ps := ["net", "road", "row"]) fun _ _ _ _ _ _ us hl => match us, hl with | [_, _, _], _ => rfl
  have F8 := fun_mk (st := s_gap_at) l8 c8 k8
  have b8 := F8.binds (ps := ["rows", "cell", "cells"]) fun _ _ _ _ _ _ us hl => match us, hl with | [_, _, _], _ => rfl
  have F9 := fun_mk (st := s_goes_over) l9 c9 k9
  have b9 := F9.binds (ps := ["net", "road", "rows", "at", "other"]) fun _ _ _ _ _ _ us hl => match us, hl with | [_, _, _, _, _], _ => rfl
  have F10 := fun_mk (st := s_changed_road) l10 c10 k10
  have b10 := F10.binds (ps := ["net", "road", "lanes", "time"]) fun _ _ _ _ _ _ us hl => match us, hl with | [_, _, _, _], _ => rfl
  have F11 := fun_mk (st := s_changed) l11 c11 k11
  have b11 := F11.binds (ps := ["net", "cars", "state"]) fun _ _ _ _ _ _ us hl => match us, hl with | [_, _, _], _ => rfl
  have F12 := fun_mk (st := s_front) l12 c12 k12
  have b12 := F12.binds (ps := ["net", "road", "rows"]) fun _ _ _ _ _ _ us hl => match us, hl with | [_, _, _], _ => rfl
  have F13 := fun_mk (st := s_greens) l13 c13 k13
  have b13 := F13.binds (ps := ["net", "crossing", "time"]) fun _ _ _ _ _ _ us hl => match us, hl with | [_, _, _], _ => rfl
  have F14 := fun_mk (st := s_road_ends) l14 c14 k14
  have b14 := F14.binds (ps := ["roads", "crossing"]) fun _ _ _ _ _ _ us hl => match us, hl with | [_, _], _ => rfl
  have F15 := fun_mk (st := s_ends) l15 c15 k15
  have b15 := F15.binds (ps := ["net"]) fun _ _ _ _ _ _ us hl => match us, hl with | [_], _ => rfl
  have F16 := fun_mk (st := s_road_order) l16 c16 k16
  have b16 := F16.binds (ps := ["net", "crossing"]) fun _ _ _ _ _ _ us hl => match us, hl with | [_, _], _ => rfl
  have F17 := fun_mk (st := s_asking_at) l17 c17 k17
  have b17 := F17.binds (ps := ["net", "cars", "rows", "crossing"]) fun _ _ _ _ _ _ us hl => match us, hl with | [_, _, _, _], _ => rfl
  have F18 := fun_mk (st := s_full_by) l18 c18 k18
  have b18 := F18.binds (ps := ["rows", "one"]) fun _ _ _ _ _ _ us hl => match us, hl with | [_, _], _ => rfl
  have F19 := fun_mk (st := s_cause_at) l19 c19 k19
  have b19 := F19.binds (ps := ["net", "crossing", "asked", "one", "rows", "entered", "green"]) fun _ _ _ _ _ _ us hl => match us, hl with | [_, _, _, _, _, _, _], _ => rfl
  have F20 := fun_mk (st := s_let_through) l20 c20 k20
  have b20 := F20.binds (ps := ["net", "cars", "time", "rows"]) fun _ _ _ _ _ _ us hl => match us, hl with | [_, _, _, _], _ => rfl
  have F21 := fun_mk (st := s_entry) l21 c21 k21
  have b21 := F21.binds (ps := ["net", "rows", "one"]) fun _ _ _ _ _ _ us hl => match us, hl with | [_, _, _], _ => rfl
  have F22 := fun_mk (st := s_moved) l22 c22 k22
  have b22 := F22.binds (ps := ["net", "cars", "time", "rows"]) fun _ _ _ _ _ _ us hl => match us, hl with | [_, _, _, _], _ => rfl
  have F23 := fun_mk (st := s_first_outside) l23 c23 k23
  have b23 := F23.binds (ps := ["cars", "waiting", "time", "road"]) fun _ _ _ _ _ _ us hl => match us, hl with | [_, _, _, _], _ => rfl
  have F24 := fun_mk (st := s_free_lane) l24 c24 k24
  have b24 := F24.binds (ps := ["lanes"]) fun _ _ _ _ _ _ us hl => match us, hl with | [_], _ => rfl
  have F25 := fun_mk (st := s_entered) l25 c25 k25
  have b25 := F25.binds (ps := ["net", "cars", "waiting", "time", "rows"]) fun _ _ _ _ _ _ us hl => match us, hl with | [_, _, _, _, _], _ => rfl
  have F26 := fun_mk (st := s_step) l26 c26 k26
  have b26 := F26.binds (ps := ["net", "cars", "state"]) fun _ _ _ _ _ _ us hl => match us, hl with | [_, _, _], _ => rfl
  have F27 := fun_mk (st := s_beginning) l27 c27 k27
  have b27 := F27.binds (ps := ["net"]) fun _ _ _ _ _ _ us hl => match us, hl with | [_], _ => rfl
  have F28 := fun_mk (st := s_run) l28 c28 k28
  have b28 := F28.binds (ps := ["net", "cars", "until"]) fun _ _ _ _ _ _ us hl => match us, hl with | [_, _, _], _ => rfl
  have F29 := fun_mk (st := s__law_stream) l29 c29 k29
  have b29 := F29.binds (ps := ["_law_script"]) fun _ _ _ _ _ _ us hl => match us, hl with | [_], _ => rfl
  have F30 := fun_mk (st := s__law_draw) l30 c30 k30
  have b30 := F30.binds (ps := ["_law_stream_here", "_law_many"]) fun _ _ _ _ _ _ us hl => match us, hl with | [_, _], _ => rfl
  have F31 := fun_mk (st := s__law_some) l31 c31 k31
  have b31 := F31.binds (ps := ["_law_stream_here", "_law_rows"]) fun _ _ _ _ _ _ us hl => match us, hl with | [_, _], _ => rfl
  have F32 := fun_mk (st := s__law_rule) l32 c32 k32
  have b32 := F32.binds (ps := ["_law_stream_here", "_law_closing"]) fun _ _ _ _ _ _ us hl => match us, hl with | [_, _], _ => rfl
  have F33 := fun_mk (st := s__law_net) l33 c33 k33
  have b33 := F33.binds (ps := ["_law_stream_here"]) fun _ _ _ _ _ _ us hl => match us, hl with | [_], _ => rfl
  have F34 := fun_mk (st := s__law_way) l34 c34 k34
  have b34 := F34.binds (ps := ["_law_stream_here", "_law_net_here"]) fun _ _ _ _ _ _ us hl => match us, hl with | [_, _], _ => rfl
  have F35 := fun_mk (st := s__law_cars) l35 c35 k35
  have b35 := F35.binds (ps := ["_law_stream_here", "_law_net_here"]) fun _ _ _ _ _ _ us hl => match us, hl with | [_, _], _ => rfl
  have F36 := fun_mk (st := s__law_is_there) l36 c36 k36
  have b36 := F36.binds (ps := ["_law_state_here", "_law_cars_here", "_law_car", "_law_road", "_law_cell"]) fun _ _ _ _ _ _ us hl => match us, hl with | [_, _, _, _, _], _ => rfl
  have F37 := fun_mk (st := s__law_due) l37 c37 k37
  have b37 := F37.binds (ps := ["_law_cars_here", "_law_states", "_law_road", "_law_cell"]) fun _ _ _ _ _ _ us hl => match us, hl with | [_, _, _, _], _ => rfl
  have F38 := fun_mk (st := s__law_state) l38 c38 k38
  have b38 := F38.binds (ps := ["_law_stream_here", "_law_net_here", "_law_cars_here"]) fun _ _ _ _ _ _ us hl => match us, hl with | [_, _, _], _ => rfl
  have F39 := fun_mk (st := s__law_alike) l39 c39 k39
  have b39 := F39.binds (ps := ["_law_a", "_law_b"]) fun _ _ _ _ _ _ us hl => match us, hl with | [_, _], _ => rfl
  have F40 := fun_mk (st := s_law) l40 c40 k40
  refine ⟨PySem.W.fnOf "law" "law" (defArgs s_law) (defBody s_law) (defScope s_law) .none kV40 dc40 pm40 an40 cd40 ct40, fun s v => .of_eq rfl, fun base _ _ => ?_⟩
  have C1 : Cal l.prog w K mg base 1 "legs" (spG K 1 f_legs) := ⟨f1, _, _, ok_legs F1 T , PySem.W.mg_of X G a1, k1, b1⟩
  have C2 : Cal l.prog w K mg base 2 "is_past" (spF K 4 f_is_past) := ⟨f2, _, _, ok_is_past F2 T C1, PySem.W.mg_of X G a2, k2, b2⟩
  have C3 : Cal l.prog w K mg base 3 "passed" (spG K 5 f_passed) := ⟨f3, _, _, ok_passed F3 T C2, PySem.W.mg_of X G a3, k3, b3⟩
  have C4 : Cal l.prog w K mg base 1 "all_cars" (spF K 1 f_all_cars) := ⟨f4, _, _, ok_all_cars F4 T , PySem.W.mg_of X G a4, k4, b4⟩
  have C5 : Cal l.prog w K mg base 2 "outside" (spF K 2 f_outside) := ⟨f5, _, _, ok_outside F5 T C4, PySem.W.mg_of X G a5, k5, b5⟩
  have C6 : Cal l.prog w K mg base 1 "room_in" (spF K 3 f_room_in) := ⟨f6, _, _, ok_room_in F6 T , PySem.W.mg_of X G a6, k6, b6⟩
  have C7 : Cal l.prog w K mg base 1 "wanted" (spF K 3 f_wanted) := ⟨f7, _, _, ok_wanted F7 T , PySem.W.mg_of X G a7, k7, b7⟩
  have C8 : Cal l.prog w K mg base 1 "gap_at" (spF K 3 f_gap_at) := ⟨f8, _, _, ok_gap_at F8 T , PySem.W.mg_of X G a8, k8, b8⟩
  have C9 : Cal l.prog w K mg base 2 "goes_over" (spF K 5 f_goes_over) := ⟨f9, _, _, ok_goes_over F9 T C6 C7 C8, PySem.W.mg_of X G a9, k9, b9⟩
  have C10 : Cal l.prog w K mg base 3 "changed_road" (spF K 4 f_changed_road) := ⟨f10, _, _, ok_changed_road F10 T C9, PySem.W.mg_of X G a10, k10, b10⟩
  have C11 : Cal l.prog w K mg base 4 "changed" (spF K 3 f_changed) := ⟨f11, _, _, ok_changed F11 T C10, PySem.W.mg_of X G a11, k11, b11⟩
  have C12 : Cal l.prog w K mg base 2 "front" (spF K 3 f_front) := ⟨f12, _, _, ok_front F12 T C7, PySem.W.mg_of X G a12, k12, b12⟩
  have C13 : Cal l.prog w K mg base 1 "greens" (spG K 3 f_greens) := ⟨f13, _, _, ok_greens F13 T , PySem.W.mg_of X G a13, k13, b13⟩
  have C14 : Cal l.prog w K mg base 1 "road_ends" (spF K 2 f_road_ends) := ⟨f14, _, _, ok_road_ends F14 T , PySem.W.mg_of X G a14, k14, b14⟩
  have C15 : Cal l.prog w K mg base 2 "ends" (spF K 1 f_ends) := ⟨f15, _, _, ok_ends F15 T C14, PySem.W.mg_of X G a15, k15, b15⟩
  have C16 : Cal l.prog w K mg base 3 "road_order" (spF K 2 f_road_order) := ⟨f16, _, _, ok_road_order F16 T C15, PySem.W.mg_of X G a16, k16, b16⟩
  have C17 : Cal l.prog w K mg base 4 "asking_at" (spF K 4 f_asking_at) := ⟨f17, _, _, ok_asking_at F17 T C12 C16, PySem.W.mg_of X G a17, k17, b17⟩
  have C18 : Cal l.prog w K mg base 1 "full_by" (spF K 2 f_full_by) := ⟨f18, _, _, ok_full_by F18 T , PySem.W.mg_of X G a18, k18, b18⟩
  have C19 : Cal l.prog w K mg base 2 "cause_at" (spG K 7 f_cause_at) := ⟨f19, _, _, ok_cause_at F19 T C18, PySem.W.mg_of X G a19, k19, b19⟩
  have C20 : Cal l.prog w K mg base 5 "let_through" (spF K 4 f_let_through) := ⟨f20, _, _, ok_let_through F20 T C13 C17 C19, PySem.W.mg_of X G a20, k20, b20⟩
  have C21 : Cal l.prog w K mg base 2 "entry" (spF K 3 f_entry) := ⟨f21, _, _, ok_entry F21 T C7, PySem.W.mg_of X G a21, k21, b21⟩
  have C22 : Cal l.prog w K mg base 6 "moved" (spF K 4 f_moved) := ⟨f22, _, _, ok_moved F22 T C6 C7 C12 C20 C21, PySem.W.mg_of X G a22, k22, b22⟩
  have C23 : Cal l.prog w K mg base 1 "first_outside" (spF K 4 f_first_outside) := ⟨f23, _, _, ok_first_outside F23 T , PySem.W.mg_of X G a23, k23, b23⟩
  have C24 : Cal l.prog w K mg base 1 "free_lane" (spF K 1 f_free_lane) := ⟨f24, _, _, ok_free_lane F24 T , PySem.W.mg_of X G a24, k24, b24⟩
  have C25 : Cal l.prog w K mg base 2 "entered" (spF K 5 f_entered) := ⟨f25, _, _, ok_entered F25 T C23 C24, PySem.W.mg_of X G a25, k25, b25⟩
  have C26 : Cal l.prog w K mg base 7 "step" (spF K 3 f_step) := ⟨f26, _, _, ok_step F26 T C5 C11 C22 C25, PySem.W.mg_of X G a26, k26, b26⟩
  have C27 : Cal l.prog w K mg base 1 "beginning" (spF K 1 f_beginning) := ⟨f27, _, _, ok_beginning F27 T , PySem.W.mg_of X G a27, k27, b27⟩
  have C28 : Cal l.prog w K mg base 8 "run" (spG K 3 f_run) := ⟨f28, _, _, ok_run F28 T C27 C26, PySem.W.mg_of X G a28, k28, b28⟩
  have C29 : Cal l.prog w K mg base 1 "_law_stream" (spG K 1 f__law_stream) := ⟨f29, _, _, ok__law_stream F29 T , PySem.W.mg_of X G a29, k29, b29⟩
  have C30 : Cal l.prog w K mg base 1 "_law_draw" (spF K 2 f__law_draw) := ⟨f30, _, _, ok__law_draw F30 T , PySem.W.mg_of X G a30, k30, b30⟩
  have C31 : Cal l.prog w K mg base 2 "_law_some" (spF K 2 f__law_some) := ⟨f31, _, _, ok__law_some F31 T C30, PySem.W.mg_of X G a31, k31, b31⟩
  have C32 : Cal l.prog w K mg base 3 "_law_rule" (spF K 2 f__law_rule) := ⟨f32, _, _, ok__law_rule F32 T C30 C31, PySem.W.mg_of X G a32, k32, b32⟩
  have C33 : Cal l.prog w K mg base 4 "_law_net" (spF K 1 f__law_net) := ⟨f33, _, _, ok__law_net F33 T C30 C32, PySem.W.mg_of X G a33, k33, b33⟩
  have C34 : Cal l.prog w K mg base 2 "_law_way" (spF K 2 f__law_way) := ⟨f34, _, _, ok__law_way F34 T C30, PySem.W.mg_of X G a34, k34, b34⟩
  have C35 : Cal l.prog w K mg base 3 "_law_cars" (spF K 2 f__law_cars) := ⟨f35, _, _, ok__law_cars F35 T C30 C34, PySem.W.mg_of X G a35, k35, b35⟩
  have C36 : Cal l.prog w K mg base 1 "_law_is_there" (spF K 5 f__law_is_there) := ⟨f36, _, _, ok__law_is_there F36 T , PySem.W.mg_of X G a36, k36, b36⟩
  have C37 : Cal l.prog w K mg base 2 "_law_due" (spG K 4 f__law_due) := ⟨f37, _, _, ok__law_due F37 T C36, PySem.W.mg_of X G a37, k37, b37⟩
  have C38 : Cal l.prog w K mg base 2 "_law_state" (spF K 3 f__law_state) := ⟨f38, _, _, ok__law_state F38 T C30, PySem.W.mg_of X G a38, k38, b38⟩
  have C39 : Cal l.prog w K mg base 5 "_law_alike" (spF K 2 (f__law_alike 4)) := ⟨f39, _, _, ok__law_alike F39 T  (PySem.W.mg_of X G a39) k39 b39 4, PySem.W.mg_of X G a39, k39, b39⟩
  exact ok_law F40 T C3 C26 C28 C29 C30 C33 C35 C37 C38 C39
theorem walk {l : PySem.W.OpenLaw} {q : Program} {loose : List Str} {XP : (Str → Option Value) → Heap → Prop} {YP : World → Heap → Prop} {d : DefRec} {K : Params → PySem.W.Frag} (hn : l.most = some 63) (hdf : d.params.defaults = [])
    (hY : ∀ (w : World) (h : Heap), YP w h → (K w.params).In h) (hl : ∀ ns : List Int, ns.length ≤ 63 → ∃ S, f_law [.scr ns] [] = some (.bl true, S))
    (F : ∀ (w : World) (mg : Str → Option Value) (fa : Addr) (h : Heap), (K w.params).In h → h.Ns mainGlobals mg → mg d.name = some (.ref fa) →
      ∃ fd : FuncData, (∀ (s : Shared) (u : Value), BindsTo s fd ⟨[u], []⟩ [("_law_script", u)]) ∧ ∀ base : Heap, (K w.params).In base → base.Ns mainGlobals mg → GRun l.prog w (K w.params) mg base CX0 9 fa fd ["_law_script"] (spG (K w.params) 1 f_law)) :
    PySem.W.WalkO q loose XP YP l.row.toRowW d [] (fun f vs => PySem.call f vs) :=
  L2.walkG (n := 63) (k := 9) (x := "_law_script") (sp := fun w => spG (K w.params) 1 f_law) hn (by decide) hdf ⟨rfl, by decide, by decide⟩ hY F fun w H a ns hlen _ hS =>
    let ⟨S, e⟩ := hl ns hlen
    ⟨B0, [], [], [.scr ns], _, S, ⟨rfl, List.nodup_nil, fun _ z => z.elim, fun n a o e _ => by simp at e⟩, rfl, .cons _ _ _ _ (.scr a ns (match hS with | .inl h => .inl ⟨h, by simp, fun z => z⟩ | .inr h => .inr (.inr h))) .nil, e,
      fun v _ H' _ _ r => by cases r; rfl⟩
end C
open PySem PySem.W PyProof.Rows
set_option maxRecDepth 100000 in
set_option maxHeartbeats 0 in
theorem PySem.Challenge.cw_carfax_k09_passing_holds : PySem.Challenge.rw_carfax_k09_passing.Holds := by
  w_on; o_law; k_head; (case hw => w_witness2)
  k_fill
  refine C.walk (l := PySem.Challenge.rw_carfax_k09_passing) rfl rfl (fun w h Y => PySem.W.kIn_of Y) C.law_true ?F
  case F =>
    intro w mg fa h KX G hmg
    refine' C.all_mk KX G hmg ?a1 ?l1 ?c1 ?k1 ?a2 ?l2 ?c2 ?k2 ?a3 ?l3 ?c3 ?k3 ?a4 ?l4 ?c4 ?k4 ?a5 ?l5 ?c5 ?k5 ?a6 ?l6 ?c6 ?k6 ?a7 ?l7 ?c7 ?k7 ?a8 ?l8 ?c8 ?k8 ?a9 ?l9 ?c9 ?k9 ?a10 ?l10 ?c10 ?k10 ?a11 ?l11 ?c11 ?k11 ?a12 ?l12 ?c12 ?k12 ?a13 ?l13 ?c13 ?k13 ?a14 ?l14 ?c14 ?k14 ?a15 ?l15 ?c15 ?k15 ?a16 ?l16 ?c16 ?k16 ?a17 ?l17 ?c17 ?k17 ?a18 ?l18 ?c18 ?k18 ?a19 ?l19 ?c19 ?k19 ?a20 ?l20 ?c20 ?k20 ?a21 ?l21 ?c21 ?k21 ?a22 ?l22 ?c22 ?k22 ?a23 ?l23 ?c23 ?k23 ?a24 ?l24 ?c24 ?k24 ?a25 ?l25 ?c25 ?k25 ?a26 ?l26 ?c26 ?k26 ?a27 ?l27 ?c27 ?k27 ?a28 ?l28 ?c28 ?k28 ?a29 ?l29 ?c29 ?k29 ?a30 ?l30 ?c30 ?k30 ?a31 ?l31 ?c31 ?k31 ?a32 ?l32 ?c32 ?k32 ?a33 ?l33 ?c33 ?k33 ?a34 ?l34 ?c34 ?k34 ?a35 ?l35 ?c35 ?k35 ?a36 ?l36 ?c36 ?k36 ?a37 ?l37 ?c37 ?k37 ?a38 ?l38 ?c38 ?k38 ?a39 ?l39 ?c39 ?k39 ?a40 ?l40 ?c40 ?k40 ?z_abs ?z_all ?z_any ?z_bool ?z_enumerate ?z_int ?z_isinstance ?z_len ?z_list ?z_min ?z_range ?z_sorted ?z_sum ?z_tuple
    (case a1 => k_is)
    (case l1 => k_is)
    (case c1 => k_is)
    (case k1 => k_is)
    (case a2 => k_is)
    (case l2 => k_is)
    (case c2 => k_is)
    (case k2 => k_is)
    (case a3 => k_is)
    (case l3 => k_is)
    (case c3 => k_is)
    (case k3 => k_is)
    (case a4 => k_is)
    (case l4 => k_is)
    (case c4 => k_is)
    (case k4 => k_is)
    (case a5 => k_is)
    (case l5 => k_is)
    (case c5 => k_is)
    (case k5 => k_is)
    (case a6 => k_is)
    (case l6 => k_is)
    (case c6 => k_is)
    (case k6 => k_is)
    (case a7 => k_is)
    (case l7 => k_is)
    (case c7 => k_is)
    (case k7 => k_is)
    (case a8 => k_is)
    (case l8 => k_is)
    (case c8 => k_is)
    (case k8 => k_is)
    (case a9 => k_is)
    (case l9 => k_is)
    (case c9 => k_is)
    (case k9 => k_is)
    (case a10 => k_is)
    (case l10 => k_is)
    (case c10 => k_is)
    (case k10 => k_is)
    (case a11 => k_is)
    (case l11 => k_is)
    (case c11 => k_is)
    (case k11 => k_is)
    (case a12 => k_is)
    (case l12 => k_is)
    (case c12 => k_is)
    (case k12 => k_is)
    (case a13 => k_is)
    (case l13 => k_is)
    (case c13 => k_is)
    (case k13 => k_is)
    (case a14 => k_is)
    (case l14 => k_is)
    (case c14 => k_is)
    (case k14 => k_is)
    (case a15 => k_is)
    (case l15 => k_is)
    (case c15 => k_is)
    (case k15 => k_is)
    (case a16 => k_is)
    (case l16 => k_is)
    (case c16 => k_is)
    (case k16 => k_is)
    (case a17 => k_is)
    (case l17 => k_is)
    (case c17 => k_is)
    (case k17 => k_is)
    (case a18 => k_is)
    (case l18 => k_is)
    (case c18 => k_is)
    (case k18 => k_is)
    (case a19 => k_is)
    (case l19 => k_is)
    (case c19 => k_is)
    (case k19 => k_is)
    (case a20 => k_is)
    (case l20 => k_is)
    (case c20 => k_is)
    (case k20 => k_is)
    (case a21 => k_is)
    (case l21 => k_is)
    (case c21 => k_is)
    (case k21 => k_is)
    (case a22 => k_is)
    (case l22 => k_is)
    (case c22 => k_is)
    (case k22 => k_is)
    (case a23 => k_is)
    (case l23 => k_is)
    (case c23 => k_is)
    (case k23 => k_is)
    (case a24 => k_is)
    (case l24 => k_is)
    (case c24 => k_is)
    (case k24 => k_is)
    (case a25 => k_is)
    (case l25 => k_is)
    (case c25 => k_is)
    (case k25 => k_is)
    (case a26 => k_is)
    (case l26 => k_is)
    (case c26 => k_is)
    (case k26 => k_is)
    (case a27 => k_is)
    (case l27 => k_is)
    (case c27 => k_is)
    (case k27 => k_is)
    (case a28 => k_is)
    (case l28 => k_is)
    (case c28 => k_is)
    (case k28 => k_is)
    (case a29 => k_is)
    (case l29 => k_is)
    (case c29 => k_is)
    (case k29 => k_is)
    (case a30 => k_is)
    (case l30 => k_is)
    (case c30 => k_is)
    (case k30 => k_is)
    (case a31 => k_is)
    (case l31 => k_is)
    (case c31 => k_is)
    (case k31 => k_is)
    (case a32 => k_is)
    (case l32 => k_is)
    (case c32 => k_is)
    (case k32 => k_is)
    (case a33 => k_is)
    (case l33 => k_is)
    (case c33 => k_is)
    (case k33 => k_is)
    (case a34 => k_is)
    (case l34 => k_is)
    (case c34 => k_is)
    (case k34 => k_is)
    (case a35 => k_is)
    (case l35 => k_is)
    (case c35 => k_is)
    (case k35 => k_is)
    (case a36 => k_is)
    (case l36 => k_is)
    (case c36 => k_is)
    (case k36 => k_is)
    (case a37 => k_is)
    (case l37 => k_is)
    (case c37 => k_is)
    (case k37 => k_is)
    (case a38 => k_is)
    (case l38 => k_is)
    (case c38 => k_is)
    (case k38 => k_is)
    (case a39 => k_is)
    (case l39 => k_is)
    (case c39 => k_is)
    (case k39 => k_is)
    (case a40 => k_is)
    (case l40 => k_is)
    (case c40 => k_is)
    (case k40 => k_is)
    (case z_abs => k_is)
    (case z_all => k_is)
    (case z_any => k_is)
    (case z_bool => k_is)
    (case z_enumerate => k_is)
    (case z_int => k_is)
    (case z_isinstance => k_is)
    (case z_len => k_is)
    (case z_list => k_is)
    (case z_min => k_is)
    (case z_range => k_is)
    (case z_sorted => k_is)
    (case z_sum => k_is)
    (case z_tuple => k_is)
#print axioms PySem.Challenge.cw_carfax_k09_passing_holds
