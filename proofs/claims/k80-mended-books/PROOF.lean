import PyProof.Rows.All
import Wide.All
import OpenK.AllK
import Wide.FinOn
import HandS.ForMost
import HandS.ForExc
import HandS.Wide
import HandS.TupAny
import HandS.Style
import HandS.WideBits
import HandS.Deep
import HandS.IsInst
import HandS.Iter
import HandS.Zip
import HandS.CallSlots
import HandS.WordsExc
import HandS.Comp
import HandS.Defaults
import KE.KExcSuper
import HandS.Exc
import HandS.ExcField
import HandS.TryMany
import KE.KExcIs
import HandS.Conv
import HandS.Dict
import HandS.Text
import PyProof.Rows.ListStrD
import HandS.DictTup
import KE.KeyNested
import KE.KDictKeyed
import KE.KDictDisplayH
import KE.DataEq
import HandS.ExcIs
import PySem.Challenge.RW_withinbooks_k80_whole_mended_books
set_option Elab.async false
set_option linter.all false
set_option maxRecDepth 100000
set_option maxHeartbeats 4000000
/-! M0: a mirror of the text in plain Lean over a heap of numbered cells, and what ties it to the hand layer's readings. -/
namespace MR
open PySem PySem.Spec L2

/-- a value of the mirror: tuples by what they hold, lists and dicts by the number of their cell -/
inductive D where
  | non | bl (b : Bool) | int (i : Int) | str (s : Str) | tup (xs : List D) | ref (n : Nat)
  /-- the error that a suite holds: its class, its field -/
  | exc (c : Str) (d : D)
  /-- a built-in class; an own one -/
  | ty (n : String) | cls (c : Str)
  /-- a list that nobody writes (the script) -/
  | fz (xs : List D)
  /-- an error that is kept: its class, its field -/
  | er (c : Str) (d : D)
  /-- a dict's own key -/
  | key (k : List Key)
/-- what a cell holds: a list, a list that is only read, a dict -/
inductive Cell where
  | lst (xs : List D) | fro (xs : List D) | dic (kvs : List (Key × D))
  /-- a dict whose keys are tuples; the same while it is walked; the same with the text 'told' behind them -/
  | dt (kvs : List (List Key × D)) | dtf (kvs : List (List Key × D)) | odd (kvs : List (List Key × D))
/-- the cells, the newest first -/
structure Hs where
  n : Nat
  cs : List Cell
def Hs.get (S : Hs) (a : Nat) : Option Cell := if a < S.n then S.cs[S.n - 1 - a]? else none
def Hs.new (S : Hs) (c : Cell) : Hs := ⟨S.n + 1, c :: S.cs⟩
def Hs.put (S : Hs) (a : Nat) (c : Cell) : Hs := ⟨S.n, S.cs.set (S.n - 1 - a) c⟩
def Hs.Wf (S : Hs) : Prop := S.cs.length = S.n
theorem Hs.get_new (S : Hs) (c : Cell) : (S.new c).get S.n = some c := by
  simp [Hs.get, Hs.new]
theorem Hs.get_old {S : Hs} {c c' : Cell} {a : Nat} (h : S.get a = some c) : (S.new c').get a = some c := by
  unfold Hs.get at h
  split at h
  · rename_i hl
    unfold Hs.get Hs.new
    have e : S.n + 1 - 1 - a = (S.n - 1 - a) + 1 := by omega
    simp only []
    rw [if_pos (by omega), e, List.getElem?_cons_succ]
    exact h
  · cases h
theorem Hs.get_lt {S : Hs} {c : Cell} {a : Nat} (h : S.get a = some c) : a < S.n := by
  unfold Hs.get at h
  split at h
  · assumption
  · cases h
theorem Hs.get_new_inv {S : Hs} {c c' : Cell} {a : Nat} (h : (S.new c').get a = some c) : (a = S.n ∧ c = c') ∨ S.get a = some c := by
  have hl := Hs.get_lt h
  by_cases e : a = S.n
  · subst e
    rw [Hs.get_new] at h
    exact .inl ⟨rfl, (Option.some.inj h).symm⟩
  · refine .inr ?_
    have hl' : a < S.n + 1 := hl
    have hlt : a < S.n := by omega
    unfold Hs.get Hs.new at h
    simp only [] at h
    have e2 : S.n + 1 - 1 - a = (S.n - 1 - a) + 1 := by omega
    rw [if_pos (by omega), e2, List.getElem?_cons_succ] at h
    unfold Hs.get
    rw [if_pos hlt]
    exact h
theorem Hs.get_put {S : Hs} {c c' : Cell} {a : Nat} (h : S.get a = some c) : (S.put a c').get a = some c' := by
  have hl := Hs.get_lt h
  unfold Hs.get at h
  rw [if_pos hl] at h
  unfold Hs.get Hs.put
  simp only []
  rw [if_pos hl]
  exact List.getElem?_set_self (List.getElem?_eq_some_iff.mp h).1
theorem Hs.get_put_ne {S : Hs} {c' : Cell} {a b : Nat} (hb : b < S.n) (h : a ≠ b) : (S.put b c').get a = S.get a := by
  unfold Hs.get Hs.put
  simp only []
  by_cases hl : a < S.n
  · rw [if_pos hl, if_pos hl, List.getElem?_set_ne (by omega)]
  · rw [if_neg hl, if_neg hl]
theorem Hs.Wf.new {S : Hs} (h : S.Wf) (c : Cell) : (S.new c).Wf := by
  unfold Hs.Wf Hs.new at *
  simp [h]
theorem Hs.Wf.put {S : Hs} (h : S.Wf) (a : Nat) (c : Cell) : (S.put a c).Wf := by
  unfold Hs.Wf Hs.put at *
  simp [h]

/-- what comes of a piece of the text: a value, an error of a class with its field, or no word -/
inductive Res (α : Type) where
  | ok (a : α) (S : Hs) | err (c : Str) (d : D) (S : Hs) | bad
def Res.bind {α β : Type} (m : Res α) (k : α → Hs → Res β) : Res β := match m with
  | .ok a S => k a S
  | .err c d S => .err c d S
  | .bad => .bad
abbrev EnvD := List (Option D)
abbrev Ex := EnvD → Hs → Res D
abbrev Exs := EnvD → Hs → Res (List D)

/-- what the relation is told of: the written part, where the classes of errors stand, the errors that suites hold -/
structure Ct where
  K : PySem.W.Frag
  ca : Str → Addr
  sx : List (Nat × Addr × Str × Addr)
  w : World
/-- an error's object, tracked: its class, its own dict -/
def ExcT (a C dd : Addr) : HO := .ext fun h => ∃ oe vs, h.get? a = some oe ∧ oe.cls = .ref C ∧ oe.dict = some dd ∧ oe.data = .fields vs
def fV (v : V) : List (Str × V) := [(("value" : Str), v)]
section
variable (T : Ct)
/-- a tuple at a: tracked, or of the written part -/
def Tp (K : PySem.W.Frag) (H : Hp) (a : Addr) (xs : List V) : Prop :=
  H a = some (.tup xs) ∨ ∃ (o : Obj) (its : Array Value) (n : Nat), K.lookup a = some o ∧ o.cls = .type "tuple" ∧ o.data = .seq its n ∧ its.size ≤ sizeLine ∧ Vals xs its.toList
/-- a list at a that nobody writes: locked, or of the written part -/
def Fz (K : PySem.W.Frag) (H : Hp) (a : Addr) (xs : List V) : Prop :=
  (∃ o, H a = some (.frz o (.lst xs))) ∨ ∃ (o : Obj) (its : Array Value) (n : Nat), K.lookup a = some o ∧ o.cls = .type "list" ∧ o.dict = none ∧ o.data = .seq its n ∧ its.size ≤ sizeLine ∧ Vals xs its.toList
theorem Fz.sql {K : PySem.W.Frag} {H : Hp} {a : Addr} {xs : List V} (h : Fz K H a xs) : SqL K H a xs := by
  rcases h with h | h
  · exact .inl (.inr h)
  · exact .inr h
/-- d is what v is -/
inductive RV (φ : List Addr) (H : Hp) : D → V → Prop where
  | non : RV φ H .non .non
  | bl (b : Bool) : RV φ H (.bl b) (.bl b)
  | int (i : Int) : RV φ H (.int i) (.int i)
  | str (s : Str) : RV φ H (.str s) (.str s)
  | tup {ds : List D} {a : Addr} {vs : List V} (h : Tp T.K H a vs) (l : ds.length = vs.length) (r : ∀ (i : Nat) d v, ds[i]? = some d → vs[i]? = some v → RV φ H d v) : RV φ H (.tup ds) (.ref a)
  | ref {n : Nat} {a : Addr} (h : φ[n]? = some a) : RV φ H (.ref n) (.ref a)
  | ty (n : String) : RV φ H (.ty n) (.ty n)
  | cls (c : Str) : RV φ H (.cls c) (.ref (T.ca c))
  | fz {ds : List D} {a : Addr} {vs : List V} (h : Fz T.K H a vs) (l : ds.length = vs.length) (r : ∀ (i : Nat) d v, ds[i]? = some d → vs[i]? = some v → RV φ H d v) : RV φ H (.fz ds) (.ref a)
  | er {c : Str} {d : D} {a dd : Addr} {v : V} (h : H a = some (ExcT a (T.ca c) dd)) (hd : H dd = some (.xd (fV v))) (r : RV φ H d v) : RV φ H (.er c d) (.ref a)
  | key {k : List Key} {a : Addr} (h : H a = some (.tup (k.map kV))) : RV φ H (.key k) (.ref a)
def RVs (φ : List Addr) (H : Hp) (ds : List D) (vs : List V) : Prop := ds.length = vs.length ∧ ∀ (i : Nat) d v, ds[i]? = some d → vs[i]? = some v → RV T φ H d v
def RKs (φ : List Addr) (H : Hp) (ds : List (Key × D)) (vs : List (Key × V)) : Prop := ds.length = vs.length ∧ ∀ (i : Nat) d v, ds[i]? = some d → vs[i]? = some v → d.1 = v.1 ∧ RV T φ H d.2 v.2
def RTs (φ : List Addr) (H : Hp) (ds : List (List Key × D)) (vs : List (List Key × V)) : Prop := ds.length = vs.length ∧ ∀ (i : Nat) d v, ds[i]? = some d → vs[i]? = some v → d.1 = v.1 ∧ RV T φ H d.2 v.2
/-- what stands before 'told': nothing, or one tuple key -/
def OddE (H : Hp) (vs : List (List Key × V)) (es : Array DictEntry) : Prop := (vs = [] ∧ es = #[]) ∨ ∃ (k : List Key) (v : V) (b : Addr) (u : Value) (P : Program), vs = [(k, v)] ∧ RelV v u ∧ H b = some (.tup (k.map kV)) ∧ es = #[⟨(tupleKind (mixKind P T.w)).hash k, .ref b, u⟩]
def oddP (a : Addr) (es : Array DictEntry) (h : Heap) : Prop := ∃ o ep, h.get? a = some o ∧ o.ExactDict ∧ o.data = .dict es ep
def OddO (a : Addr) (es : Array DictEntry) : HO := .ext (oddP a es)
def told : Str := "told"
inductive RC (φ : List Addr) (H : Hp) : Cell → Addr → Prop where
  | lst {ds : List D} {vs : List V} {a : Addr} (h : H a = some (.lst vs)) (r : RVs T φ H ds vs) : RC φ H (.lst ds) a
  | fro {ds : List D} {vs : List V} {a : Addr} {o : Obj} (h : H a = some (.frz o (.lst vs))) (r : RVs T φ H ds vs) : RC φ H (.fro ds) a
  | dic {ds : List (Key × D)} {vs : List (Key × V)} {a : Addr} {o : Obj} (h : H a = some (.frz o (.dK vs))) (r : RKs T φ H ds vs) : RC φ H (.dic ds) a
  | dt {ds : List (List Key × D)} {vs : List (List Key × V)} {a : Addr} (h : H a = some (.dT vs)) (r : RTs T φ H ds vs) : RC φ H (.dt ds) a
  | dtf {ds : List (List Key × D)} {vs : List (List Key × V)} {a : Addr} {o : Obj} (h : H a = some (.frz o (.dT vs))) (r : RTs T φ H ds vs) : RC φ H (.dtf ds) a
  | odd {ds : List (List Key × D)} {vs : List (List Key × V)} {a : Addr} {es : Array DictEntry} {t : Tok} (hs : (a == sysModules) = false) (h : H a = some (OddO a (es.push ⟨hashStr T.w told, .str told t, .none⟩))) (q : OddE T H vs es) (r : RTs T φ H ds vs) : RC φ H (.odd ds) a
structure RS (φ : List Addr) (S : Hs) (H : Hp) : Prop where
  wf : S.Wf
  len : φ.length = S.n
  nd : φ.Nodup
  cell : ∀ n c a, S.get n = some c → φ[n]? = some a → RC T φ H c a
/-- what the name at i holds: a value, or the error that a suite of that name holds -/
inductive RX (φ : List Addr) (H : Hp) (i : Nat) : D → V → Prop where
  | rv {d : D} {v : V} (r : RV T φ H d v) : RX φ H i d v
  | sx {c : Str} {d : D} {a dd : Addr} {v : V} (h : (i, a, c, dd) ∈ T.sx) (hd : H dd = some (.xd (fV v))) (r : RV T φ H d v) : RX φ H i (.exc c d) (.ref a)
def RE (φ : List Addr) (H : Hp) (env : EnvD) (σ : St) : Prop := env.length = σ.length ∧ ∀ (i : Nat) d, env[i]? = some (some d) → ∃ v, σ[i]? = some (some v) ∧ RX T φ H i d v
end
/-- what is locked for good, or for a walk -/
def isFr : HO → Bool
  | .lst _ => true
  | .dK _ => true
  | .dT _ => true
  | _ => false
/-- from one heap to a later one: new cells behind, what is no cell stays -/
structure Up (φ : List Addr) (H : Hp) (φ' : List Addr) (H' : Hp) : Prop where
  pre : ∃ ext, φ' = φ ++ ext ∧ ∀ a ∈ ext, H a = none
  fr : ∀ a o, H a = some o → a ∉ φ → H' a = some o
  dom : ∀ a o, H a = some o → ∃ o', H' a = some o'
  frz : ∀ a o u, isFr u = true → H a = some (.frz o u) → H' a = some (.frz o u)
section
variable {T : Ct} {φ φ' φ'' : List Addr} {H H' H'' : Hp} {S : Hs}
theorem Up.refl (φ : List Addr) (H : Hp) : Up φ H φ H := ⟨⟨[], by simp, by simp⟩, fun _ _ h _ => h, fun _ o h => ⟨o, h⟩, fun _ _ _ _ h => h⟩
theorem Up.trans (u : Up φ H φ' H') (w : Up φ' H' φ'' H'') : Up φ H φ'' H'' := by
  obtain ⟨e1, rfl, n1⟩ := u.pre
  obtain ⟨e2, rfl, n2⟩ := w.pre
  refine ⟨⟨e1 ++ e2, by simp, fun a ha => ?_⟩, fun a o h hn => ?_, fun a o h => ?_, fun a o x f h => w.frz a o x f (u.frz a o x f h)⟩
  · rcases List.mem_append.mp ha with ha | ha
    · exact n1 a ha
    · cases q : H a with
      | none => rfl
      | some o =>
        obtain ⟨o', q'⟩ := u.dom a o q
        rw [n2 a ha] at q'
        cases q'
  · refine w.fr a o (u.fr a o h hn) fun ha => ?_
    rcases List.mem_append.mp ha with ha | ha
    · exact hn ha
    · rw [n1 a ha] at h
      cases h
  · obtain ⟨o', h'⟩ := u.dom a o h
    exact w.dom a o' h'
theorem Up.at_ (u : Up φ H φ' H') {n : Nat} {a : Addr} (h : φ[n]? = some a) : φ'[n]? = some a := by
  obtain ⟨e, rfl, _⟩ := u.pre
  exact (List.getElem?_append_left (List.getElem?_eq_some_iff.mp h).1).trans h
theorem RS.getsome (R : RS T φ S H) {n : Nat} (h : n < S.n) : ∃ c, S.get n = some c := by
  unfold Hs.get
  rw [if_pos h]
  have hw : S.cs.length = S.n := R.wf
  exact ⟨S.cs[S.n - 1 - n], List.getElem?_eq_getElem (by omega)⟩
theorem RS.kind (R : RS T φ S H) {a : Addr} (ha : a ∈ φ) : ∃ c, RC T φ H c a := by
  obtain ⟨i, hi, e⟩ := List.mem_iff_getElem.mp ha
  obtain ⟨c, hc⟩ := R.getsome (n := i) (by rw [← R.len]; exact hi)
  exact ⟨c, R.cell i c a hc (by rw [List.getElem?_eq_getElem hi, e])⟩
theorem RS.some_ (R : RS T φ S H) {a : Addr} (ha : a ∈ φ) : ∃ o, H a = some o := by
  obtain ⟨c, h⟩ := R.kind ha
  cases h with
  | lst h _ => exact ⟨_, h⟩
  | fro h _ => exact ⟨_, h⟩
  | dic h _ => exact ⟨_, h⟩
  | dt h _ => exact ⟨_, h⟩
  | dtf h _ => exact ⟨_, h⟩
  | odd _ h _ _ => exact ⟨_, h⟩
theorem RS.notin_none (R : RS T φ S H) {a : Addr} (h : H a = none) : a ∉ φ := fun ha => by
  obtain ⟨o, e⟩ := R.some_ ha
  rw [h] at e
  cases e
/-- what cells are -/
noncomputable def isCell : HO → Bool
  | .lst _ => true
  | .dT _ => true
  | .frz _ _ => true
  | .ext p => @decide (∃ a es, p = oddP a es) (Classical.propDecidable _)
  | _ => false
theorem isCell_odd {a : Addr} {es : Array DictEntry} : isCell (OddO a es) = true := @decide_eq_true _ (Classical.propDecidable _) ⟨a, es, rfl⟩
/-- an error's object is no cell -/
theorem isCell_exc {a C dd : Addr} : isCell (ExcT a C dd) = false := by
  refine @decide_eq_false _ (Classical.propDecidable _) fun ⟨b, es, e⟩ => ?_
  let ob : Obj := { cls := .ref C, dict := some dd, data := .fields #[] }
  let hh : Heap := { objs := Array.replicate (a + 1) ob }
  have one : ∀ c o, hh.get? c = some o → o = ob := fun c o q => by
    unfold Heap.get? at q
    simp only [hh, Array.getElem?_replicate] at q
    split at q
    · cases q
    · split at q
      · exact (Option.some.inj q).symm
      · cases q
  have there : hh.get? a = some ob := by
    unfold Heap.get?
    simp only [hh, Array.getElem?_replicate]
    rw [if_pos (Nat.lt_succ_self a)]
  have x := (congrFun e hh).mp ⟨ob, #[], there, rfl, rfl, rfl⟩
  obtain ⟨o, ep, h1, _, h2⟩ := x
  rw [one _ _ h1] at h2
  cases h2
theorem RS.notin (R : RS T φ S H) {a : Addr} {o : HO} (h : H a = some o) (ho : isCell o = false) : a ∉ φ := fun ha => by
  obtain ⟨c, r⟩ := R.kind ha
  cases r with
  | lst q _ => rw [h] at q; cases q; cases ho
  | fro q _ => rw [h] at q; cases q; cases ho
  | dic q _ => rw [h] at q; cases q; cases ho
  | dt q _ => rw [h] at q; cases q; cases ho
  | dtf q _ => rw [h] at q; cases q; cases ho
  | odd _ q _ _ => rw [h] at q; cases q; rw [isCell_odd] at ho; cases ho
theorem RS.stay (R : RS T φ S H) (u : Up φ H φ' H') {a : Addr} {o : HO} (h : H a = some o) (ho : isCell o = false) : H' a = some o := u.fr a o h (R.notin h ho)
theorem Tp.sq {K : PySem.W.Frag} {a : Addr} {vs : List V} (h : Tp K H a vs) : SqT K H a vs := by
  rcases h with h | h
  · exact .inl (.inl h)
  · exact .inr h
theorem RS.tp (R : RS T φ S H) (u : Up φ H φ' H') {a : Addr} {vs : List V} (h : Tp T.K H a vs) : Tp T.K H' a vs := by
  rcases h with h | h
  · exact .inl (R.stay u h rfl)
  · exact .inr h
theorem RV.up (R : RS T φ S H) (u : Up φ H φ' H') {d : D} {v : V} (h : RV T φ H d v) : RV T φ' H' d v := by
  induction h with
  | non => exact .non
  | bl b => exact .bl b
  | int i => exact .int i
  | str s => exact .str s
  | tup h l r ih => exact .tup (R.tp u h) l ih
  | ref h => exact .ref (u.at_ h)
  | ty n => exact .ty n
  | cls c => exact .cls c
  | fz h l r ih =>
    refine .fz ?_ l ih
    rcases h with ⟨o, h⟩ | h
    · exact .inl ⟨o, u.frz _ _ _ rfl h⟩
    · exact .inr h
  | er h hd r ih => exact .er (R.stay u h isCell_exc) (R.stay u hd rfl) ih
  | key h => exact .key (R.stay u h rfl)
theorem RVs.up (R : RS T φ S H) (u : Up φ H φ' H') {ds : List D} {vs : List V} (h : RVs T φ H ds vs) : RVs T φ' H' ds vs := ⟨h.1, fun i d v a b => (h.2 i d v a b).up R u⟩
theorem RKs.up (R : RS T φ S H) (u : Up φ H φ' H') {ds : List (Key × D)} {vs : List (Key × V)} (h : RKs T φ H ds vs) : RKs T φ' H' ds vs := ⟨h.1, fun i d v a b => ⟨(h.2 i d v a b).1, (h.2 i d v a b).2.up R u⟩⟩
theorem RX.up (R : RS T φ S H) (u : Up φ H φ' H') {i : Nat} {d : D} {v : V} (h : RX T φ H i d v) : RX T φ' H' i d v := by
  cases h with
  | rv r => exact .rv (r.up R u)
  | sx h hd r => exact .sx h (R.stay u hd rfl) (r.up R u)
theorem RE.up (R : RS T φ S H) (u : Up φ H φ' H') {env : EnvD} {σ : St} (h : RE T φ H env σ) : RE T φ' H' env σ := ⟨h.1, fun i d a => by
  obtain ⟨v, b, r⟩ := h.2 i d a
  exact ⟨v, b, r.up R u⟩⟩
theorem RTs.up (R : RS T φ S H) (u : Up φ H φ' H') {ds : List (List Key × D)} {vs : List (List Key × V)} (h : RTs T φ H ds vs) : RTs T φ' H' ds vs := ⟨h.1, fun i d v a b => ⟨(h.2 i d v a b).1, (h.2 i d v a b).2.up R u⟩⟩
theorem OddE.up (R : RS T φ S H) (u : Up φ H φ' H') {vs : List (List Key × V)} {es : Array DictEntry} (h : OddE T H vs es) : OddE T H' vs es := by
  rcases h with h | ⟨k, v, b, x, P, h1, h2, h3, h4⟩
  · exact .inl h
  · exact .inr ⟨k, v, b, x, P, h1, h2, R.stay u h3 rfl, h4⟩
theorem RVs.nil : RVs T φ H [] [] := ⟨rfl, fun i d v a _ => by simp at a⟩
theorem RVs.cons {d : D} {v : V} {ds : List D} {vs : List V} (r : RV T φ H d v) (rs : RVs T φ H ds vs) : RVs T φ H (d :: ds) (v :: vs) := by
  refine ⟨by simp [rs.1], fun i e u a b => ?_⟩
  cases i with
  | zero =>
    simp at a b
    subst a b
    exact r
  | succ i => exact rs.2 i e u (by simpa using a) (by simpa using b)
theorem RVs.inv_nil {vs : List V} (r : RVs T φ H [] vs) : vs = [] := List.length_eq_zero_iff.mp r.1.symm
theorem RVs.inv_cons {d : D} {ds : List D} {vs : List V} (r : RVs T φ H (d :: ds) vs) : ∃ v us, vs = v :: us ∧ RV T φ H d v ∧ RVs T φ H ds us := by
  cases vs with
  | nil => have := r.1; simp at this
  | cons v us =>
    refine ⟨v, us, rfl, r.2 0 d v rfl rfl, by have := r.1; simpa using this, fun i e u a b => r.2 (i + 1) e u (by simpa using a) (by simpa using b)⟩
theorem RVs.append {ds ds' : List D} {vs vs' : List V} (r : RVs T φ H ds vs) (r' : RVs T φ H ds' vs') : RVs T φ H (ds ++ ds') (vs ++ vs') := by
  induction ds generalizing vs with
  | nil =>
    have e := r.inv_nil
    subst e
    exact r'
  | cons d ds ih =>
    obtain ⟨v, us, rfl, r1, r2⟩ := r.inv_cons
    exact .cons r1 (ih r2)
theorem RVs.get {ds : List D} {vs : List V} (r : RVs T φ H ds vs) {i : Nat} {d : D} (h : ds[i]? = some d) : ∃ v, vs[i]? = some v ∧ RV T φ H d v := by
  have hl : i < vs.length := by rw [← r.1]; exact (List.getElem?_eq_some_iff.mp h).1
  exact ⟨vs[i], List.getElem?_eq_getElem hl, r.2 i d _ h (List.getElem?_eq_getElem hl)⟩
theorem RVs.set {ds : List D} {vs : List V} (r : RVs T φ H ds vs) {d : D} {v : V} (h : RV T φ H d v) (i : Nat) : RVs T φ H (ds.set i d) (vs.set i v) := by
  refine ⟨by simp [r.1], fun j e u a b => ?_⟩
  by_cases hj : i = j
  · subst hj
    by_cases hi : i < ds.length
    · rw [List.getElem?_set_self hi] at a
      rw [List.getElem?_set_self (by rw [← r.1]; exact hi)] at b
      cases a
      cases b
      exact h
    · rw [List.getElem?_eq_none (by simpa using hi)] at a
      cases a
  · rw [List.getElem?_set_ne hj] at a b
    exact r.2 j e u a b
theorem RVs.take {ds : List D} {vs : List V} (r : RVs T φ H ds vs) (k : Nat) : RVs T φ H (ds.take k) (vs.take k) := by
  refine ⟨by simp [r.1], fun i d v a b => ?_⟩
  rw [List.getElem?_take] at a b
  split at a
  · rw [if_pos (by assumption)] at b
    exact r.2 i d v a b
  · cases a
theorem RVs.drop {ds : List D} {vs : List V} (r : RVs T φ H ds vs) (k : Nat) : RVs T φ H (ds.drop k) (vs.drop k) := by
  refine ⟨by simp [r.1], fun i d v a b => ?_⟩
  rw [List.getElem?_drop] at a b
  exact r.2 _ d v a b
/-- a new cell: its address p has nothing yet -/
theorem RS.new (R : RS T φ S H) {p : Addr} {o : HO} {c : Cell} (hp : H p = none) (hc : ∀ φ' H', Up φ H φ' H' → H' p = some o → RC T φ' H' c p) : RS T (φ ++ [p]) (S.new c) (upd H p o) ∧ Up φ H (φ ++ [p]) (upd H p o) := by
  have np := R.notin_none hp
  have U : Up φ H (φ ++ [p]) (upd H p o) := ⟨⟨[p], rfl, fun a ha => by simp at ha; subst ha; exact hp⟩, fun a o' h hn => by rw [upd_ne (fun e => by rw [e, hp] at h; cases h)]; exact h, fun a o' h => ⟨o', by rw [upd_ne (fun e => by rw [e, hp] at h; cases h)]; exact h⟩, fun a o' x _ h => by rw [upd_ne (fun e => by rw [e, hp] at h; cases h)]; exact h⟩
  refine ⟨⟨R.wf.new c, by simp [R.len, Hs.new], ?_, fun n c' a h1 h2 => ?_⟩, U⟩
  · exact List.nodup_append.mpr ⟨R.nd, by simp, fun a ha b hb => by simp at hb; subst hb; exact fun e => np (e ▸ ha)⟩
  · rcases Hs.get_new_inv h1 with ⟨rfl, rfl⟩ | h1
    · have e : a = p := by
        rw [List.getElem?_append_right (by rw [R.len]; exact Nat.le_refl _), R.len] at h2
        simp at h2
        exact h2.symm
      subst e
      exact hc _ _ U upd_same
    · have hl : n < φ.length := by rw [R.len]; exact Hs.get_lt h1
      rw [List.getElem?_append_left hl] at h2
      have na : a ≠ p := fun e => np (e ▸ List.mem_of_getElem? h2)
      cases R.cell n c' a h1 h2 with
      | lst h r => exact .lst (by rw [upd_ne na]; exact h) (r.up R U)
      | fro h r => exact .fro (by rw [upd_ne na]; exact h) (r.up R U)
      | dic h r => exact .dic (by rw [upd_ne na]; exact h) (r.up R U)
      | dt h r => exact .dt (by rw [upd_ne na]; exact h) (r.up R U)
      | dtf h r => exact .dtf (by rw [upd_ne na]; exact h) (r.up R U)
      | odd hs h q r => exact .odd hs (by rw [upd_ne na]; exact h) (q.up R U) (r.up R U)
/-- something that is no cell is laid -/
theorem RS.laid (R : RS T φ S H) {p : Addr} {o : HO} (hp : H p = none) : RS T φ S (upd H p o) ∧ Up φ H φ (upd H p o) := by
  have np := R.notin_none hp
  have U : Up φ H φ (upd H p o) := ⟨⟨[], by simp, by simp⟩, fun a o' h hn => by rw [upd_ne (fun e => by rw [e, hp] at h; cases h)]; exact h, fun a o' h => ⟨o', by rw [upd_ne (fun e => by rw [e, hp] at h; cases h)]; exact h⟩, fun a o' x _ h => by rw [upd_ne (fun e => by rw [e, hp] at h; cases h)]; exact h⟩
  refine ⟨⟨R.wf, R.len, R.nd, fun n c' a h1 h2 => ?_⟩, U⟩
  have na : a ≠ p := fun e => np (e ▸ List.mem_of_getElem? h2)
  cases R.cell n c' a h1 h2 with
  | lst h r => exact .lst (by rw [upd_ne na]; exact h) (r.up R U)
  | fro h r => exact .fro (by rw [upd_ne na]; exact h) (r.up R U)
  | dic h r => exact .dic (by rw [upd_ne na]; exact h) (r.up R U)
  | dt h r => exact .dt (by rw [upd_ne na]; exact h) (r.up R U)
  | dtf h r => exact .dtf (by rw [upd_ne na]; exact h) (r.up R U)
  | odd hs h q r => exact .odd hs (by rw [upd_ne na]; exact h) (q.up R U) (r.up R U)
theorem lst_nf {a : Addr} {vs : List V} (h : H a = some (.lst vs)) : ∀ o' u', isFr u' = true → H a ≠ some (.frz o' u') := fun o' u' _ e => by rw [h] at e; cases e
/-- a cell is written -/
theorem RS.put (R : RS T φ S H) {n : Nat} {p : Addr} {o : HO} {c0 c : Cell} (h0 : S.get n = some c0) (hp : φ[n]? = some p) (hmf : ∀ o' u', isFr u' = true → H p ≠ some (.frz o' u')) (hc : ∀ φ' H', Up φ H φ' H' → H' p = some o → RC T φ' H' c p) : RS T φ (S.put n c) (upd H p o) ∧ Up φ H φ (upd H p o) := by
  have U : Up φ H φ (upd H p o) := ⟨⟨[], by simp, by simp⟩, fun a o' h hn => by rw [upd_ne (fun e => hn (by rw [e]; exact List.mem_of_getElem? hp))]; exact h, fun a o' h => by
    by_cases e : a = p
    · exact ⟨o, by rw [e]; exact upd_same⟩
    · exact ⟨o', by rw [upd_ne e]; exact h⟩, fun a o' x f h => by rw [upd_ne (fun e => hmf o' x f (by rw [← e]; exact h))]; exact h⟩
  refine ⟨⟨R.wf.put n c, R.len, R.nd, fun m c' a h1 h2 => ?_⟩, U⟩
  by_cases hm : m = n
  · subst hm
    rw [Hs.get_put h0] at h1
    cases h1
    rw [hp] at h2
    cases h2
    exact hc _ _ U upd_same
  · rw [Hs.get_put_ne (Hs.get_lt h0) hm] at h1
    have na : a ≠ p := fun e => by
      subst e
      obtain ⟨l1, e1⟩ := List.getElem?_eq_some_iff.mp h2
      obtain ⟨l2, e2⟩ := List.getElem?_eq_some_iff.mp hp
      exact hm ((List.getElem_inj R.nd).mp (e1.trans e2.symm))
    cases R.cell m c' a h1 h2 with
    | lst h r => exact .lst (by rw [upd_ne na]; exact h) (r.up R U)
    | fro h r => exact .fro (by rw [upd_ne na]; exact h) (r.up R U)
    | dic h r => exact .dic (by rw [upd_ne na]; exact h) (r.up R U)
    | dt h r => exact .dt (by rw [upd_ne na]; exact h) (r.up R U)
    | dtf h r => exact .dtf (by rw [upd_ne na]; exact h) (r.up R U)
    | odd hs h q r => exact .odd hs (by rw [upd_ne na]; exact h) (q.up R U) (r.up R U)
/-- the address of a cell -/
theorem RS.addr (R : RS T φ S H) {n : Nat} {c : Cell} (h : S.get n = some c) : ∃ a, φ[n]? = some a ∧ RC T φ H c a := by
  have hl : n < φ.length := by rw [R.len]; exact Hs.get_lt h
  exact ⟨φ[n], List.getElem?_eq_getElem hl, R.cell n c _ h (List.getElem?_eq_getElem hl)⟩
theorem RS.start : RS T [] ⟨0, []⟩ H := ⟨rfl, rfl, by simp, fun n c a h _ => by simp [Hs.get] at h⟩
end
end MR

/-! M1: what the mirror's results ask; expressions, arguments, tests. -/
namespace MR
open PySem PySem.Spec L2

def Post {α : Type} (ok : α → Hs → Prop) (er : Str → D → Hs → Prop) : Res α → Prop
  | .ok a S => ok a S
  | .err c d S => er c d S
  | .bad => False
theorem Post.mono {α : Type} {ok ok' : α → Hs → Prop} {er er' : Str → D → Hs → Prop} {m : Res α} (h : Post ok er m) (h1 : ∀ a S, ok a S → ok' a S) (h2 : ∀ c d S, er c d S → er' c d S) : Post ok' er' m := by
  cases m with
  | ok a S => exact h1 a S h
  | err c d S => exact h2 c d S h
  | bad => exact h
theorem Post.bind {α β : Type} {ok : β → Hs → Prop} {er : Str → D → Hs → Prop} {m : Res α} {k : α → Hs → Res β} (h : Post ok er (m.bind k)) : Post (fun a S => Post ok er (k a S)) er m := by
  cases m with
  | ok a S => exact h
  | err c d S => exact h
  | bad => exact h
section
variable (T : Ct)
def okE (φ : List Addr) (H : Hp) (Q : VK) : D → Hs → Prop := fun d S' => ∀ φ' H' v, Up φ H φ' H' → RS T φ' S' H' → RV T φ' H' d v → Q v H'
def okA (φ : List Addr) (H : Hp) (Q : List V → Hp → Prop) : List D → Hs → Prop := fun ds S' => ∀ φ' H' vs, Up φ H φ' H' → RS T φ' S' H' → RVs T φ' H' ds vs → Q vs H'
def okT (φ : List Addr) (H : Hp) (Q : Bool → Hp → Prop) : D → Hs → Prop := fun d S' => ∃ b, d = .bl b ∧ ∀ φ' H', Up φ H φ' H' → RS T φ' S' H' → Q b H'
/-- an error leaves: its class, its own dict with the field -/
def erE (W : WX) (φ : List Addr) (H : Hp) (σ : L2.St) : Str → D → Hs → Prop := fun c d S' => ∀ φ' H' dd v, Up φ H φ' H' → RS T φ' S' H' → RV T φ' H' d v → H' dd = some (.xd (fV v)) → W (.ref (T.ca c)) (some dd) σ H'
def tE (W : WX) (m : Ex) : TE := fun σ H Q => ∃ φ env S, RS T φ S H ∧ RE T φ H env σ ∧ Post (okE T φ H Q) (erE T W φ H σ) (m env S)
def tA (W : WX) (m : Exs) : TA := fun σ H Q => ∃ φ env S, RS T φ S H ∧ RE T φ H env σ ∧ Post (okA T φ H Q) (erE T W φ H σ) (m env S)
def tT (W : WX) (m : Ex) : TT := fun σ H Q => ∃ φ env S, RS T φ S H ∧ RE T φ H env σ ∧ Post (okT T φ H Q) (erE T W φ H σ) (m env S)
end
section
variable {T : Ct} {W : WX} {φ φ1 : List Addr} {H H1 : Hp} {S S1 : Hs} {σ : L2.St} {env : EnvD}
theorem okE.up (u : Up φ H φ1 H1) {Q : VK} {d : D} (h : okE T φ H Q d S) : okE T φ1 H1 Q d S := fun φ' H' v u' R r => h φ' H' v (u.trans u') R r
theorem okA.up (u : Up φ H φ1 H1) {Q : List V → Hp → Prop} {d : List D} (h : okA T φ H Q d S) : okA T φ1 H1 Q d S := fun φ' H' v u' R r => h φ' H' v (u.trans u') R r
theorem okT.up (u : Up φ H φ1 H1) {Q : Bool → Hp → Prop} {d : D} (h : okT T φ H Q d S) : okT T φ1 H1 Q d S := by
  obtain ⟨b, e, h⟩ := h
  exact ⟨b, e, fun φ' H' u' R => h φ' H' (u.trans u') R⟩
theorem erE.up (u : Up φ H φ1 H1) {c : Str} {d : D} (h : erE T W φ H σ c d S) : erE T W φ1 H1 σ c d S := fun φ' H' dd v u' R r x => h φ' H' dd v (u.trans u') R r x
/-- one expression, then the rest -/
theorem tE_bind {α : Type} {ma : Ex} {k : D → Hs → Res α} {ok : α → Hs → Prop} {Q : VK} (R : RS T φ S H) (E : RE T φ H env σ) (P : Post ok (erE T W φ H σ) ((ma env S).bind k))
    (h : ∀ d S1 φ1 H1 v, Up φ H φ1 H1 → RS T φ1 S1 H1 → RV T φ1 H1 d v → RE T φ1 H1 env σ → Post ok (erE T W φ1 H1 σ) (k d S1) → Q v H1) : tE T W ma σ H Q :=
  ⟨φ, env, S, R, E, P.bind.mono (fun d S1 p φ1 H1 v u R1 r => h d S1 φ1 H1 v u R1 r (E.up R u) (p.mono (fun _ _ x => x) fun _ _ _ x => x.up u)) fun _ _ _ x => x⟩
theorem tA_bind {α : Type} {ma : Exs} {k : List D → Hs → Res α} {ok : α → Hs → Prop} {Q : List V → Hp → Prop} (R : RS T φ S H) (E : RE T φ H env σ) (P : Post ok (erE T W φ H σ) ((ma env S).bind k))
    (h : ∀ ds S1 φ1 H1 vs, Up φ H φ1 H1 → RS T φ1 S1 H1 → RVs T φ1 H1 ds vs → RE T φ1 H1 env σ → Post ok (erE T W φ1 H1 σ) (k ds S1) → Q vs H1) : tA T W ma σ H Q :=
  ⟨φ, env, S, R, E, P.bind.mono (fun d S1 p φ1 H1 v u R1 r => h d S1 φ1 H1 v u R1 r (E.up R u) (p.mono (fun _ _ x => x) fun _ _ _ x => x.up u)) fun _ _ _ x => x⟩
/-- the truth of a value that is a bool -/
def asB {α : Type} (d : D) (k : Bool → Res α) : Res α := match d with
  | .bl b => k b
  | _ => .bad
theorem tT_bind {α : Type} {ma : Ex} {k : Bool → Hs → Res α} {ok : α → Hs → Prop} {Q : Bool → Hp → Prop} (R : RS T φ S H) (E : RE T φ H env σ) (P : Post ok (erE T W φ H σ) ((ma env S).bind fun d S1 => asB d fun b => k b S1))
    (h : ∀ b S1 φ1 H1, Up φ H φ1 H1 → RS T φ1 S1 H1 → RE T φ1 H1 env σ → Post ok (erE T W φ1 H1 σ) (k b S1) → Q b H1) : tT T W ma σ H Q := by
  refine ⟨φ, env, S, R, E, P.bind.mono (fun d S1 p => ?_) fun _ _ _ x => x⟩
  cases d with
  | bl b => exact ⟨b, rfl, fun φ1 H1 u R1 => h b S1 φ1 H1 u R1 (E.up R u) (p.mono (fun _ _ x => x) fun _ _ _ x => x.up u)⟩
  | _ => exact False.elim p
theorem Post.upE {Q : VK} {m : Res D} (u : Up φ H φ1 H1) {er : Str → D → Hs → Prop} (P : Post (okE T φ H Q) er m) : Post (okE T φ1 H1 Q) er m := P.mono (fun _ _ x => x.up u) fun _ _ _ x => x
end
theorem weakE {X : Cx} {e : Expr} {t t' : TE} (h : PE X e t) (w : ∀ σ H Q, t' σ H Q → t σ H Q) : PE X e t' := ⟨fun pins s σ H Q I q => h.run pins s σ H Q I (w σ H Q q)⟩
theorem weakT {X : Cx} {e : Expr} {t t' : TT} (h : PT X e t) (w : ∀ σ H Q, t' σ H Q → t σ H Q) : PT X e t' := ⟨fun pins s σ H Q I q => h.run pins s σ H Q I (w σ H Q q)⟩
theorem weakPW {X : Cx} {e : Expr} {t t' : TT} (h : PW X e t) (w : ∀ σ H Q, t' σ H Q → t σ H Q) : PW X e t' := ⟨fun wh pins s σ H Q I q => h.run wh pins s σ H Q I (w σ H Q q)⟩
theorem weakA {X : Cx} {e : List Expr} {t t' : TA} (h : PA X e t) (w : ∀ σ H Q, t' σ H Q → t σ H Q) : PA X e t' := ⟨fun pos pins s σ H Q I q => h.run pos pins s σ H Q I (w σ H Q q)⟩

/-! ### leaves -/
def mC (d : D) : Ex := fun _ S => .ok d S
/-- an error that a suite holds is no value -/
def noX (d : D) : Bool := match d with
  | .exc _ _ => false
  | _ => true
def mV (i : Nat) : Ex := fun env S => match env[i]? with
  | some (some d) => if noX d then .ok d S else .bad
  | _ => .bad
theorem RX.out {T : Ct} {φ : List Addr} {H : Hp} {i : Nat} {d : D} {v : V} (r : RX T φ H i d v) (h : noX d = true) : RV T φ H d v := by
  cases r with
  | rv r => exact r
  | sx _ _ _ => cases h
section
variable {X : Cx} {T : Ct} {W : WX} {pos : Pos}
theorem r_var (i : Nat) {x : Str} (hN : X.N[i]? = some x := by rfl) (hv : Vis X.env.scope x := by first | exact Or.inl rfl | exact Or.inr (Or.inl rfl) | exact Or.inr (Or.inr rfl)) (hd : (x == ("__debug__" : Str)) = false := by decide) (hcd : (x == ("__classdict__" : Str)) = false := by decide) :
    PE X (.Name x pos) (tE T W (mV i)) := weakE (pe_var hN hv hd hcd) fun σ H Q ⟨φ, env, S, R, E, P⟩ => by
  unfold mV at P
  split at P
  · rename_i d hd
    obtain ⟨v, hv, r⟩ := E.2 i d hd
    split at P
    · rename_i hx
      exact ⟨v, hv, P φ H v (Up.refl _ _) R (r.out hx)⟩
    · exact P.elim
  · exact P.elim
theorem tC_of {d : D} {v : V} (hr : ∀ φ H, RV T φ H d v) {σ : L2.St} {H : Hp} {Q : VK} (h : tE T W (mC d) σ H Q) : tC v σ H Q := by
  obtain ⟨φ, env, S, R, E, P⟩ := h
  exact P φ H v (Up.refl _ _) R (hr φ H)
theorem r_int {i : Int} {j} : PE X (.Constant (.int i) j pos) (tE T W (mC (.int i))) := weakE pe_int fun _ _ _ h => tC_of (fun _ _ => .int i) h
theorem r_bl {b : Bool} {j} : PE X (.Constant (.bool b) j pos) (tE T W (mC (.bl b))) := weakE pe_bl fun _ _ _ h => tC_of (fun _ _ => .bl b) h
theorem r_non {j} : PE X (.Constant .none j pos) (tE T W (mC .non)) := weakE pe_non fun _ _ _ h => tC_of (fun _ _ => .non) h
theorem r_str {x : Str} {j} : PE X (.Constant (.str x) j pos) (tE T W (mC (.str x))) := weakE pe_str fun _ _ _ h => tC_of (fun _ _ => .str x) h
/-- a constant of the module: an int, a text -/
theorem r_gInt {x : Str} {i : Int} {t : Tok} (hg : Gl X x) (hm : X.mg x = some (.int i t)) (hd : (x == ("__debug__" : Str)) = false := by decide) : PE X (.Name x pos) (tE T W (mC (.int i))) :=
  weakE (pe_glob (v := .int i) hg hm ⟨t, rfl⟩ hd) fun _ _ _ h => tC_of (fun _ _ => .int i) h
theorem r_gStr {x y : Str} {t : Tok} (hg : Gl X x) (hm : X.mg x = some (.str y t)) (hd : (x == ("__debug__" : Str)) = false := by decide) : PE X (.Name x pos) (tE T W (mC (.str y))) :=
  weakE (pe_glob (v := .str y) hg hm ⟨t, rfl⟩ hd) fun _ _ _ h => tC_of (fun _ _ => .str y) h
/-! ### arguments -/
def mNil : Exs := fun _ S => .ok [] S
def mCons (m : Ex) (ms : Exs) : Exs := fun env S => (m env S).bind fun d S1 => (ms env S1).bind fun ds S2 => .ok (d :: ds) S2
theorem a_nil : PA X [] (tA T W mNil) := weakA pa_nil fun σ H Q ⟨φ, env, S, R, E, P⟩ => P φ H [] (Up.refl _ _) R .nil
theorem a_cons {e : Expr} {es : List Expr} {m : Ex} {ms : Exs} (ha : PE X e (tE T W m)) (hr : PA X es (tA T W ms)) (hs : starEach (e :: es) X.env = (false, eval e X.env) :: starEach es X.env := by rfl) : PA X (e :: es) (tA T W (mCons m ms)) :=
  weakA (pa_cons ha hr hs) fun σ H Q ⟨φ, env, S, R, E, P⟩ => tE_bind R E P fun d S1 φ1 H1 v u1 R1 r1 E1 P1 => tA_bind R1 E1 P1 fun ds S2 φ2 H2 vs u2 R2 r2 E2 P2 => P2 φ2 H2 (v :: vs) (u1.trans u2) R2 (.cons (r1.up R1 u2) r2)
/-! ### operations of two values -/
def mOp2 (g : D → D → Hs → Res D) (ma mb : Ex) : Ex := fun env S => (ma env S).bind fun x S1 => (mb env S1).bind fun y S2 => g x y S2
def OpM (T : Ct) (r : R2) (g : D → D → Hs → Res D) : Prop := ∀ {φ : List Addr} {S : Hs} {H : Hp} {x y : D} {v u : V} {Q : VK} {er : Str → D → Hs → Prop}, RS T φ S H → RV T φ H x v → RV T φ H y u → (∀ c d S', ¬ er c d S') → Post (okE T φ H Q) er (g x y S) → r v u H Q
/-- no error comes -/
def NoEr (g : D → D → Hs → Res D) : Prop := ∀ x y S c d S', g x y S ≠ .err c d S'
theorem Post.noEr {α : Type} {ok : α → Hs → Prop} {er : Str → D → Hs → Prop} {m : Res α} (h : Post ok er m) (n : ∀ c d S', m ≠ .err c d S') : Post ok (fun _ _ _ => False) m := by
  cases m with
  | ok a S => exact h
  | err c d S => exact (n c d S rfl).elim
  | bad => exact h
theorem op2_weak {r : R2} {g : D → D → Hs → Res D} (hg : OpM T r g) (hn : NoEr g) {ma mb : Ex} {σ : L2.St} {H : Hp} {Q : VK} (h : tE T W (mOp2 g ma mb) σ H Q) : tOp r (tE T W ma) (tE T W mb) σ H Q := by
  obtain ⟨φ, env, S, R, E, P⟩ := h
  exact tE_bind R E P fun x S1 φ1 H1 v u1 R1 r1 E1 P1 => tE_bind R1 E1 P1 fun y S2 φ2 H2 w u2 R2 r2 E2 P2 =>
    hg R2 (r1.up R1 u2) r2 (fun _ _ _ z => z) ((P2.upE (u1.trans u2)).noEr (hn x y S2))
variable {a b c : Expr} {ma mb mc : Ex}
theorem r_bin {op : Operator} {r : R2} {g : D → D → Hs → Res D} (ho : OpR X (binaryOp op) r) (hg : OpM T r g) (hn : NoEr g) (ha : PE X a (tE T W ma)) (hb : PE X b (tE T W mb)) : PE X (.BinOp a op b pos) (tE T W (mOp2 g ma mb)) :=
  weakE (pe_op ho ha hb) fun _ _ _ h => op2_weak hg hn h
theorem r_cmp {op : CmpOp} {r : R2} {g : D → D → Hs → Res D} (ho : OpR X (compareOp op) r) (hg : OpM T r g) (hn : NoEr g) (ha : PE X a (tE T W ma)) (hb : PE X b (tE T W mb)) (hm : behindInMarks op b = false) : PE X (.Compare a [op] [b] pos) (tE T W (mOp2 g ma mb)) :=
  weakE (pe_cmpR ho ha hb hm) fun _ _ _ h => op2_weak hg hn h
/-- a reading of a value as a test -/
theorem tT_of {m : Ex} {σ : L2.St} {H : Hp} {Q : Bool → Hp → Prop} (h : tT T W m σ H Q) : tE T W m σ H fun x H' => ∃ k, x = .bl k ∧ Q k H' := by
  obtain ⟨φ, env, S, R, E, P⟩ := h
  refine ⟨φ, env, S, R, E, P.mono (fun d S1 ⟨b, e, q⟩ φ1 H1 v u R1 r => ?_) fun _ _ _ x => x⟩
  subst e
  cases r
  exact ⟨b, rfl, q φ1 H1 u R1⟩
theorem t_cmp {op : CmpOp} {r : R2} {g : D → D → Hs → Res D} (ho : OpR X (compareOp op) r) (hg : OpM T r g) (hn : NoEr g) (ha : PE X a (tE T W ma)) (hb : PE X b (tE T W mb)) (hm : behindInMarks op b = false) : PT X (.Compare a [op] [b] pos) (tT T W (mOp2 g ma mb)) :=
  weakT (pt_cmpR ho ha hb hm) fun _ _ _ h => op2_weak hg hn (tT_of h)
/-- an expression whose value is a bool -/
theorem t_val {e : Expr} {m : Ex} (h : PE X e (tE T W m)) (he : ∀ whole, isTrue e X.env whole = (do let v ← whole; standAt e.pos; holding [v] (truthy v)) := by intro _; rfl) : PT X e (tT T W m) :=
  weakT (pt_val h he) fun _ _ _ h => tT_of h
/-! ### a op b op' c -/
def mChain (g g' : D → D → Hs → Res D) (ma mb mc : Ex) : Ex := fun env S => (ma env S).bind fun x S1 => (mb env S1).bind fun y S2 => (g x y S2).bind fun z S3 => asB z fun k => if k then (mc env S3).bind fun w S4 => g' y w S4 else .ok (.bl false) S3
theorem chain_weak {r r' : R2} {g g' : D → D → Hs → Res D} (hg : OpM T r g) (hn : NoEr g) (hg' : OpM T r' g') (hn' : NoEr g') {σ : L2.St} {H : Hp} {Q : VK} (h : tE T W (mChain g g' ma mb mc) σ H Q) : tChain r r' (tE T W ma) (tE T W mb) (tE T W mc) σ H Q := by
  obtain ⟨φ, env, S, R, E, P⟩ := h
  refine tE_bind R E P fun x S1 φ1 H1 v u1 R1 r1 E1 P1 => tE_bind R1 E1 P1 fun y S2 φ2 H2 w u2 R2 r2 E2 P2 => ?_
  have P3 := P2.bind.noEr (hn x y S2)
  refine hg R2 (r1.up R1 u2) r2 (fun _ _ _ z => z) (P3.mono (fun z S3 p φ3 H3 zv u3 R3 r3 => ?_) fun _ _ _ z => z)
  cases r3 with
  | bl k =>
    refine ⟨k, rfl, ?_⟩
    have p' := p
    unfold asB at p'
    cases k with
    | true =>
      rw [if_pos rfl]
      have p2 : Post (okE T φ H Q) (erE T W φ3 H3 σ) ((mc env S3).bind fun w S4 => g' y w S4) := Post.mono p' (fun _ _ x => x) fun _ _ _ x => x.up u3
      exact tE_bind R3 (E2.up R2 u3) p2 fun w' S4 φ4 H4 w4 u4 R4 r4 E4 P4 => hg' R4 ((r2.up R2 u3).up R3 u4) r4 (fun _ _ _ z => z) ((P4.upE (((u1.trans u2).trans u3).trans u4)).noEr (hn' y w' S4))
    | false =>
      rw [if_neg Bool.false_ne_true]
      exact p' φ3 H3 _ ((u1.trans u2).trans u3) R3 (.bl false)
  | _ => exact False.elim p
theorem r_chain {op op' : CmpOp} {r r' : R2} {g g' : D → D → Hs → Res D} (ho : OpR X (compareOp op) r) (hg : OpM T r g) (hn : NoEr g) (ho' : OpR X (compareOp op') r') (hg' : OpM T r' g') (hn' : NoEr g') (ha : PE X a (tE T W ma)) (hb : PE X b (tE T W mb)) (hc : PE X c (tE T W mc))
    (hm : lastMarks [op, op'] [b, c] = false := by rfl) : PE X (.Compare a [op, op'] [b, c] pos) (tE T W (mChain g g' ma mb mc)) :=
  weakE (pe_chain ho ho' ha hb hc hm) fun _ _ _ h => chain_weak hg hn hg' hn' h
theorem t_chain {op op' : CmpOp} {r r' : R2} {g g' : D → D → Hs → Res D} (ho : OpR X (compareOp op) r) (hg : OpM T r g) (hn : NoEr g) (ho' : OpR X (compareOp op') r') (hg' : OpM T r' g') (hn' : NoEr g') (ha : PE X a (tE T W ma)) (hb : PE X b (tE T W mb)) (hc : PE X c (tE T W mc))
    (hm : lastMarks [op, op'] [b, c] = false := by rfl) : PT X (.Compare a [op, op'] [b, c] pos) (tT T W (mChain g g' ma mb mc)) :=
  weakT (pt_chain ho ho' ha hb hc hm) fun _ _ _ h => chain_weak hg hn hg' hn' (tT_of h)
/-! ### and, or, not, if else -/
def mAnd (ma mb : Ex) : Ex := fun env S => (ma env S).bind fun d S1 => asB d fun k => if k then mb env S1 else .ok (.bl false) S1
def mOr (ma mb : Ex) : Ex := fun env S => (ma env S).bind fun d S1 => asB d fun k => if k then .ok (.bl true) S1 else mb env S1
def mNot (ma : Ex) : Ex := fun env S => (ma env S).bind fun d S1 => asB d fun k => .ok (.bl (!k)) S1
def mIf (mt ma mb : Ex) : Ex := fun env S => (mt env S).bind fun d S1 => asB d fun k => if k then ma env S1 else mb env S1
variable {rest : List Expr}
theorem and_weak {σ : L2.St} {H : Hp} {Q : Bool → Hp → Prop} (h : tT T W (mAnd ma mb) σ H Q) : tAnd (tT T W ma) (tT T W mb) σ H Q := by
  obtain ⟨φ, env, S, R, E, P⟩ := h
  refine tT_bind (k := fun k S1 => if k then mb env S1 else .ok (.bl false) S1) R E P fun k S1 φ1 H1 u R1 E1 P1 => ?_
  cases k with
  | true =>
    rw [if_pos rfl] at *
    exact ⟨φ1, env, S1, R1, E1, P1.mono (fun _ _ x => x.up u) fun _ _ _ x => x⟩
  | false =>
    rw [if_neg Bool.false_ne_true] at *
    obtain ⟨b, e, q⟩ := P1
    cases e
    exact q φ1 H1 u R1
theorem or_weak {σ : L2.St} {H : Hp} {Q : Bool → Hp → Prop} (h : tT T W (mOr ma mb) σ H Q) : tOr (tT T W ma) (tT T W mb) σ H Q := by
  obtain ⟨φ, env, S, R, E, P⟩ := h
  refine tT_bind (k := fun k S1 => if k then .ok (.bl true) S1 else mb env S1) R E P fun k S1 φ1 H1 u R1 E1 P1 => ?_
  cases k with
  | false =>
    rw [if_neg Bool.false_ne_true] at *
    exact ⟨φ1, env, S1, R1, E1, P1.mono (fun _ _ x => x.up u) fun _ _ _ x => x⟩
  | true =>
    rw [if_pos rfl] at *
    obtain ⟨b, e, q⟩ := P1
    cases e
    exact q φ1 H1 u R1
theorem w_one {op : BoolOp} (ha : PT X a (tT T W ma)) : PW X (.BoolOp op [a] pos) (tT T W ma) := by
  cases op with
  | And => exact pw_and1 ha
  | Or => exact pw_or1 ha
theorem w_and (ha : PT X a (tT T W ma)) (hb : PW X (.BoolOp .And (b :: rest) pos) (tT T W mb)) : PW X (.BoolOp .And (a :: b :: rest) pos) (tT T W (mAnd ma mb)) := weakPW (pw_and ha hb) fun _ _ _ h => and_weak h
theorem w_or (ha : PT X a (tT T W ma)) (hb : PW X (.BoolOp .Or (b :: rest) pos) (tT T W mb)) : PW X (.BoolOp .Or (a :: b :: rest) pos) (tT T W (mOr ma mb)) := weakPW (pw_or ha hb) fun _ _ _ h => or_weak h
theorem t_not (ha : PT X a (tT T W ma)) : PT X (.UnaryOp .Not a pos) (tT T W (mNot ma)) := weakT (pt_not ha) fun σ H Q ⟨φ, env, S, R, E, P⟩ =>
  tT_bind (k := fun k S1 => (Res.ok (D.bl (!k)) S1 : Res D)) R E P fun k S1 φ1 H1 u R1 E1 P1 => by
    obtain ⟨b, e, q⟩ := P1
    cases e
    exact q φ1 H1 u R1
theorem r_one {op : BoolOp} (ha : PE X a (tE T W ma)) : PE X (.BoolOp op [a] pos) (tE T W ma) := pe_one ha
theorem r_and (ha : PE X a (tE T W ma)) (hb : PE X (.BoolOp .And (b :: rest) pos) (tE T W mb)) : PE X (.BoolOp .And (a :: b :: rest) pos) (tE T W (mAnd ma mb)) := weakE (pe_and ha hb) fun σ H Q ⟨φ, env, S, R, E, P⟩ =>
  tE_bind R E P fun d S1 φ1 H1 v u R1 r1 E1 P1 => by
    cases r1 with
    | bl k =>
      refine ⟨k, rfl, ?_⟩
      have p : Post (okE T φ H Q) (erE T W φ1 H1 σ) (if k then mb env S1 else .ok (.bl false) S1) := P1
      cases k with
      | true =>
        rw [if_pos rfl] at *
        exact ⟨φ1, env, S1, R1, E1, p.upE u⟩
      | false =>
        rw [if_neg Bool.false_ne_true] at *
        exact p φ1 H1 _ u R1 (.bl false)
    | _ => exact False.elim P1
theorem r_or (ha : PE X a (tE T W ma)) (hb : PE X (.BoolOp .Or (b :: rest) pos) (tE T W mb)) : PE X (.BoolOp .Or (a :: b :: rest) pos) (tE T W (mOr ma mb)) := weakE (pe_or ha hb) fun σ H Q ⟨φ, env, S, R, E, P⟩ =>
  tE_bind R E P fun d S1 φ1 H1 v u R1 r1 E1 P1 => by
    cases r1 with
    | bl k =>
      refine ⟨k, rfl, ?_⟩
      have p : Post (okE T φ H Q) (erE T W φ1 H1 σ) (if k then .ok (.bl true) S1 else mb env S1) := P1
      cases k with
      | false =>
        rw [if_neg Bool.false_ne_true] at *
        exact ⟨φ1, env, S1, R1, E1, p.upE u⟩
      | true =>
        rw [if_pos rfl] at *
        exact p φ1 H1 _ u R1 (.bl true)
    | _ => exact False.elim P1
theorem r_not (ha : PE X a (tE T W ma)) : PE X (.UnaryOp .Not a pos) (tE T W (mNot ma)) := weakE (pe_not ha) fun σ H Q ⟨φ, env, S, R, E, P⟩ =>
  tE_bind R E P fun d S1 φ1 H1 v u R1 r1 E1 P1 => by
    cases r1 with
    | bl k => exact ⟨k, rfl, P1 φ1 H1 _ u R1 (.bl (!k))⟩
    | _ => exact False.elim P1
theorem r_if (hc : PT X c (tT T W mc)) (ha : PE X a (tE T W ma)) (hb : PE X b (tE T W mb)) : PE X (.IfExp c a b pos) (tE T W (mIf mc ma mb)) := weakE (pe_ifExp hc ha hb) fun σ H Q ⟨φ, env, S, R, E, P⟩ =>
  tT_bind (k := fun k S1 => if k then ma env S1 else mb env S1) R E P fun k S1 φ1 H1 u R1 E1 P1 => by
    cases k with
    | true =>
      rw [if_pos rfl] at *
      exact ⟨φ1, env, S1, R1, E1, P1.upE u⟩
    | false =>
      rw [if_neg Bool.false_ne_true] at *
      exact ⟨φ1, env, S1, R1, E1, P1.upE u⟩
end
end MR

/-! M2: operators, comparisons, displays, places, slices. -/
namespace MR
open PySem PySem.Spec L2

def line : Nat := 16777216
theorem line_eq : line = sizeLine := sizeLine_eq.symm
/-- the items of a list's cell -/
def listOf (S : Hs) (n : Nat) : Option (List D) := match S.get n with
  | some (.lst xs) => some xs
  | some (.fro xs) => some xs
  | _ => none
section
variable {T : Ct} {φ : List Addr} {H : Hp} {S : Hs} {Q : VK}
theorem RS.lst (R : RS T φ S H) {n : Nat} {a : Addr} {ds : List D} (h : φ[n]? = some a) (e : S.get n = some (.lst ds)) : ∃ vs, H a = some (.lst vs) ∧ RVs T φ H ds vs := by
  cases R.cell n _ a e h with
  | lst q r => exact ⟨_, q, r⟩
theorem RS.dic (R : RS T φ S H) {n : Nat} {a : Addr} {ds : List (Key × D)} (h : φ[n]? = some a) (e : S.get n = some (.dic ds)) : ∃ o vs, H a = some (.frz o (.dK vs)) ∧ RKs T φ H ds vs := by
  cases R.cell n _ a e h with
  | dic q r => exact ⟨_, _, q, r⟩
theorem RS.listOf (R : RS T φ S H) {n : Nat} {a : Addr} {ds : List D} (h : φ[n]? = some a) (e : listOf S n = some ds) : ∃ vs, SqL T.K H a vs ∧ RVs T φ H ds vs := by
  unfold MR.listOf at e
  split at e
  · rename_i xs hx
    cases e
    obtain ⟨vs, q, r⟩ := R.lst h hx
    exact ⟨vs, SqL.of q, r⟩
  · rename_i xs hx
    cases e
    cases R.cell n _ a hx h with
    | fro q r => exact ⟨_, .inl (.inr ⟨_, q⟩), r⟩
  · cases e
theorem okE.now (P : okE T φ H Q d S) (R : RS T φ S H) (r : RV T φ H d v) : Q v H := P φ H v (Up.refl _ _) R r
theorem okE.newLst {ds : List D} {vs : List V} (R : RS T φ S H) (r : RVs T φ H ds vs) (P : okE T φ H Q (.ref S.n) (S.new (.lst ds))) : ∀ p, H p = none → Q (.ref p) (upd H p (.lst vs)) := fun p hp => by
  obtain ⟨R', U⟩ := R.new (o := .lst vs) (c := .lst ds) hp fun φ' H' u h => .lst h (r.up R u)
  exact P _ _ _ U R' (.ref (by rw [List.getElem?_append_right (by rw [R.len]; exact Nat.le_refl _), R.len]; simp))
theorem okE.newTup {ds : List D} {vs : List V} (R : RS T φ S H) (r : RVs T φ H ds vs) (P : okE T φ H Q (.tup ds) S) : ∀ p, H p = none → Q (.ref p) (upd H p (.tup vs)) := fun p hp => by
  obtain ⟨R', U⟩ := R.laid (o := .tup vs) hp
  have r' := r.up R U
  exact P _ _ _ U R' (.tup (.inl upd_same) r'.1 r'.2)
end

/-! ### numbers -/
def intD (C : Int → Int → Bool) (f : Int → Int → Int) (x y : D) (S : Hs) : Res D := match x, y with
  | .int i, .int j => if C i j then .ok (.int (f i j)) S else .bad
  | _, _ => .bad
theorem int_no (C : Int → Int → Bool) (f : Int → Int → Int) : NoEr (intD C f) := fun x y S c d S' h => by
  unfold intD at h
  split at h
  · split at h <;> cases h
  · cases h
theorem int_M {T : Ct} {C : Int → Int → Bool} {C' : Int → Int → Prop} {f : Int → Int → Int} (hC : ∀ i j, C i j = true → C' i j) : OpM T (rI C' fun i j => .int (f i j)) (intD C f) := by
  intro φ S H x y v u Q er R vx vy ne P
  cases vx <;> cases vy <;> try (exact False.elim P)
  rename_i i j
  unfold intD at P
  simp only at P
  split at P
  · rename_i h
    exact ⟨i, j, rfl, rfl, hC i j h, P.now R (.int _)⟩
  · exact False.elim P
def subD := intD (fun _ _ => true) (fun i j => i - j)
def modD := intD (fun _ j => decide (j ≠ 0)) Int.fmod
def fdivD := intD (fun _ j => decide (0 < j) && decide (j.natAbs.log2 < 9000)) (fun i j => i / j)
def powD := intD (fun i j => decide (0 ≤ j) && decide ((Builtin.Int.intBits i : Int) * j ≤ 2 ^ 27)) (fun i j => i ^ j.toNat)
section
variable {X : Cx} {T : Ct} {W : WX} {pos : Pos} {a b : Expr} {ma mb : Ex}
theorem op_sub' : OpR X (binaryOp .Sub) (rI (fun _ _ => True) fun i j => .int (i - j)) := fun pins s σ H x y v u Q I rx ry h => by
  obtain ⟨i, j, e1, e2, _, q⟩ := h
  exact op_sub pins s σ H x y v u Q I rx ry ⟨i, j, e1, e2, q⟩
theorem op_powW : OpR X (binaryOp .Pow) (rI (fun i j => 0 ≤ j ∧ (Builtin.Int.intBits i : Int) * j ≤ 2 ^ 27) fun i j => .int (i ^ j.toNat)) := opI fun _ _ _ _ _ _ _ hc q => PyProof.Rows.pow_int hc.1 hc.2 q
theorem r_sub (ha : PE X a (tE T W ma)) (hb : PE X b (tE T W mb)) : PE X (.BinOp a .Sub b pos) (tE T W (mOp2 subD ma mb)) := r_bin op_sub' (int_M fun _ _ _ => trivial) (int_no _ _) ha hb
theorem r_mod (ha : PE X a (tE T W ma)) (hb : PE X b (tE T W mb)) : PE X (.BinOp a .Mod b pos) (tE T W (mOp2 modD ma mb)) := r_bin op_modN (int_M fun i j h => of_decide_eq_true h) (int_no _ _) ha hb
theorem r_fdiv (ha : PE X a (tE T W ma)) (hb : PE X b (tE T W mb)) : PE X (.BinOp a .FloorDiv b pos) (tE T W (mOp2 fdivD ma mb)) := r_bin op_fdivW (int_M fun i j h => ⟨of_decide_eq_true (Bool.and_eq_true_iff.mp h).1, of_decide_eq_true (Bool.and_eq_true_iff.mp h).2⟩) (int_no _ _) ha hb
theorem r_pow (ha : PE X a (tE T W ma)) (hb : PE X b (tE T W mb)) : PE X (.BinOp a .Pow b pos) (tE T W (mOp2 powD ma mb)) := r_bin op_powW (int_M fun i j h => ⟨of_decide_eq_true (Bool.and_eq_true_iff.mp h).1, of_decide_eq_true (Bool.and_eq_true_iff.mp h).2⟩) (int_no _ _) ha hb
end
/-- * of ints; of a list and an int -/
def mulD (x y : D) (S : Hs) : Res D := match x, y with
  | .int i, .int j => if i.natAbs.log2 + j.natAbs.log2 < 1000000 then .ok (.int (i * j)) S else .bad
  | .ref n, .int k => match S.get n with
    | some (.lst xs) => if -(2 ^ 63) ≤ k ∧ k < 2 ^ 63 ∧ xs.length * k.toNat ≤ line then .ok (.ref S.n) (S.new (.lst (List.replicate k.toNat xs).flatten)) else .bad
    | _ => .bad
  | _, _ => .bad
theorem RVs.rep {T : Ct} {φ : List Addr} {H : Hp} {ds : List D} {vs : List V} (r : RVs T φ H ds vs) : ∀ k, RVs T φ H (List.replicate k ds).flatten (List.replicate k vs).flatten
  | 0 => .nil
  | k + 1 => by
    rw [List.replicate_succ, List.replicate_succ, List.flatten_cons, List.flatten_cons]
    exact r.append (RVs.rep r k)
theorem mul_no : NoEr mulD := fun x y S c d S' h => by
  unfold mulD at h
  split at h
  · split at h <;> cases h
  · split at h
    · split at h <;> cases h
    · cases h
  · cases h
def rMulU : R2 := fun x y H Q => rI CMulW (fun i j => .int (i * j)) x y H Q ∨ rRep x y H Q
theorem mul_M {T : Ct} : OpM T rMulU mulD := by
  intro φ S H x y v u Q er R vx vy ne P
  cases vx <;> cases vy <;> try (exact False.elim P)
  · rename_i i j
    unfold mulD at P
    simp only at P
    split at P
    · rename_i h
      exact .inl ⟨i, j, rfl, rfl, h, P.now R (.int _)⟩
    · exact False.elim P
  · rename_i n a ha k
    unfold mulD at P
    simp only at P
    split at P
    · rename_i xs hx
      split at P
      · rename_i h
        obtain ⟨vs, q, r⟩ := R.lst ha hx
        refine .inr ⟨a, k, vs, rfl, rfl, q, h.1, h.2.1, by rw [← r.1, ← line_eq]; exact h.2.2, okE.newLst R (r.rep _) P⟩
      · exact False.elim P
    · exact False.elim P
/-- + of ints, texts, tuples, lists -/
def addD (x y : D) (S : Hs) : Res D := match x, y with
  | .int i, .int j => .ok (.int (i + j)) S
  | .str a, .str b => if a.length + b.length ≤ line then .ok (.str (a ++ b)) S else .bad
  | .tup xs, .tup ys => if xs.length + ys.length ≤ line then .ok (.tup (xs ++ ys)) S else .bad
  | .ref n, .ref m => match S.get n, S.get m with
    | some (.lst xs), some (.lst ys) => if xs.length + ys.length ≤ line then .ok (.ref S.n) (S.new (.lst (xs ++ ys))) else .bad
    | _, _ => .bad
  | _, _ => .bad
theorem add_no : NoEr addD := fun x y S c d S' h => by
  unfold addD at h
  split at h
  · cases h
  · split at h <;> cases h
  · split at h <;> cases h
  · split at h
    · split at h <;> cases h
    · cases h
  · cases h
def rAddU (K : PySem.W.Frag) : R2 := fun x y H Q => rI0 (fun i j => .int (i + j)) x y H Q ∨ (∃ i j, x = .str i ∧ y = .str j ∧ i.length + j.length ≤ sizeLine ∧ Q (.str (i ++ j)) H) ∨ rCat x y H Q ∨ rCatA K x y H Q
theorem add_M {T : Ct} : OpM T (rAddU T.K) addD := by
  intro φ S H x y v u Q er R vx vy ne P
  cases vx <;> cases vy <;> try (exact False.elim P)
  · rename_i i j
    exact .inl ⟨i, j, rfl, rfl, P.now R (.int _)⟩
  · rename_i i j
    unfold addD at P
    simp only at P
    split at P
    · rename_i h
      exact .inr (.inl ⟨i, j, rfl, rfl, by rw [← line_eq]; exact h, P.now R (.str _)⟩)
    · exact False.elim P
  · rename_i ds a vs h1 l1 r1 es b us h2 l2 r2
    unfold addD at P
    simp only at P
    split at P
    · rename_i h
      have q1 : RVs T φ H ds vs := ⟨l1, r1⟩
      have q2 : RVs T φ H es us := ⟨l2, r2⟩
      refine .inr (.inr (.inr ⟨a, b, vs, us, rfl, rfl, h1.sq, h2.sq, by rw [← l1, ← l2, ← line_eq]; exact h, fun e => ?_, fun _ e => ?_, fun _ _ => okE.newTup R (q1.append q2) P⟩))
      · subst e
        have e' : ds = [] := List.length_eq_zero_iff.mp l1
        subst e'
        exact P.now R (.tup h2 l2 r2)
      · subst e
        have e' : es = [] := List.length_eq_zero_iff.mp l2
        subst e'
        exact P.now R (by rw [List.append_nil]; exact .tup h1 l1 r1)
    · exact False.elim P
  · rename_i n a h1 m b h2
    unfold addD at P
    simp only at P
    split at P
    · rename_i xs ys e1 e2
      split at P
      · rename_i h
        obtain ⟨vs, q1, r1⟩ := R.lst h1 e1
        obtain ⟨us, q2, r2⟩ := R.lst h2 e2
        exact .inr (.inr (.inl ⟨a, b, vs, us, rfl, rfl, q1, q2, by rw [← r1.1, ← r2.1, ← line_eq]; exact h, okE.newLst R (r1.append r2) P⟩))
      · exact False.elim P
    · exact False.elim P
section
variable {X : Cx} {T : Ct} {W : WX} {pos : Pos} {a b : Expr} {ma mb : Ex}
theorem r_mul (ha : PE X a (tE T W ma)) (hb : PE X b (tE T W mb)) : PE X (.BinOp a .Mult b pos) (tE T W (mOp2 mulD ma mb)) := r_bin (op_mulW.or op_rep) mul_M mul_no ha hb
theorem r_add (ha : PE X a (tE T W ma)) (hb : PE X b (tE T W mb)) (hK : T.K = X.K := by rfl) : PE X (.BinOp a .Add b pos) (tE T W (mOp2 addD ma mb)) :=
  r_bin (r := rAddU T.K) (by rw [hK]; exact op_add.or (op_add_str.or (op_cat.or op_catA))) add_M add_no ha hb
/-- -a -/
def mNeg (ma : Ex) : Ex := fun env S => (ma env S).bind fun d S1 => match d with
  | .int i => .ok (.int (-i)) S1
  | _ => .bad
theorem r_neg (ha : PE X a (tE T W ma)) : PE X (.UnaryOp .USub a pos) (tE T W (mNeg ma)) := weakE (pe_un un_neg ha) fun σ H Q ⟨φ, env, S, R, E, P⟩ =>
  tE_bind R E P fun d S1 φ1 H1 v u R1 r1 E1 P1 => by
    cases r1 with
    | int i => exact ⟨i, rfl, P1 φ1 H1 _ u R1 (.int _)⟩
    | _ => exact False.elim P1
/-- a.bit_length() -/
def mBits (ma : Ex) : Ex := fun env S => (ma env S).bind fun d S1 => match d with
  | .int i => .ok (.int (Builtin.Int.intBits i : Nat)) S1
  | _ => .bad
end
/-! ### order -/
def ordD (f : Int → Int → Bool) (x y : D) (S : Hs) : Res D := match x, y with
  | .int i, .int j => .ok (.bl (f i j)) S
  | _, _ => .bad
theorem ord_no (f : Int → Int → Bool) : NoEr (ordD f) := fun x y S c d S' h => by
  unfold ordD at h
  split at h <;> cases h
theorem ord_M {T : Ct} {f : Int → Int → Bool} : OpM T (rI0 fun i j => .bl (f i j)) (ordD f) := by
  intro φ S H x y v u Q er R vx vy ne P
  cases vx <;> cases vy <;> try (exact False.elim P)
  rename_i i j
  exact ⟨i, j, rfl, rfl, P.now R (.bl _)⟩
def gtD := ordD fun i j => decide (j < i)
def geD := ordD fun i j => decide (j ≤ i)
/-- < and <= of ints, of texts -/
def ltD (x y : D) (S : Hs) : Res D := match x, y with
  | .int i, .int j => .ok (.bl (decide (i < j))) S
  | .str a, .str b => .ok (.bl (decide (a.cps.toList < b.cps.toList))) S
  | _, _ => .bad
def leD (x y : D) (S : Hs) : Res D := match x, y with
  | .int i, .int j => .ok (.bl (decide (i ≤ j))) S
  | .str a, .str b => .ok (.bl (!decide (b.cps.toList < a.cps.toList))) S
  | _, _ => .bad
theorem lt_no : NoEr ltD := fun x y S c d S' h => by
  unfold ltD at h
  split at h <;> cases h
theorem le_no : NoEr leD := fun x y S c d S' h => by
  unfold leD at h
  split at h <;> cases h
theorem lt_M {T : Ct} : OpM T (fun x y H Q => rI0 (fun i j => .bl (decide (i < j))) x y H Q ∨ ∃ i j, x = .str i ∧ y = .str j ∧ Q (.bl (decide (i.cps.toList < j.cps.toList))) H) ltD := by
  intro φ S H x y v u Q er R vx vy ne P
  cases vx <;> cases vy <;> try (exact False.elim P)
  · exact .inl ⟨_, _, rfl, rfl, P.now R (.bl _)⟩
  · exact .inr ⟨_, _, rfl, rfl, P.now R (.bl _)⟩
theorem le_M {T : Ct} : OpM T (fun x y H Q => rI0 (fun i j => .bl (decide (i ≤ j))) x y H Q ∨ ∃ i j, x = .str i ∧ y = .str j ∧ Q (.bl (!decide (j.cps.toList < i.cps.toList))) H) leD := by
  intro φ S H x y v u Q er R vx vy ne P
  cases vx <;> cases vy <;> try (exact False.elim P)
  · exact .inl ⟨_, _, rfl, rfl, P.now R (.bl _)⟩
  · exact .inr ⟨_, _, rfl, rfl, P.now R (.bl _)⟩
/-! ### is -/
def isD (x y : D) (S : Hs) : Res D := match x, y with
  | .non, .non => .ok (.bl true) S
  | .bl a, .bl b => .ok (.bl (decide (a = b))) S
  | .bl _, .non => .ok (.bl false) S
  | .int _, .non => .ok (.bl false) S
  | .str _, .non => .ok (.bl false) S
  | .tup _, .non => .ok (.bl false) S
  | .ref _, .non => .ok (.bl false) S
  | .er _ _, .non => .ok (.bl false) S
  | _, _ => .bad
def isnotD (x y : D) (S : Hs) : Res D := match isD x y S with
  | .ok (.bl b) S => .ok (.bl (!b)) S
  | _ => .bad
theorem is_no : NoEr isD := fun x y S c d S' h => by
  unfold isD at h
  split at h <;> cases h
theorem isnot_no : NoEr isnotD := fun x y S c d S' h => by
  unfold isnotD at h
  split at h <;> cases h
theorem is_M {T : Ct} : OpM T (fun x y H Q => (y = .non ∧ Q (.bl (decide (x = .non))) H) ∨ rIsB x y H Q) isD := by
  intro φ S H x y v u Q er R vx vy ne P
  cases vx <;> cases vy <;> first
    | exact False.elim P
    | exact .inl ⟨rfl, P.now R (.bl _)⟩
    | exact .inr ⟨_, _, rfl, rfl, P.now R (.bl _)⟩
theorem isnot_M {T : Ct} : OpM T (fun x y H Q => (y = .non ∧ Q (.bl (!decide (x = .non))) H) ∨ rNotB x y H Q) isnotD := by
  intro φ S H x y v u Q er R vx vy ne P
  cases vx <;> cases vy <;> first
    | exact False.elim P
    | exact .inl ⟨rfl, P.now R (.bl _)⟩
    | exact .inr ⟨_, _, rfl, rfl, P.now R (.bl _)⟩
section
variable {X : Cx} {T : Ct} {W : WX} {pos : Pos} {a b : Expr} {ma mb : Ex}
theorem r_lt (ha : PE X a (tE T W ma)) (hb : PE X b (tE T W mb)) : PE X (.Compare a [.Lt] [b] pos) (tE T W (mOp2 ltD ma mb)) := r_cmp (op_lt.or op_lt_str) lt_M lt_no ha hb (nomark _)
theorem t_lt (ha : PE X a (tE T W ma)) (hb : PE X b (tE T W mb)) : PT X (.Compare a [.Lt] [b] pos) (tT T W (mOp2 ltD ma mb)) := t_cmp (op_lt.or op_lt_str) lt_M lt_no ha hb (nomark _)
theorem r_le (ha : PE X a (tE T W ma)) (hb : PE X b (tE T W mb)) : PE X (.Compare a [.LtE] [b] pos) (tE T W (mOp2 leD ma mb)) := r_cmp (op_le.or op_le_str) le_M le_no ha hb (nomark _)
theorem t_le (ha : PE X a (tE T W ma)) (hb : PE X b (tE T W mb)) : PT X (.Compare a [.LtE] [b] pos) (tT T W (mOp2 leD ma mb)) := t_cmp (op_le.or op_le_str) le_M le_no ha hb (nomark _)
theorem r_gt (ha : PE X a (tE T W ma)) (hb : PE X b (tE T W mb)) : PE X (.Compare a [.Gt] [b] pos) (tE T W (mOp2 gtD ma mb)) := r_cmp op_gt ord_M (ord_no _) ha hb (nomark _)
theorem t_gt (ha : PE X a (tE T W ma)) (hb : PE X b (tE T W mb)) : PT X (.Compare a [.Gt] [b] pos) (tT T W (mOp2 gtD ma mb)) := t_cmp op_gt ord_M (ord_no _) ha hb (nomark _)
theorem r_ge (ha : PE X a (tE T W ma)) (hb : PE X b (tE T W mb)) : PE X (.Compare a [.GtE] [b] pos) (tE T W (mOp2 geD ma mb)) := r_cmp op_ge ord_M (ord_no _) ha hb (nomark _)
theorem t_ge (ha : PE X a (tE T W ma)) (hb : PE X b (tE T W mb)) : PT X (.Compare a [.GtE] [b] pos) (tT T W (mOp2 geD ma mb)) := t_cmp op_ge ord_M (ord_no _) ha hb (nomark _)
theorem r_is (ha : PE X a (tE T W ma)) (hb : PE X b (tE T W mb)) : PE X (.Compare a [.Is] [b] pos) (tE T W (mOp2 isD ma mb)) := r_cmp (op_isN.or op_isBl) is_M is_no ha hb (nomark _)
theorem t_is (ha : PE X a (tE T W ma)) (hb : PE X b (tE T W mb)) : PT X (.Compare a [.Is] [b] pos) (tT T W (mOp2 isD ma mb)) := t_cmp (op_isN.or op_isBl) is_M is_no ha hb (nomark _)
theorem r_isnot (ha : PE X a (tE T W ma)) (hb : PE X b (tE T W mb)) : PE X (.Compare a [.IsNot] [b] pos) (tE T W (mOp2 isnotD ma mb)) := r_cmp (op_notN.or op_notBl) isnot_M isnot_no ha hb (nomark _)
theorem t_isnot (ha : PE X a (tE T W ma)) (hb : PE X b (tE T W mb)) : PT X (.Compare a [.IsNot] [b] pos) (tT T W (mOp2 isnotD ma mb)) := t_cmp (op_notN.or op_notBl) isnot_M isnot_no ha hb (nomark _)
theorem r_ltlt {c : Expr} {mc : Ex} (ha : PE X a (tE T W ma)) (hb : PE X b (tE T W mb)) (hc : PE X c (tE T W mc)) (hm : lastMarks [.Lt, .Lt] [b, c] = false := by rfl) : PE X (.Compare a [.Lt, .Lt] [b, c] pos) (tE T W (mChain ltD ltD ma mb mc)) := r_chain (op_lt.or op_lt_str) lt_M lt_no (op_lt.or op_lt_str) lt_M lt_no ha hb hc hm
theorem t_ltlt {c : Expr} {mc : Ex} (ha : PE X a (tE T W ma)) (hb : PE X b (tE T W mb)) (hc : PE X c (tE T W mc)) (hm : lastMarks [.Lt, .Lt] [b, c] = false := by rfl) : PT X (.Compare a [.Lt, .Lt] [b, c] pos) (tT T W (mChain ltD ltD ma mb mc)) := t_chain (op_lt.or op_lt_str) lt_M lt_no (op_lt.or op_lt_str) lt_M lt_no ha hb hc hm
theorem r_lele {c : Expr} {mc : Ex} (ha : PE X a (tE T W ma)) (hb : PE X b (tE T W mb)) (hc : PE X c (tE T W mc)) (hm : lastMarks [.LtE, .LtE] [b, c] = false := by rfl) : PE X (.Compare a [.LtE, .LtE] [b, c] pos) (tE T W (mChain leD leD ma mb mc)) := r_chain (op_le.or op_le_str) le_M le_no (op_le.or op_le_str) le_M le_no ha hb hc hm
end
end MR

/-! M3: == of data, in, places, slices, displays, calls of built-ins. -/
namespace MR
open PySem PySem.Spec L2

/-! ### data as a whole -/
def mapO {α β : Type} (f : α → Option β) : List α → Option (List β)
  | [] => some []
  | x :: xs => match f x with
    | some y => match mapO f xs with
      | some ys => some (y :: ys)
      | none => none
    | none => none
/-- what a value is as data, down to some depth -/
def toP (S : Hs) : Nat → D → Option PyData
  | 0, d => match d with
    | .non => some .none
    | .bl b => some (.bool b)
    | .int i => some (.int i)
    | .str s => some (.str s)
    | _ => none
  | k + 1, d => match d with
    | .non => some .none
    | .bl b => some (.bool b)
    | .int i => some (.int i)
    | .str s => some (.str s)
    | .tup xs => (mapO (toP S k) xs).map .tuple
    | .ref n => match listOf S n with
      | some xs => (mapO (toP S k) xs).map .list
      | none => none
    | _ => none
section
variable {T : Ct} {φ : List Addr} {H : Hp} {S : Hs}
theorem dpAll_of {f : D → Option PyData} (ih : ∀ d v p, RV T φ H d v → f d = some p → Dp T.K H v p) : ∀ (ds : List D) (vs : List V) (ps : List PyData), RVs T φ H ds vs → mapO f ds = some ps → DpAll T.K H vs ps
  | [], vs, ps, r, e => by
    have q := r.inv_nil
    subst q
    cases e
    exact .nil
  | d :: ds, vs, ps, r, e => by
    obtain ⟨v, us, rfl, r1, r2⟩ := r.inv_cons
    unfold mapO at e
    split at e
    · rename_i y hy
      split at e
      · rename_i ys hys
        cases e
        exact .cons (ih d v y r1 hy) (dpAll_of ih ds us ys r2 hys)
      · cases e
    · cases e
theorem toP_dp (R : RS T φ S H) : ∀ (k : Nat) (d : D) (v : V) (p : PyData), RV T φ H d v → toP S k d = some p → Dp T.K H v p
  | 0, d, v, p, r, e => by
    cases r <;> first
      | (cases e; first | exact .non | exact .bl _ | exact .int _ | exact .str _)
      | (cases e)
  | k + 1, d, v, p, r, e => by
    cases r with
    | non => cases e; exact .non
    | bl b => cases e; exact .bl b
    | int i => cases e; exact .int i
    | str s => cases e; exact .str s
    | tup h l r =>
      have e' : (mapO (toP S k) _).map PyData.tuple = some p := e
      obtain ⟨ps, h1, h2⟩ := Option.map_eq_some_iff.mp e'
      subst h2
      exact .tup h.sq (dpAll_of (fun d v p => toP_dp R k d v p) _ _ _ ⟨l, r⟩ h1)
    | @ref n a h =>
      have e' : (match listOf S n with
        | some xs => (mapO (toP S k) xs).map PyData.list
        | none => none) = some p := e
      split at e'
      · rename_i xs hx
        obtain ⟨ps, h1, h2⟩ := Option.map_eq_some_iff.mp e'
        subst h2
        obtain ⟨vs, q, r⟩ := R.listOf h hx
        exact .lst q (dpAll_of (fun d v p => toP_dp R k d v p) _ _ _ r h1)
      · cases e'
    | ty n => cases e
    | cls c => cases e
    | fz h l r => cases e
    | er h hd r => cases e
    | key h => cases e
end
/-- how deep == looks -/
def deep : Nat := 40
def eqD (x y : D) (S : Hs) : Res D := match toP S deep x, toP S deep y with
  | some p, some q => if SeqAt.shaped p && SeqAt.shaped q then .ok (.bl (PyData.eqv p q)) S else .bad
  | _, _ => .bad
def neD (x y : D) (S : Hs) : Res D := match eqD x y S with
  | .ok (.bl b) S => .ok (.bl (!b)) S
  | _ => .bad
theorem eq_no : NoEr eqD := fun x y S c d S' h => by
  unfold eqD at h
  split at h
  · split at h <;> cases h
  · cases h
theorem ne_no : NoEr neD := fun x y S c d S' h => by
  unfold neD at h
  split at h <;> cases h
theorem eq_M {T : Ct} : OpM T (rEqD T.K) eqD := by
  intro φ S H x y v u Q er R vx vy ne P
  unfold eqD at P
  split at P
  · rename_i p q hp hq
    split at P
    · rename_i h
      exact ⟨p, q, toP_dp R _ _ _ _ vx hp, toP_dp R _ _ _ _ vy hq, (Bool.and_eq_true_iff.mp h).1, (Bool.and_eq_true_iff.mp h).2, P.now R (.bl _)⟩
    · exact False.elim P
  · exact False.elim P
theorem ne_M {T : Ct} : OpM T (rNeD T.K) neD := by
  intro φ S H x y v u Q er R vx vy ne P
  unfold neD eqD at P
  split at P
  · rename_i b S' h
    split at h
    · rename_i p q hp hq
      split at h
      · rename_i hs
        cases h
        exact ⟨p, q, toP_dp R _ _ _ _ vx hp, toP_dp R _ _ _ _ vy hq, (Bool.and_eq_true_iff.mp hs).1, (Bool.and_eq_true_iff.mp hs).2, P.now R (.bl _)⟩
      · cases h
    · cases h
  · exact False.elim P
/-! ### in -/
/-- what is compared flat -/
def flatD : D → Bool
  | .non => true
  | .bl _ => true
  | .int _ => true
  | .str _ => true
  | _ => false
def eqFl : D → D → Bool
  | .non, .non => true
  | .bl a, .bl b => a == b
  | .bl a, .int b => (if a then 1 else 0) == b
  | .int a, .bl b => a == (if b then 1 else 0)
  | .int a, .int b => a == b
  | .str a, .str b => a == b
  | _, _ => false
/-- x in y: y a text (x one sign), a list or a tuple of flat things; a list of data -/
def inB (x y : D) (S : Hs) : Option Bool := match y with
  | .str z => match x with
    | .str c => if c.cps.size = 1 then some (decide (c.cps.getD 0 0 ∈ z.cps.toList)) else none
    | _ => none
  | .tup ys => if flatD x && ys.all flatD then some (ys.any fun y => eqFl y x) else none
  | .ref n => match listOf S n with
    | some ys => if flatD x && ys.all flatD then some (ys.any fun y => eqFl y x) else
      match toP S deep x, toP S deep (.ref n) with
      | some d, some (.list ds) => if SeqAt.shaped d && SeqAt.shaped (.list ds) then some (ds.any fun z => PyData.eqv z d) else none
      | _, _ => none
    | none => none
  | _ => none
def inD (x y : D) (S : Hs) : Res D := match inB x y S with
  | some b => .ok (.bl b) S
  | none => .bad
def notinD (x y : D) (S : Hs) : Res D := match inB x y S with
  | some b => .ok (.bl (!b)) S
  | none => .bad
section
variable {T : Ct} {φ : List Addr} {H : Hp} {S : Hs}
theorem flat_of {d : D} {v : V} (r : RV T φ H d v) (f : flatD d = true) : flatV v = true := by
  cases r <;> first | rfl | cases f
theorem flats_of : ∀ {ds : List D} {vs : List V}, RVs T φ H ds vs → ds.all flatD = true → vs.all flatV = true
  | [], vs, r, _ => by
    have e := r.inv_nil
    subst e
    rfl
  | d :: ds, vs, r, f => by
    obtain ⟨v, us, rfl, r1, r2⟩ := r.inv_cons
    rw [List.all_cons, Bool.and_eq_true] at f
    rw [List.all_cons, flat_of r1 f.1, flats_of r2 f.2]
    rfl
theorem eqFl_of {x y : D} {v u : V} (rx : RV T φ H x v) (ry : RV T φ H y u) : flatD x = true → flatD y = true → eqFl x y = eqV v u := by
  intro fx fy
  cases rx <;> cases ry <;> first | rfl | exact absurd fx Bool.false_ne_true | exact absurd fy Bool.false_ne_true
theorem any_of {x : D} {v : V} (rx : RV T φ H x v) (fx : flatD x = true) : ∀ {ds : List D} {vs : List V}, RVs T φ H ds vs → ds.all flatD = true → ds.any (fun y => eqFl y x) = inV v vs
  | [], vs, r, _ => by
    have e := r.inv_nil
    subst e
    rfl
  | d :: ds, vs, r, f => by
    obtain ⟨w, us, rfl, r1, r2⟩ := r.inv_cons
    rw [List.all_cons, Bool.and_eq_true] at f
    have ih := any_of rx fx r2 f.2
    show (eqFl d x || ds.any fun y => eqFl y x) = (eqV w v || us.any fun y => eqV y v)
    rw [ih, eqFl_of r1 rx f.1 fx]
    rfl
end
theorem in_no : NoEr inD := fun x y S c d S' h => by
  unfold inD at h
  split at h <;> cases h
theorem notin_no : NoEr notinD := fun x y S c d S' h => by
  unfold notinD at h
  split at h <;> cases h
def rInU (K : PySem.W.Frag) : R2 := fun x y H Q => (∃ (c : Nat) (z : Str), x = .str ⟨#[c]⟩ ∧ y = .str z ∧ Q (.bl (decide (c ∈ z.cps.toList))) H) ∨ rIn K false x y H Q ∨ rInD K x y H Q
def rNotInU (K : PySem.W.Frag) : R2 := fun x y H Q => (∃ (c : Nat) (z : Str), x = .str ⟨#[c]⟩ ∧ y = .str z ∧ Q (.bl (!decide (c ∈ z.cps.toList))) H) ∨ rIn K true x y H Q ∨ rNotInD K x y H Q
theorem one_sign {c : Str} (h : c.cps.size = 1) : c = ⟨#[c.cps.getD 0 0]⟩ := by
  obtain ⟨⟨l⟩⟩ := c
  match l, h with
  | [a], _ => rfl
theorem inB_of {T : Ct} {φ : List Addr} {H : Hp} {S : Hs} {x y : D} {v u : V} {b : Bool} (R : RS T φ S H) (vx : RV T φ H x v) (vy : RV T φ H y u) (h : inB x y S = some b) :
    (∃ (c : Nat) (z : Str), v = .str ⟨#[c]⟩ ∧ u = .str z ∧ b = decide (c ∈ z.cps.toList)) ∨ (∃ a vs, u = .ref a ∧ (SqL T.K H a vs ∨ SqT T.K H a vs) ∧ flatV v = true ∧ vs.all flatV = true ∧ b = inV v vs) ∨
      ∃ d ds, Dp T.K H v d ∧ Dp T.K H u (.list ds) ∧ SeqAt.shaped d = true ∧ SeqAt.shaped (.list ds) = true ∧ b = ds.any fun z => PyData.eqv z d := by
  unfold inB at h
  cases vy with
  | str z =>
    cases vx with
    | str c =>
      simp only at h
      split at h
      · rename_i e
        cases h
        exact .inl ⟨c.cps.getD 0 0, z, by rw [← one_sign e], rfl, rfl⟩
      · cases h
    | _ => cases h
  | @tup ys a vs h1 l r =>
    simp only at h
    split at h
    · rename_i hf
      cases h
      have hf := Bool.and_eq_true_iff.mp hf
      exact .inr (.inl ⟨a, vs, rfl, .inr h1.sq, flat_of vx hf.1, flats_of ⟨l, r⟩ hf.2, any_of vx hf.1 ⟨l, r⟩ hf.2⟩)
    · cases h
  | @ref n a h1 =>
    simp only at h
    split at h
    · rename_i ys hys
      split at h
      · rename_i hf
        cases h
        have hf := Bool.and_eq_true_iff.mp hf
        obtain ⟨vs, q, r⟩ := R.listOf h1 hys
        exact .inr (.inl ⟨a, vs, rfl, .inl q, flat_of vx hf.1, flats_of r hf.2, any_of vx hf.1 r hf.2⟩)
      · split at h
        · rename_i d ds hd hds
          split at h
          · rename_i hs
            cases h
            have hs := Bool.and_eq_true_iff.mp hs
            exact .inr (.inr ⟨d, ds, toP_dp R _ _ _ _ vx hd, toP_dp R _ _ _ _ (.ref h1) hds, hs.1, hs.2, rfl⟩)
          · cases h
        · cases h
    · cases h
  | _ => cases h
theorem in_M {T : Ct} : OpM T (rInU T.K) inD := by
  intro φ S H x y v u Q er R vx vy ne P
  unfold inD at P
  split at P
  · rename_i b hb
    have q := P.now R (.bl b)
    rcases inB_of R vx vy hb with ⟨c, z, rfl, rfl, rfl⟩ | ⟨a, vs, rfl, h1, h2, h3, rfl⟩ | ⟨d, ds, h1, h2, h3, h4, rfl⟩
    · exact .inl ⟨c, z, rfl, rfl, q⟩
    · exact .inr (.inl ⟨a, vs, rfl, h1, h2, h3, q⟩)
    · exact .inr (.inr ⟨d, ds, h1, h2, h3, h4, q⟩)
  · exact False.elim P
theorem notin_M {T : Ct} : OpM T (rNotInU T.K) notinD := by
  intro φ S H x y v u Q er R vx vy ne P
  unfold notinD at P
  split at P
  · rename_i b hb
    have q := P.now R (.bl (!b))
    rcases inB_of R vx vy hb with ⟨c, z, rfl, rfl, rfl⟩ | ⟨a, vs, rfl, h1, h2, h3, rfl⟩ | ⟨d, ds, h1, h2, h3, h4, rfl⟩
    · exact .inl ⟨c, z, rfl, rfl, q⟩
    · exact .inr (.inl ⟨a, vs, rfl, h1, h2, h3, q⟩)
    · exact .inr (.inr ⟨d, ds, h1, h2, h3, h4, q⟩)
  · exact False.elim P
/-- room for == at depth -/
def Deepy (X : Cx) : Prop := X.A.units + 65 < cLine
theorem deepy_of {X : Cx} {k : Nat} (hr : Room k X.A) : Deepy X := by
  have := hr.un
  unfold Deepy
  omega
section
variable {X : Cx} {T : Ct} {W : WX} {pos : Pos} {a b : Expr} {ma mb : Ex}
theorem r_eq (hu : Deepy X) (ha : PE X a (tE T W ma)) (hb : PE X b (tE T W mb)) (hK : T.K = X.K := by rfl) : PE X (.Compare a [.Eq] [b] pos) (tE T W (mOp2 eqD ma mb)) := r_cmp (r := rEqD T.K) (by rw [hK]; exact op_eqD (by unfold Deepy at hu; omega)) eq_M eq_no ha hb (nomark _)
theorem t_eq (hu : Deepy X) (ha : PE X a (tE T W ma)) (hb : PE X b (tE T W mb)) (hK : T.K = X.K := by rfl) : PT X (.Compare a [.Eq] [b] pos) (tT T W (mOp2 eqD ma mb)) := t_cmp (r := rEqD T.K) (by rw [hK]; exact op_eqD (by unfold Deepy at hu; omega)) eq_M eq_no ha hb (nomark _)
theorem r_ne (hu : Deepy X) (ha : PE X a (tE T W ma)) (hb : PE X b (tE T W mb)) (hK : T.K = X.K := by rfl) : PE X (.Compare a [.NotEq] [b] pos) (tE T W (mOp2 neD ma mb)) := r_cmp (r := rNeD T.K) (by rw [hK]; exact op_neD (by unfold Deepy at hu; omega)) ne_M ne_no ha hb (nomark _)
theorem t_ne (hu : Deepy X) (ha : PE X a (tE T W ma)) (hb : PE X b (tE T W mb)) (hK : T.K = X.K := by rfl) : PT X (.Compare a [.NotEq] [b] pos) (tT T W (mOp2 neD ma mb)) := t_cmp (r := rNeD T.K) (by rw [hK]; exact op_neD (by unfold Deepy at hu; omega)) ne_M ne_no ha hb (nomark _)
theorem r_in (hu : Deepy X) (ha : PE X a (tE T W ma)) (hb : PE X b (tE T W mb)) (hm : behindInMarks .In b = false := by rfl) (hK : T.K = X.K := by rfl) : PE X (.Compare a [.In] [b] pos) (tE T W (mOp2 inD ma mb)) := r_cmp (r := rInU T.K) (by rw [hK]; exact op_in_sign.or (op_in_seq.or (op_inD hu))) in_M in_no ha hb hm
theorem t_in (hu : Deepy X) (ha : PE X a (tE T W ma)) (hb : PE X b (tE T W mb)) (hm : behindInMarks .In b = false := by rfl) (hK : T.K = X.K := by rfl) : PT X (.Compare a [.In] [b] pos) (tT T W (mOp2 inD ma mb)) := t_cmp (r := rInU T.K) (by rw [hK]; exact op_in_sign.or (op_in_seq.or (op_inD hu))) in_M in_no ha hb hm
theorem r_notin (hu : Deepy X) (ha : PE X a (tE T W ma)) (hb : PE X b (tE T W mb)) (hm : behindInMarks .NotIn b = false := by rfl) (hK : T.K = X.K := by rfl) : PE X (.Compare a [.NotIn] [b] pos) (tE T W (mOp2 notinD ma mb)) := r_cmp (r := rNotInU T.K) (by rw [hK]; exact op_notIn_sign.or (op_notIn_seq.or (op_notInD hu))) notin_M notin_no ha hb hm
theorem t_notin (hu : Deepy X) (ha : PE X a (tE T W ma)) (hb : PE X b (tE T W mb)) (hm : behindInMarks .NotIn b = false := by rfl) (hK : T.K = X.K := by rfl) : PT X (.Compare a [.NotIn] [b] pos) (tT T W (mOp2 notinD ma mb)) := t_cmp (r := rNotInU T.K) (by rw [hK]; exact op_notIn_sign.or (op_notIn_seq.or (op_notInD hu))) notin_M notin_no ha hb hm
/-! ### displays -/
def mTup (ms : Exs) : Ex := fun env S => (ms env S).bind fun ds S1 => if ds.length ≤ line then .ok (.tup ds) S1 else .bad
def mLst (ms : Exs) : Ex := fun env S => (ms env S).bind fun ds S1 => if ds.length ≤ line then .ok (.ref S1.n) (S1.new (.lst ds)) else .bad
variable {es : List Expr} {ms : Exs}
theorem r_tup {k} (h : PA X es (tA T W ms)) : PE X (.Tuple es k pos) (tE T W (mTup ms)) := weakE (pe_tup h) fun σ H Q ⟨φ, env, S, R, E, P⟩ =>
  tA_bind R E P fun ds S1 φ1 H1 vs u R1 r1 E1 P1 => by
    split at P1
    · rename_i hl
      exact ⟨by rw [← r1.1, ← line_eq]; exact hl, okE.newTup R1 r1 (okE.up u P1)⟩
    · exact False.elim P1
theorem r_lst (h : PA X es (tA T W ms)) : PE X (.List es pos) (tE T W (mLst ms)) := weakE (pe_lst h) fun σ H Q ⟨φ, env, S, R, E, P⟩ =>
  tA_bind R E P fun ds S1 φ1 H1 vs u R1 r1 E1 P1 => by
    split at P1
    · rename_i hl
      exact ⟨by rw [← r1.1, ← line_eq]; exact hl, okE.newLst R1 r1 (okE.up u P1)⟩
    · exact False.elim P1
/-! ### places -/
def ixD (x y : D) (S : Hs) : Res D := match y with
  | .int i => match x with
    | .tup xs => match atI xs i with
      | some d => .ok d S
      | none => .bad
    | .ref n => match listOf S n with
      | some xs => match atI xs i with
        | some d => .ok d S
        | none => .bad
      | none => .bad
    | .str z => if z.length ≤ line then match atI z.cps.toList i with
      | some c => .ok (.str ⟨#[c]⟩) S
      | none => .bad else .bad
    | _ => .bad
  | _ => .bad
theorem ix_no : NoEr ixD := fun x y S c d S' h => by
  unfold ixD at h
  repeat' (first | cases h | split at h)
theorem atI_of {φ : List Addr} {H : Hp} {ds : List D} {vs : List V} (r : RVs T φ H ds vs) {i : Int} {d : D} (h : atI ds i = some d) : ∃ v, atI vs i = some v ∧ RV T φ H d v := by
  unfold atI at *
  rw [← r.1]
  cases e : ixN ds.length i with
  | none => rw [e] at h; cases h
  | some j =>
    rw [e] at h
    exact r.get h
theorem ix_M : OpM T (rIx T.K) ixD := by
  intro φ S H x y v u Q er R vx vy ne P
  unfold ixD at P
  cases vy with
  | int i =>
    cases vx with
    | @tup xs a vs h l r =>
      simp only at P
      split at P
      · rename_i d hd
        obtain ⟨w, hw, rw'⟩ := atI_of ⟨l, r⟩ hd
        exact .inr (.inl ⟨a, vs, i, w, rfl, rfl, h.sq, hw, P.now R rw'⟩)
      · exact False.elim P
    | @ref n a h =>
      simp only at P
      split at P
      · rename_i xs hx
        split at P
        · rename_i d hd
          obtain ⟨vs, q, r⟩ := R.listOf h hx
          obtain ⟨w, hw, rw'⟩ := atI_of r hd
          exact .inl ⟨a, vs, i, w, rfl, rfl, q, hw, P.now R rw'⟩
        · exact False.elim P
      · exact False.elim P
    | str z =>
      simp only at P
      split at P
      · rename_i hl
        split at P
        · rename_i c hc
          exact .inr (.inr ⟨z, i, c, rfl, rfl, by rw [← line_eq]; exact hl, hc, P.now R (.str _)⟩)
        · exact False.elim P
      · exact False.elim P
    | _ => exact False.elim P
  | _ => exact False.elim P
theorem r_ix (ha : PE X a (tE T W ma)) (hb : PE X b (tE T W mb)) (hs : PlainIx b := by exact fun _ _ => rfl) (hK : T.K = X.K := by rfl) : PE X (.Subscript a b pos) (tE T W (mOp2 ixD ma mb)) :=
  weakE (pe_ix (r := rIx T.K) (by rw [hK]; exact ix_seq) ha hb hs) fun _ _ _ h => op2_weak ix_M ix_no h
end
end MR

/-! M4: slices, calls of built-ins, of methods, of own defs. -/
namespace MR
open PySem PySem.Spec L2

/-! ### slices -/
def cutD (xs : List D) (lo hi : Option Int) : List D := (xs.drop (HT.sIx xs.length 0 lo)).take (HT.sIx xs.length xs.length hi - HT.sIx xs.length 0 lo)
def sliceD (x : D) (lo hi : Option Int) (S : Hs) : Res D := match x with
  | .tup xs => .ok (.tup (cutD xs lo hi)) S
  | .fz xs => .ok (.ref S.n) (S.new (.lst (cutD xs lo hi)))
  | .ref n => match listOf S n with
    | some xs => .ok (.ref S.n) (S.new (.lst (cutD xs lo hi)))
    | none => .bad
  | .str z => if z.length ≤ line then .ok (.str (cutS z lo hi)) S else .bad
  | _ => .bad
abbrev ExO := EnvD → Hs → Res (Option Int)
def mNoPart : ExO := fun _ S => .ok none S
def mPart (m : Ex) : ExO := fun env S => (m env S).bind fun d S1 => match d with
  | .int i => .ok (some i) S1
  | _ => .bad
def mSlice (m : Ex) (l h : ExO) : Ex := fun env S => (m env S).bind fun x S1 => (l env S1).bind fun lo S2 => (h env S2).bind fun hi S3 => sliceD x lo hi S3
section
variable (T : Ct)
def okO (φ : List Addr) (H : Hp) (Q : Option Int → Hp → Prop) : Option Int → Hs → Prop := fun o S' => ∀ φ' H', Up φ H φ' H' → RS T φ' S' H' → Q o H'
def tO (W : WX) (m : ExO) : TO := fun σ H Q => ∃ φ env S, RS T φ S H ∧ RE T φ H env σ ∧ Post (okO T φ H Q) (erE T W φ H σ) (m env S)
end
section
variable {X : Cx} {T : Ct} {W : WX} {pos p2 : Pos} {a b e : Expr} {m ma mb : Ex} {lo hi : Option Expr} {ml mh : ExO}
theorem weakO {X : Cx} {e : Option Expr} {t t' : TO} (h : PO X e t) (w : ∀ σ H Q, t' σ H Q → t σ H Q) : PO X e t' := ⟨fun pins s σ H Q I q => h.run pins s σ H Q I (w σ H Q q)⟩
theorem o_none : PO X none (tO T W mNoPart) := weakO po_none fun σ H Q ⟨φ, env, S, R, E, P⟩ => P φ H (Up.refl _ _) R
theorem o_some (h : PE X e (tE T W m)) : PO X (some e) (tO T W (mPart m)) := weakO (po_some h) fun σ H Q ⟨φ, env, S, R, E, P⟩ =>
  tE_bind R E P fun d S1 φ1 H1 v u R1 r1 E1 P1 => by
    cases r1 with
    | int i => exact ⟨i, rfl, P1 φ1 H1 u R1⟩
    | _ => exact False.elim P1
theorem tO_bind {φ : List Addr} {S : Hs} {H : Hp} {env : EnvD} {σ : L2.St} {α : Type} {ma : ExO} {k : Option Int → Hs → Res α} {ok : α → Hs → Prop} {Q : Option Int → Hp → Prop} (R : RS T φ S H) (E : RE T φ H env σ) (P : Post ok (erE T W φ H σ) ((ma env S).bind k))
    (h : ∀ d S1 φ1 H1, Up φ H φ1 H1 → RS T φ1 S1 H1 → RE T φ1 H1 env σ → Post ok (erE T W φ1 H1 σ) (k d S1) → Q d H1) : tO T W ma σ H Q :=
  ⟨φ, env, S, R, E, P.bind.mono (fun d S1 p φ1 H1 u R1 => h d S1 φ1 H1 u R1 (E.up R u) (p.mono (fun _ _ x => x) fun _ _ _ x => x.up u)) fun _ _ _ x => x⟩
theorem RVs.cut {φ : List Addr} {H : Hp} {ds : List D} {vs : List V} (r : RVs T φ H ds vs) (lo hi : Option Int) : RVs T φ H (cutD ds lo hi) (cutV vs lo hi) := by
  unfold cutD cutV
  rw [r.1]
  exact (r.drop _).take _
theorem r_slice (he : PE X e (tE T W m)) (hl : PO X lo (tO T W ml)) (hh : PO X hi (tO T W mh)) (hK : T.K = X.K := by rfl) : PE X (.Subscript e (.Slice lo hi none p2) pos) (tE T W (mSlice m ml mh)) := by
  have hr : SlR X (fun x l u H Q => rSlL T.K x l u H Q ∨ rSlA T.K x l u H Q ∨ (∃ z, x = V.str z ∧ z.length ≤ sizeLine ∧ Q (.str (cutS z l u)) H)) := by
    rw [hK]
    exact sl_list.or (sl_tupA.or sl_str)
  refine weakE (pe_slice hr he hl hh) fun σ H Q ⟨φ, env, S, R, E, P⟩ => ?_
  refine tE_bind R E P fun x S1 φ1 H1 v u1 R1 r1 E1 P1 => tO_bind R1 E1 P1 fun l S2 φ2 H2 u2 R2 E2 P2 => tO_bind R2 E2 P2 fun h S3 φ3 H3 u3 R3 E3 P3 => ?_
  have r3 := (r1.up R1 u2).up R2 u3
  have u := (u1.trans u2).trans u3
  unfold sliceD at P3
  cases r3 with
  | @tup xs a vs hq l' r' =>
    refine .inr (.inl ⟨a, vs, rfl, hq.sq, fun hw => ?_, fun _ => okE.newTup R3 (RVs.cut ⟨l', r'⟩ l h) (okE.up u P3)⟩)
    have e : cutD xs l h = xs := by
      unfold cutD
      rw [l', hw.1, hw.2]
      simp [← l']
    exact (okE.up u P3).now R3 (by rw [e]; exact .tup hq l' r')
  | @fz xs a vs hq l' r' => exact .inl ⟨a, vs, rfl, hq.sql, okE.newLst R3 (RVs.cut ⟨l', r'⟩ l h) (okE.up u P3)⟩
  | @ref n a hn =>
    simp only at P3
    split at P3
    · rename_i xs hx
      obtain ⟨vs, q, r⟩ := R3.listOf hn hx
      exact .inl ⟨a, vs, rfl, q, okE.newLst R3 (r.cut l h) (okE.up u P3)⟩
    · exact False.elim P3
  | str z =>
    simp only at P3
    split at P3
    · rename_i hl
      exact .inr (.inr ⟨z, rfl, by rw [← line_eq]; exact hl, (okE.up u P3).now R3 (.str _)⟩)
    · exact False.elim P3
  | _ => exact False.elim P3
/-! ### calls of built-ins -/
def mCall (f : List D → Hs → Res D) (ms : Exs) : Ex := fun env S => (ms env S).bind f
def CallM (T : Ct) (r : List V → Hp → VK → Prop) (f : List D → Hs → Res D) : Prop := ∀ {φ : List Addr} {S : Hs} {H : Hp} {ds : List D} {vs : List V} {Q : VK}, RS T φ S H → RVs T φ H ds vs → Post (okE T φ H Q) (fun _ _ _ => False) (f ds S) → r vs H Q
def NoErL (f : List D → Hs → Res D) : Prop := ∀ ds S c d S', f ds S ≠ .err c d S'
variable {x : Str} {p : Pos} {es : List Expr} {ms : Exs} {id Ty : String} {r : List V → Hp → VK → Prop} {f : List D → Hs → Res D}
theorem call_weak (hM : CallM T r f) (hn : NoErL f) {σ : L2.St} {H : Hp} {Q : VK} (h : tE T W (mCall f ms) σ H Q) : tCB r (tA T W ms) σ H Q := by
  obtain ⟨φ, env, S, R, E, P⟩ := h
  exact tA_bind R E P fun ds S1 φ1 H1 vs u R1 r1 E1 P1 => hM R1 r1 ((P1.upE u).noEr (hn ds S1))
theorem r_callB (hc : CallR X (.builtin id) r) (hM : CallM T r f) (hn : NoErL f) (hg : Gl X x) (hm : X.mg x = none) (hv : bootBuiltins x = some (.builtin id)) (ha : PA X (e :: es) (tA T W ms)) (hnn : x ≠ "__name__" := by decide) (hd : (x == ("__debug__" : Str)) = false := by decide)
    (he : starEach (e :: es) X.env = (false, eval e X.env) :: starEach es X.env := by rfl) (hpl : (backTo pos (starEach es X.env)).any (·.1) = false := by rfl) : PE X (.Call (.Name x p) (e :: es) [] pos) (tE T W (mCall f ms)) :=
  weakE (pe_callB hc hg hm hv ha hnn hd he hpl) fun _ _ _ h => call_weak hM hn h
theorem r_callTy (hc : CallR X (.type Ty) r) (hM : CallM T r f) (hn : NoErL f) (hg : Gl X x) (hm : X.mg x = none) (hv : bootBuiltins x = some (.type Ty)) (ha : PA X (e :: es) (tA T W ms)) (hnn : x ≠ "__name__" := by decide) (hd : (x == ("__debug__" : Str)) = false := by decide)
    (he : starEach (e :: es) X.env = (false, eval e X.env) :: starEach es X.env := by rfl) (hpl : (backTo pos (starEach es X.env)).any (·.1) = false := by rfl) : PE X (.Call (.Name x p) (e :: es) [] pos) (tE T W (mCall f ms)) :=
  weakE (pe_callTy hc hg hm hv ha hnn hd he hpl) fun _ _ _ h => call_weak hM hn h
end
/-! ### len, int, max, min, sum, all, list, tuple, str -/
def lenF (ds : List D) (S : Hs) : Res D := match ds with
  | [.str z] => if z.length ≤ line then .ok (.int z.length) S else .bad
  | [.tup xs] => .ok (.int xs.length) S
  | [.fz xs] => .ok (.int xs.length) S
  | [.ref n] => match listOf S n with
    | some xs => .ok (.int xs.length) S
    | none => .bad
  | _ => .bad
def intF (ds : List D) (S : Hs) : Res D := match ds with
  | [.int i] => .ok (.int i) S
  | [.bl b] => .ok (.int (if b then 1 else 0)) S
  | _ => .bad
def maxF (ds : List D) (S : Hs) : Res D := match ds with
  | [.int i, .int j] => .ok (.int (if j > i then j else i)) S
  | _ => .bad
def minF (ds : List D) (S : Hs) : Res D := match ds with
  | [.int i, .int j] => .ok (.int (if j < i then j else i)) S
  | _ => .bad
def intOf : D → Option Int
  | .int i => some i
  | _ => none
def blOf : D → Option Bool
  | .bl b => some b
  | _ => none
def sumF (ds : List D) (S : Hs) : Res D := match ds with
  | [.ref n] => match listOf S n with
    | some xs => match mapO intOf xs with
      | some is => .ok (.int is.sum) S
      | none => .bad
    | none => .bad
  | _ => .bad
def allF (ds : List D) (S : Hs) : Res D := match ds with
  | [.ref n] => match listOf S n with
    | some xs => match mapO blOf xs with
      | some bs => .ok (.bl (bs.all id)) S
      | none => .bad
    | none => .bad
  | _ => .bad
def listF (ds : List D) (S : Hs) : Res D := match ds with
  | [.tup xs] => .ok (.ref S.n) (S.new (.lst xs))
  | [.ref n] => match listOf S n with
    | some xs => .ok (.ref S.n) (S.new (.lst xs))
    | none => .bad
  | _ => .bad
def tupleF (ds : List D) (S : Hs) : Res D := match ds with
  | [.tup xs] => .ok (.tup xs) S
  | [.ref n] => match listOf S n with
    | some xs => .ok (.tup xs) S
    | none => .bad
  | _ => .bad
def strF (ds : List D) (S : Hs) : Res D := match ds with
  | [.int i] => if i.natAbs.log2 < 1920 then .ok (.str (toString i)) S else .bad
  | _ => .bad
theorem noErL_of {f : List D → Hs → Res D} (h : ∀ ds S c d S', f ds S = .err c d S' → False) : NoErL f := fun ds S c d S' e => h ds S c d S' e
theorem len_no : NoErL lenF := fun ds S c d S' h => by
  unfold lenF at h
  repeat' (first | cases h | split at h)
theorem int_noL : NoErL intF := fun ds S c d S' h => by
  unfold intF at h
  repeat' (first | cases h | split at h)
theorem max_no : NoErL maxF := fun ds S c d S' h => by
  unfold maxF at h
  split at h <;> cases h
theorem min_no : NoErL minF := fun ds S c d S' h => by
  unfold minF at h
  split at h <;> cases h
theorem sum_no : NoErL sumF := fun ds S c d S' h => by
  unfold sumF at h
  repeat' (first | cases h | split at h)
theorem all_no : NoErL allF := fun ds S c d S' h => by
  unfold allF at h
  repeat' (first | cases h | split at h)
theorem list_no : NoErL listF := fun ds S c d S' h => by
  unfold listF at h
  repeat' (first | cases h | split at h)
theorem tuple_no : NoErL tupleF := fun ds S c d S' h => by
  unfold tupleF at h
  repeat' (first | cases h | split at h)
theorem str_no : NoErL strF := fun ds S c d S' h => by
  unfold strF at h
  repeat' (first | cases h | split at h)
section
variable {T : Ct} {φ : List Addr} {H : Hp} {S : Hs}
theorem RVs.one {d : D} {vs : List V} (r : RVs T φ H [d] vs) : ∃ v, vs = [v] ∧ RV T φ H d v := by
  obtain ⟨v, us, rfl, r1, r2⟩ := r.inv_cons
  have e := r2.inv_nil
  subst e
  exact ⟨v, rfl, r1⟩
theorem RVs.two {d e : D} {vs : List V} (r : RVs T φ H [d, e] vs) : ∃ v u, vs = [v, u] ∧ RV T φ H d v ∧ RV T φ H e u := by
  obtain ⟨v, us, rfl, r1, r2⟩ := r.inv_cons
  obtain ⟨u, rfl, r3⟩ := r2.one
  exact ⟨v, u, rfl, r1, r3⟩
theorem mapO_ints : ∀ {ds : List D} {vs : List V} {is : List Int}, RVs T φ H ds vs → mapO intOf ds = some is → vs = is.map V.int
  | [], vs, is, r, e => by
    cases e
    exact r.inv_nil
  | d :: ds, vs, is, r, e => by
    obtain ⟨v, us, rfl, r1, r2⟩ := r.inv_cons
    unfold mapO at e
    split at e
    · rename_i y hy
      split at e
      · rename_i ys hys
        cases e
        rw [List.map_cons, mapO_ints r2 hys]
        cases r1 <;> first | (cases hy; rfl) | cases hy
      · cases e
    · cases e
theorem mapO_bls : ∀ {ds : List D} {vs : List V} {is : List Bool}, RVs T φ H ds vs → mapO blOf ds = some is → vs = is.map V.bl
  | [], vs, is, r, e => by
    cases e
    exact r.inv_nil
  | d :: ds, vs, is, r, e => by
    obtain ⟨v, us, rfl, r1, r2⟩ := r.inv_cons
    unfold mapO at e
    split at e
    · rename_i y hy
      split at e
      · rename_i ys hys
        cases e
        rw [List.map_cons, mapO_bls r2 hys]
        cases r1 <;> first | (cases hy; rfl) | cases hy
      · cases e
    · cases e
end
section
variable {T : Ct}
theorem len_M : CallM T (fun xs H Q => ∃ x n, xs = [x] ∧ LenV T.K x H n ∧ Q (.int n) H) lenF := by
  intro φ S H ds vs Q R r P
  unfold lenF at P
  split at P
  · obtain ⟨v, rfl, rv⟩ := r.one
    cases rv
    split at P
    · rename_i z hl
      exact ⟨_, z.length, rfl, ⟨by rw [← line_eq]; exact hl, rfl⟩, P.now R (.int _)⟩
    · exact False.elim P
  · obtain ⟨v, rfl, rv⟩ := r.one
    cases rv with
    | @tup xs a us h l q => exact ⟨_, us.length, rfl, .inr ⟨us, h.sq, rfl⟩, by rw [← l]; exact P.now R (.int _)⟩
  · obtain ⟨v, rfl, rv⟩ := r.one
    cases rv with
    | @fz xs a us h l q => exact ⟨_, us.length, rfl, .inl ⟨us, h.sql, rfl⟩, by rw [← l]; exact P.now R (.int _)⟩
  · obtain ⟨v, rfl, rv⟩ := r.one
    split at P
    · rename_i xs hx
      cases rv with
      | ref h =>
        obtain ⟨us, q, r'⟩ := R.listOf h hx
        exact ⟨_, us.length, rfl, .inl ⟨us, q, rfl⟩, by rw [← r'.1]; exact P.now R (.int _)⟩
    · exact False.elim P
  · exact False.elim P
theorem int_ML : CallM T (fun xs H Q => (∃ i, xs = [V.int i] ∧ Q (.int i) H) ∨ ∃ k, xs = [V.bl k] ∧ Q (.int (if k then 1 else 0)) H) intF := by
  intro φ S H ds vs Q R r P
  unfold intF at P
  split at P
  · obtain ⟨v, rfl, rv⟩ := r.one
    cases rv
    exact .inl ⟨_, rfl, P.now R (.int _)⟩
  · obtain ⟨v, rfl, rv⟩ := r.one
    cases rv
    exact .inr ⟨_, rfl, P.now R (.int _)⟩
  · exact False.elim P
theorem max_M : CallM T (fun xs H Q => ∃ i j, xs = [V.int i, V.int j] ∧ Q (.int (if j > i then j else i)) H) maxF := by
  intro φ S H ds vs Q R r P
  unfold maxF at P
  split at P
  · obtain ⟨v, u, rfl, r1, r2⟩ := r.two
    cases r1
    cases r2
    exact ⟨_, _, rfl, P.now R (.int _)⟩
  · exact False.elim P
theorem min_M : CallM T (fun xs H Q => ∃ i j, xs = [V.int i, V.int j] ∧ Q (.int (if j < i then j else i)) H) minF := by
  intro φ S H ds vs Q R r P
  unfold minF at P
  split at P
  · obtain ⟨v, u, rfl, r1, r2⟩ := r.two
    cases r1
    cases r2
    exact ⟨_, _, rfl, P.now R (.int _)⟩
  · exact False.elim P
theorem sum_M : CallM T (rSum T.K) sumF := by
  intro φ S H ds vs Q R r P
  unfold sumF at P
  split at P
  · obtain ⟨v, rfl, rv⟩ := r.one
    split at P
    · rename_i xs hx
      split at P
      · rename_i is his
        cases rv with
        | @ref n a h =>
          obtain ⟨us, q, r'⟩ := R.listOf h hx
          have e := mapO_ints r' his
          subst e
          exact ⟨a, is, rfl, q, P.now R (.int _)⟩
      · exact False.elim P
    · exact False.elim P
  · exact False.elim P
theorem all_M : CallM T (rAll T.K) allF := by
  intro φ S H ds vs Q R r P
  unfold allF at P
  split at P
  · obtain ⟨v, rfl, rv⟩ := r.one
    split at P
    · rename_i xs hx
      split at P
      · rename_i is his
        cases rv with
        | @ref n a h =>
          obtain ⟨us, q, r'⟩ := R.listOf h hx
          have e := mapO_bls r' his
          subst e
          exact ⟨a, is, rfl, q, P.now R (.bl _)⟩
      · exact False.elim P
    · exact False.elim P
  · exact False.elim P
theorem list_M : CallM T (fun xs H Q => ∃ p ys, xs = [V.ref p] ∧ (SqL T.K H p ys ∨ SqT T.K H p ys) ∧ ∀ l, H l = none → Q (.ref l) (upd H l (.lst ys))) listF := by
  intro φ S H ds vs Q R r P
  unfold listF at P
  split at P
  · obtain ⟨v, rfl, rv⟩ := r.one
    cases rv with
    | @tup xs a us h l q => exact ⟨a, us, rfl, .inr h.sq, okE.newLst R ⟨l, q⟩ P⟩
  · obtain ⟨v, rfl, rv⟩ := r.one
    split at P
    · rename_i xs hx
      cases rv with
      | @ref n a h =>
        obtain ⟨us, q, r'⟩ := R.listOf h hx
        exact ⟨a, us, rfl, .inl q, okE.newLst R r' P⟩
    · exact False.elim P
  · exact False.elim P
theorem tuple_M : CallM T (fun xs H Q => ∃ p ys, xs = [V.ref p] ∧ ((SqL T.K H p ys ∧ ∀ l, H l = none → Q (.ref l) (upd H l (.tup ys))) ∨ (SqT T.K H p ys ∧ Q (.ref p) H))) tupleF := by
  intro φ S H ds vs Q R r P
  unfold tupleF at P
  split at P
  · obtain ⟨v, rfl, rv⟩ := r.one
    cases rv with
    | @tup xs a us h l q => exact ⟨a, us, rfl, .inr ⟨h.sq, P.now R (.tup h l q)⟩⟩
  · obtain ⟨v, rfl, rv⟩ := r.one
    split at P
    · rename_i xs hx
      cases rv with
      | @ref n a h =>
        obtain ⟨us, q, r'⟩ := R.listOf h hx
        exact ⟨a, us, rfl, .inl ⟨q, okE.newTup R r' P⟩⟩
    · exact False.elim P
  · exact False.elim P
theorem str_M : CallM T (fun xs H Q => ∃ i, xs = [V.int i] ∧ i.natAbs.log2 < 1920 ∧ Q (.str (toString i)) H) strF := by
  intro φ S H ds vs Q R r P
  unfold strF at P
  split at P
  · obtain ⟨v, rfl, rv⟩ := r.one
    cases rv
    split at P
    · rename_i i hl
      exact ⟨i, rfl, hl, P.now R (.str _)⟩
    · exact False.elim P
  · exact False.elim P
end
/-! ### isinstance -/
def tyN (d : D) (S : Hs) : Option String := match d with
  | .non => some "NoneType"
  | .bl _ => some "bool"
  | .int _ => some "int"
  | .str _ => some "str"
  | .tup _ => some "tuple"
  | .ref n => match S.get n with
    | some (.lst _) => some "list"
    | some (.fro _) => some "list"
    | some (.dic _) => some "dict"
    | some (.dt _) => some "dict"
    | _ => none
  | _ => none
def kitBs (t : String) : List D → Option Bool
  | [] => some false
  | .ty n :: r => match kitB t n, kitBs t r with
    | some b, some c => some (b || c)
    | _, _ => none
  | _ :: _ => none
def isiF (ds : List D) (S : Hs) : Res D := match ds with
  | [x, .ty n] => match tyN x S with
    | some t => match kitB t n with
      | some b => .ok (.bl b) S
      | none => .bad
    | none => .bad
  | [x, .tup cs] => match tyN x S with
    | some t => match kitBs t cs with
      | some b => .ok (.bl b) S
      | none => .bad
    | none => .bad
  | _ => .bad
theorem isi_no : NoErL isiF := fun ds S c d S' h => by
  unfold isiF at h
  repeat' (first | cases h | split at h)
section
variable {T : Ct} {φ : List Addr} {H : Hp} {S : Hs}
theorem tyN_of (R : RS T φ S H) {d : D} {v : V} {t : String} (r : RV T φ H d v) (h : tyN d S = some t) : TyX T.K H v (.type t) := by
  cases r with
  | non => cases h; exact .base .non
  | bl b => cases h; exact .base (.bl b)
  | int i => cases h; exact .base (.int i)
  | str s => cases h; exact .base (.str s)
  | @tup ds a vs q l r =>
    cases h
    rcases q with q | ⟨o, its, n, q1, q2, _⟩
    · exact .base (.tup q)
    · exact .kTuple q1 q2
  | @ref n a q =>
    unfold tyN at h
    simp only at h
    split at h
    · rename_i xs hx
      cases h
      obtain ⟨vs, e, _⟩ := R.lst q hx
      exact .base (.lst e)
    · rename_i xs hx
      cases h
      cases R.cell n _ a hx q with
      | fro e _ => exact .base (.frz e)
    · rename_i xs hx
      cases h
      obtain ⟨o, vs, e, _⟩ := R.dic q hx
      exact .fDict e
    · rename_i xs hx
      cases h
      cases R.cell n _ a hx q with
      | dt e _ => exact .base (.dT e)
    · cases h
  | ty n => cases h
  | cls c => cases h
  | fz q l r => cases h
  | er q hd r => cases h
  | key q => cases h
theorem kits_of {t : String} : ∀ {cs : List D} {vs : List V} {b : Bool}, RVs T φ H cs vs → kitBs t cs = some b → ∃ us, Paired ClsV vs us ∧ PySem.W.kitAny T.K (.type t) us = some b
  | [], vs, b, r, h => by
    have e := r.inv_nil
    subst e
    cases h
    exact ⟨[], .nil, kitAny_nil⟩
  | c :: cs, vs, b, r, h => by
    obtain ⟨v, us, rfl, r1, r2⟩ := r.inv_cons
    cases r1 with
    | ty n =>
      have h' : (match kitB t n, kitBs t cs with
        | some b, some c => some (b || c)
        | _, _ => none) = some b := h
      split at h'
      · rename_i k c hk hc
        cases h'
        obtain ⟨ws, p, q⟩ := kits_of r2 hc
        refine ⟨.type n :: ws, .cons (.ty n) p, kitAny_cons (kit_ty hk) (fun z => ?_) (fun z => ?_)⟩
        · rw [z]
          exact q
        · rw [z]
          rfl
      · cases h'
    | _ => cases h
end
def rIsiU (K : PySem.W.Frag) : List V → Hp → VK → Prop := fun xs H Q => rIsi K xs H Q ∨ rIsiT K xs H Q ∨ rIsiK K xs H Q
theorem isi_M {T : Ct} : CallM T (rIsiU T.K) isiF := by
  intro φ S H ds vs Q R r P
  unfold isiF at P
  split at P
  · rename_i x n
    obtain ⟨v, u, rfl, r1, r2⟩ := r.two
    cases r2
    split at P
    · rename_i t ht
      split at P
      · rename_i b hb
        exact .inl ⟨v, .ty n, .type t, .type n, b, rfl, .ty n, tyN_of R r1 ht, kit_ty hb, P.now R (.bl b)⟩
      · exact False.elim P
    · exact False.elim P
  · rename_i x cs
    obtain ⟨v, u, rfl, r1, r2⟩ := r.two
    split at P
    · rename_i t ht
      split at P
      · rename_i b hb
        have q := P.now R (.bl b)
        cases r2 with
        | @tup ds tp us h l r' =>
          obtain ⟨ws, p, k⟩ := kits_of ⟨l, r'⟩ hb
          rcases h with h | ⟨o, its, n, h1, h2, h3, h4, h5⟩
          · exact .inr (.inl ⟨v, tp, us, .type t, ws, b, rfl, h, p, tyN_of R r1 ht, k, q⟩)
          · refine .inr (.inr ⟨v, tp, o.dict, its.toList, n, o.slots, .type t, b, rfl, ?_, tyN_of R r1 ht, ?_, q⟩)
            · rw [h1]
              cases o
              simp only at h2 h3
              subst h2 h3
              simp
            · rw [ClsV.all p h5]
              exact k
      · exact False.elim P
    · exact False.elim P
  · exact False.elim P
section
variable {X : Cx} {T : Ct} {W : WX} {pos p p2 : Pos} {e e2 : Expr} {ms : Exs} {x : Str}
/-- a built-in class as a value -/
theorem r_ty {n : String} (hg : Gl X x) (hm : X.mg x = none) (hv : bootBuiltins x = some (.type n)) (hn : x ≠ "__name__" := by decide) (hd : (x == ("__debug__" : Str)) = false := by decide) : PE X (.Name x pos) (tE T W (mC (.ty n))) :=
  weakE (pe_bltn (v := .ty n) hg hm hv rfl hn hd) fun _ _ _ h => tC_of (fun _ _ => .ty n) h
theorem r_len (hm : X.mg "len" = none) (ha : PA X [e] (tA T W ms)) (hg : Gl X "len" := by rfl) (hK : T.K = X.K := by rfl) (he : starEach [e] X.env = (false, eval e X.env) :: starEach [] X.env := by rfl) (hpl : (backTo pos (starEach [] X.env)).any (·.1) = false := by rfl) : PE X (.Call (.Name "len" p) [e] [] pos) (tE T W (mCall lenF ms)) :=
  r_callB (r := fun xs H Q => ∃ x n, xs = [x] ∧ LenV T.K x H n ∧ Q (.int n) H) (by rw [hK]; exact call_len) len_M len_no hg hm (by decide +kernel) ha (by decide) (by decide) he hpl
theorem r_intc (hm : X.mg "int" = none) (ha : PA X [e] (tA T W ms)) (hg : Gl X "int" := by rfl) (he : starEach [e] X.env = (false, eval e X.env) :: starEach [] X.env := by rfl) (hpl : (backTo pos (starEach [] X.env)).any (·.1) = false := by rfl) : PE X (.Call (.Name "int" p) [e] [] pos) (tE T W (mCall intF ms)) :=
  r_callTy call_int1 int_ML int_noL hg hm (by decide +kernel) ha (by decide) (by decide) he hpl
theorem r_strc (hm : X.mg "str" = none) (ha : PA X [e] (tA T W ms)) (hg : Gl X "str" := by rfl) (he : starEach [e] X.env = (false, eval e X.env) :: starEach [] X.env := by rfl) (hpl : (backTo pos (starEach [] X.env)).any (·.1) = false := by rfl) : PE X (.Call (.Name "str" p) [e] [] pos) (tE T W (mCall strF ms)) :=
  r_callTy call_str_int str_M str_no hg hm (by decide +kernel) ha (by decide) (by decide) he hpl
theorem r_max (hc : X.calm = true) (hm : X.mg "max" = none) (ha : PA X [e, e2] (tA T W ms)) (hg : Gl X "max" := by rfl) (he : starEach [e, e2] X.env = (false, eval e X.env) :: starEach [e2] X.env := by rfl) (hpl : (backTo pos (starEach [e2] X.env)).any (·.1) = false := by rfl) : PE X (.Call (.Name "max" p) [e, e2] [] pos) (tE T W (mCall maxF ms)) :=
  r_callB (call_max2 hc) max_M max_no hg hm (by decide +kernel) ha (by decide) (by decide) he hpl
theorem r_min (hc : X.calm = true) (hm : X.mg "min" = none) (ha : PA X [e, e2] (tA T W ms)) (hg : Gl X "min" := by rfl) (he : starEach [e, e2] X.env = (false, eval e X.env) :: starEach [e2] X.env := by rfl) (hpl : (backTo pos (starEach [e2] X.env)).any (·.1) = false := by rfl) : PE X (.Call (.Name "min" p) [e, e2] [] pos) (tE T W (mCall minF ms)) :=
  r_callB (call_min2 hc) min_M min_no hg hm (by decide +kernel) ha (by decide) (by decide) he hpl
theorem r_sum (hc : X.calm = true) (hm : X.mg "sum" = none) (ha : PA X [e] (tA T W ms)) (hg : Gl X "sum" := by rfl) (hK : T.K = X.K := by rfl) (he : starEach [e] X.env = (false, eval e X.env) :: starEach [] X.env := by rfl) (hpl : (backTo pos (starEach [] X.env)).any (·.1) = false := by rfl) : PE X (.Call (.Name "sum" p) [e] [] pos) (tE T W (mCall sumF ms)) :=
  r_callB (r := rSum T.K) (by rw [hK]; exact cr_sum hc) sum_M sum_no hg hm (by decide +kernel) ha (by decide) (by decide) he hpl
theorem r_all (hc : X.calm = true) (hm : X.mg "all" = none) (ha : PA X [e] (tA T W ms)) (hg : Gl X "all" := by rfl) (hK : T.K = X.K := by rfl) (he : starEach [e] X.env = (false, eval e X.env) :: starEach [] X.env := by rfl) (hpl : (backTo pos (starEach [] X.env)).any (·.1) = false := by rfl) : PE X (.Call (.Name "all" p) [e] [] pos) (tE T W (mCall allF ms)) :=
  r_callB (r := rAll T.K) (by rw [hK]; exact cr_all hc) all_M all_no hg hm (by decide +kernel) ha (by decide) (by decide) he hpl
theorem r_list (hm : X.mg "list" = none) (ha : PA X [e] (tA T W ms)) (hg : Gl X "list" := by rfl) (hK : T.K = X.K := by rfl) (he : starEach [e] X.env = (false, eval e X.env) :: starEach [] X.env := by rfl) (hpl : (backTo pos (starEach [] X.env)).any (·.1) = false := by rfl) : PE X (.Call (.Name "list" p) [e] [] pos) (tE T W (mCall listF ms)) :=
  r_callTy (r := fun xs H Q => ∃ p ys, xs = [V.ref p] ∧ (SqL T.K H p ys ∨ SqT T.K H p ys) ∧ ∀ l, H l = none → Q (.ref l) (upd H l (.lst ys))) (by rw [hK]; exact call_list_of) list_M list_no hg hm (by decide +kernel) ha (by decide) (by decide) he hpl
theorem r_tuple (hm : X.mg "tuple" = none) (ha : PA X [e] (tA T W ms)) (hg : Gl X "tuple" := by rfl) (hK : T.K = X.K := by rfl) (he : starEach [e] X.env = (false, eval e X.env) :: starEach [] X.env := by rfl) (hpl : (backTo pos (starEach [] X.env)).any (·.1) = false := by rfl) : PE X (.Call (.Name "tuple" p) [e] [] pos) (tE T W (mCall tupleF ms)) :=
  r_callTy (r := fun xs H Q => ∃ p ys, xs = [V.ref p] ∧ ((SqL T.K H p ys ∧ ∀ l, H l = none → Q (.ref l) (upd H l (.tup ys))) ∨ (SqT T.K H p ys ∧ Q (.ref p) H))) (by rw [hK]; exact call_tuple_of) tuple_M tuple_no hg hm (by decide +kernel) ha (by decide) (by decide) he hpl
theorem r_isi (hm : X.mg "isinstance" = none) (ha : PA X [e, e2] (tA T W ms)) (hg : Gl X "isinstance" := by rfl) (hK : T.K = X.K := by rfl) (he : starEach [e, e2] X.env = (false, eval e X.env) :: starEach [e2] X.env := by rfl) (hpl : (backTo pos (starEach [e2] X.env)).any (·.1) = false := by rfl) : PE X (.Call (.Name "isinstance" p) [e, e2] [] pos) (tE T W (mCall isiF ms)) :=
  r_callB (r := rIsiU T.K) (by rw [hK]; exact call_isi.or (call_isiT.or call_isiK)) isi_M isi_no hg hm (by decide +kernel) ha (by decide) (by decide) he hpl
end
/-! ### methods of built-in types -/
def tyD (Ty : String) (d : D) (S : Hs) : Bool := match d with
  | .str _ => Ty == "str"
  | .int _ => Ty == "int"
  | .ref n => match S.get n with
    | some (.lst _) => Ty == "list"
    | some (.fro _) => Ty == "list"
    | _ => false
  | _ => false
theorem tyD_of {T : Ct} {φ : List Addr} {H : Hp} {S : Hs} (R : RS T φ S H) {Ty : String} {d : D} {v : V} (r : RV T φ H d v) (h : tyD Ty d S = true) : tyV T.K Ty v H := by
  cases r with
  | str s => exact eq_of_beq h
  | int i => exact eq_of_beq h
  | @ref n a q =>
    unfold tyD at h
    simp only at h
    split at h
    · rename_i xs hx
      obtain ⟨vs, e, _⟩ := R.lst q hx
      exact .inl ⟨eq_of_beq h, vs, SqL.of e⟩
    · rename_i xs hx
      cases R.cell n _ a hx q with
      | fro e _ => exact .inl ⟨eq_of_beq h, _, .inl (.inr ⟨_, e⟩)⟩
    · cases h
  | _ => cases h
def mMeth (Ty : String) (g : D → List D → Hs → Res D) (m : Ex) (ms : Exs) : Ex := fun env S => (m env S).bind fun x S1 => if tyD Ty x S1 then (ms env S1).bind fun xs S2 => g x xs S2 else .bad
def MethM (T : Ct) (r : V → List V → Hp → VK → Prop) (g : D → List D → Hs → Res D) : Prop := ∀ {φ : List Addr} {S : Hs} {H : Hp} {x : D} {v : V} {ds : List D} {vs : List V} {Q : VK}, RS T φ S H → RV T φ H x v → RVs T φ H ds vs → Post (okE T φ H Q) (fun _ _ _ => False) (g x ds S) → r v vs H Q
def NoErM (g : D → List D → Hs → Res D) : Prop := ∀ x ds S c d S', g x ds S ≠ .err c d S'
section
variable {X : Cx} {T : Ct} {W : WX} {o e : Expr} {es : List Expr} {m : Ex} {ms : Exs} {name : Str} {apos cpos : Pos} {Ty id : String} {r : V → List V → Hp → VK → Prop} {g : D → List D → Hs → Res D}
theorem r_bm (pa : PlainAttrs Ty) (slot : Slot Ty name id) (hty : typeOf (.builtin id) = pure (.type "method_descriptor")) (hm : MtR X id r) (hM : MethM T r g) (hn : NoErM g) (ho : PE X o (tE T W m)) (ha : PA X (e :: es) (tA T W ms)) (hK : T.K = X.K := by rfl)
    (hbase : attributeBase o name X.env (eval o X.env) = eval o X.env := by rfl)
    (hfew : ((backTo cpos (starEach (e :: es) X.env)).all (fun x => !x.1) && (backToKw cpos (keywordEach [] X.env)).all (fun x => x.1.isSome)
      && decide ((e :: es).length + ([] : List Keyword).length + (if ([] : List Keyword).isEmpty then 0 else 1) < 30)) = true := by rfl)
    (hline : (apos.endLine == cpos.line) = true := by rfl) (hs : starEach (e :: es) X.env = (false, eval e X.env) :: starEach es X.env := by rfl) (hpl : (backTo cpos (starEach es X.env)).any (·.1) = false := by rfl) :
    PE X (.Call (.Attribute o name apos) (e :: es) [] cpos) (tE T W (mMeth Ty g m ms)) :=
  weakE (pe_bm pa slot hty hm ho ha hbase hfew hline hs hpl) fun σ H Q ⟨φ, env, S, R, E, P⟩ => tE_bind R E P fun x S1 φ1 H1 v u R1 r1 E1 P1 => by
    split at P1
    · rename_i ht
      exact ⟨by rw [← hK]; exact tyD_of R1 r1 ht, tA_bind R1 E1 P1 fun ds S2 φ2 H2 vs u2 R2 r2 E2 P2 => hM R2 (r1.up R1 u2) r2 ((P2.upE (u.trans u2)).noEr (hn x ds S2))⟩
    · exact False.elim P1
theorem r_bm0 (pa : PlainAttrs Ty) (slot : Slot Ty name id) (hty : typeOf (.builtin id) = pure (.type "method_descriptor")) (hm : MtR X id r) (hM : MethM T r g) (hn : NoErM g) (ho : PE X o (tE T W m)) (hK : T.K = X.K := by rfl)
    (hbase : attributeBase o name X.env (eval o X.env) = eval o X.env := by rfl)
    (hline : (apos.endLine == cpos.line) = true := by rfl) :
    PE X (.Call (.Attribute o name apos) [] [] cpos) (tE T W (mMeth Ty g m mNil)) :=
  weakE (pe_bm0 pa slot hty hm ho hbase hline) fun σ H Q ⟨φ, env, S, R, E, P⟩ => tE_bind R E P fun x S1 φ1 H1 v u R1 r1 E1 P1 => by
    split at P1
    · rename_i ht
      exact ⟨by rw [← hK]; exact tyD_of R1 r1 ht, hM R1 r1 .nil ((Post.upE u (show Post (okE T φ H Q) _ (g x [] S1) from P1)).noEr (hn x [] S1))⟩
    · exact False.elim P1
def appendG (x : D) (ds : List D) (S : Hs) : Res D := match x, ds with
  | .ref n, [y] => match S.get n with
    | some (.lst xs) => if xs.length < line then .ok .non (S.put n (.lst (xs ++ [y]))) else .bad
    | _ => .bad
  | _, _ => .bad
def popG (x : D) (ds : List D) (S : Hs) : Res D := match x, ds with
  | .ref n, [] => match S.get n with
    | some (.lst xs) => match xs[xs.length - 1]? with
      | some y => .ok y (S.put n (.lst xs.dropLast))
      | none => .bad
    | _ => .bad
  | _, _ => .bad
theorem append_no : NoErM appendG := fun x ds S c d S' h => by
  unfold appendG at h
  repeat' (first | cases h | split at h)
theorem pop_no : NoErM popG := fun x ds S c d S' h => by
  unfold popG at h
  repeat' (first | cases h | split at h)
theorem append_M : MethM T rAppend appendG := by
  intro φ S H x v ds vs Q R rx r P
  unfold appendG at P
  split at P
  · rename_i n y
    split at P
    · rename_i xs hx
      split at P
      · rename_i hl
        obtain ⟨w, rfl, rw'⟩ := r.one
        cases rx with
        | @ref n a h =>
          obtain ⟨us, q, r'⟩ := R.lst h hx
          have r2 : RVs T φ H (xs ++ [y]) (us ++ [w]) := r'.append (.cons rw' .nil)
          obtain ⟨R', U⟩ := R.put (o := .lst (us ++ [w])) (c := .lst (xs ++ [y])) hx h (lst_nf q) fun φ' H' u z => .lst z (r2.up R u)
          exact ⟨a, us, w, rfl, rfl, q, by rw [← r'.1, ← line_eq]; exact hl, P _ _ _ U R' .non⟩
      · exact False.elim P
    · exact False.elim P
  · exact False.elim P
theorem RVs.dropLast {φ : List Addr} {H : Hp} {ds : List D} {vs : List V} (r : RVs T φ H ds vs) : RVs T φ H ds.dropLast vs.dropLast := by
  rw [List.dropLast_eq_take, List.dropLast_eq_take, r.1]
  exact r.take _
theorem pop_M : MethM T rPop popG := by
  intro φ S H x v ds vs Q R rx r P
  unfold popG at P
  split at P
  · rename_i n
    split at P
    · rename_i xs hx
      split at P
      · rename_i y hy
        have e := r.inv_nil
        subst e
        cases rx with
        | @ref n a h =>
          obtain ⟨us, q, r'⟩ := R.lst h hx
          obtain ⟨w, hw, rw'⟩ := r'.get hy
          obtain ⟨R', U⟩ := R.put (o := .lst us.dropLast) (c := .lst xs.dropLast) hx h (lst_nf q) fun φ' H' u z => .lst z (r'.dropLast.up R u)
          exact ⟨a, us, w, rfl, rfl, q, by rw [← r'.1]; exact hw, P _ _ _ U R' (rw'.up R U)⟩
      · exact False.elim P
    · exact False.elim P
  · exact False.elim P
theorem r_append (ho : PE X o (tE T W m)) (ha : PA X [e] (tA T W ms)) (hK : T.K = X.K := by rfl) (hbase : attributeBase o "append" X.env (eval o X.env) = eval o X.env := by rfl)
    (hfew : ((backTo cpos (starEach [e] X.env)).all (fun x => !x.1) && (backToKw cpos (keywordEach [] X.env)).all (fun x => x.1.isSome)
      && decide ([e].length + ([] : List Keyword).length + (if ([] : List Keyword).isEmpty then 0 else 1) < 30)) = true := by rfl)
    (hline : (apos.endLine == cpos.line) = true := by rfl) (hs : starEach [e] X.env = (false, eval e X.env) :: starEach [] X.env := by rfl) (hpl : (backTo cpos (starEach [] X.env)).any (·.1) = false := by rfl) :
    PE X (.Call (.Attribute o "append" apos) [e] [] cpos) (tE T W (mMeth "list" appendG m ms)) :=
  r_bm PySem.F.plainAttrs_list PySem.F.slot_list_append PySem.F.type_list_append mt_append append_M append_no ho ha hK hbase hfew hline hs hpl
theorem r_pop0 (ho : PE X o (tE T W m)) (hK : T.K = X.K := by rfl) (hbase : attributeBase o "pop" X.env (eval o X.env) = eval o X.env := by rfl) (hline : (apos.endLine == cpos.line) = true := by rfl) :
    PE X (.Call (.Attribute o "pop" apos) [] [] cpos) (tE T W (mMeth "list" popG m mNil)) :=
  r_bm0 PySem.F.plainAttrs_list PySem.F.slot_list_pop PySem.F.type_list_pop mt_pop pop_M pop_no ho hK hbase hline
/-- a.bit_length() -/
theorem r_bits {pos : Pos} (ho : PE X o (tE T W m)) (hbase : attributeBase o "bit_length" X.env (eval o X.env) = eval o X.env := by rfl) (hline : (apos.endLine == pos.line) = true := by rfl) : PE X (.Call (.Attribute o "bit_length" apos) [] [] pos) (tE T W (mBits m)) :=
  weakE (pe_bits ho hbase hline) fun σ H Q ⟨φ, env, S, R, E, P⟩ => tE_bind R E P fun d S1 φ1 H1 v u R1 r1 E1 P1 => by
    cases r1 with
    | int i => exact ⟨i, rfl, P1 φ1 H1 _ u R1 (.int _)⟩
    | _ => exact False.elim P1
end
end MR

/-! M5: targets, what is walked, statements, loops. -/
namespace MR
open PySem PySem.Spec L2 RZ

/-! ### targets: the slots that are stored -/
abbrev Bnd := D → Option (List (Nat × D))
def apD (env : EnvD) (ups : List (Nat × D)) : EnvD := ups.foldl (fun e p => e.set p.1 (some p.2)) env
def apV (σ : L2.St) (ups : List (Nat × V)) : L2.St := ups.foldl (fun e p => e.set p.1 (some p.2)) σ
def bName (i : Nat) : Bnd := fun d => some [(i, d)]
def bTup (is : List Nat) : Bnd := fun d => match d with
  | .tup ds => if ds.length = is.length then some (is.zip ds) else none
  | _ => none
section
variable (T : Ct)
def RU (φ : List Addr) (H : Hp) (us : List (Nat × D)) (vs : List (Nat × V)) : Prop := us.map (·.1) = vs.map (·.1) ∧ RVs T φ H (us.map (·.2)) (vs.map (·.2))
def TgOk (g : TG) (b : Bnd) : Prop := ∀ {φ : List Addr} {S : Hs} {H : Hp} {d : D} {v : V} {σ : L2.St} {Q : L2.St → Hp → Prop} {us : List (Nat × D)}, RS T φ S H → RV T φ H d v → b d = some us → (∀ vs, RU T φ H us vs → Q (apV σ vs) H) → g v σ H Q
end
section
variable {T : Ct} {φ : List Addr} {S : Hs} {H : Hp}
theorem RE.set {env : EnvD} {σ : L2.St} (E : RE T φ H env σ) {d : D} {v : V} (r : RV T φ H d v) (i : Nat) : RE T φ H (env.set i (some d)) (σ.set i (some v)) := by
  refine ⟨by simp [E.1], fun j e h => ?_⟩
  by_cases hj : i = j
  · subst hj
    by_cases hi : i < env.length
    · rw [List.getElem?_set_self hi] at h
      cases h
      exact ⟨v, List.getElem?_set_self (by rw [← E.1]; exact hi), .rv r⟩
    · rw [List.getElem?_eq_none (by simpa using hi)] at h
      cases h
  · rw [List.getElem?_set_ne hj] at h
    obtain ⟨u, h1, h2⟩ := E.2 j e h
    exact ⟨u, by rw [List.getElem?_set_ne hj]; exact h1, h2⟩
theorem RE.ap {us : List (Nat × D)} : ∀ {vs : List (Nat × V)} {env : EnvD} {σ : L2.St}, RE T φ H env σ → RU T φ H us vs → RE T φ H (apD env us) (apV σ vs) := by
  induction us with
  | nil =>
    intro vs env σ E u
    have e : vs = [] := by
      have := u.1
      simp at this
      exact this
    subst e
    exact E
  | cons p us ih =>
    intro vs env σ E u
    cases vs with
    | nil => have := u.1; simp at this
    | cons q vs =>
      have h1 := u.1
      simp only [List.map_cons, List.cons.injEq] at h1
      obtain ⟨v, ws, e1, r1, r2⟩ := RVs.inv_cons (d := p.2) (ds := us.map (·.2)) u.2
      simp only [List.map_cons, List.cons.injEq] at e1
      obtain ⟨e1, e2⟩ := e1
      subst e1
      refine ih (env := env.set p.1 (some p.2)) (σ := σ.set q.1 (some q.2)) ?_ ⟨h1.2, by rw [e2]; exact r2⟩
      rw [← h1.1]
      exact E.set r1 p.1
theorem tg_name {i : Nat} : TgOk T (gName i) (bName i) := by
  intro φ S H d v σ Q us R r hb h
  cases hb
  exact h [(i, v)] ⟨rfl, .cons r .nil⟩
/-- the targets of a tuple, one after another -/
def gNames : List Nat → TGs
  | [] => gNil
  | i :: is => gCons (gName i) (gNames is)
theorem gNames_ok : ∀ {is : List Nat} {ds : List D} {vs : List V} {σ : L2.St} {Q : L2.St → Hp → Prop}, RVs T φ H ds vs → ds.length = is.length → (∀ ws, RU T φ H (is.zip ds) ws → Q (apV σ ws) H) → gNames is vs σ H Q
  | [], ds, vs, σ, Q, r, hl, h => by
    have e : ds = [] := List.length_eq_zero_iff.mp hl
    subst e
    have e := r.inv_nil
    subst e
    exact ⟨rfl, h [] ⟨rfl, .nil⟩⟩
  | i :: is, ds, vs, σ, Q, r, hl, h => by
    cases ds with
    | nil => simp at hl
    | cons d ds =>
      obtain ⟨v, us, rfl, r1, r2⟩ := r.inv_cons
      refine ⟨v, us, rfl, ?_⟩
      refine gNames_ok (is := is) r2 (by simpa using hl) fun ws hw => ?_
      exact h ((i, v) :: ws) ⟨by simp [hw.1], .cons r1 hw.2⟩
theorem tg_tup {is : List Nat} : TgOk T (gTup T.K is.length (gNames is)) (bTup is) := by
  intro φ S H d v σ Q us R r hb h
  unfold bTup at hb
  split at hb
  · rename_i ds
    split at hb
    · rename_i hl
      cases hb
      cases r with
      | @tup ds a vs q l r' => exact ⟨a, vs, rfl, q.sq, by rw [← l]; exact hl, gNames_ok ⟨l, r'⟩ hl h⟩
    · cases hb
  · cases hb
end
/-! ### what is walked -/
inductive DI where
  | lst (n : Nat) | tup (xs : List D) | rng (lo : Int) (n : Nat) | str (z : Str) | zipL (n m : Nat) | zipT (xs ys : List D) | keys (n : Nat) (ks : List Key) | keysT (ks : List (List Key))
def kD : Key → D
  | .inl i => .int i
  | .inr x => .str x
theorem kD_rv {T : Ct} {φ : List Addr} {H : Hp} (k : Key) : RV T φ H (kD k) (kV k) := by
  cases k with
  | inl i => exact .int i
  | inr x => exact .str x
theorem kDs_rv {T : Ct} {φ : List Addr} {H : Hp} : ∀ ks : List Key, RVs T φ H (ks.map kD) (ks.map kV)
  | [] => .nil
  | k :: ks => .cons (kD_rv k) (kDs_rv ks)
def pairAt (xs ys : List D) (i : Nat) : Option D := match xs[i]?, ys[i]? with
  | some x, some y => some (.tup [x, y])
  | _, _ => none
/-- at turn i: an item, the end, or no word -/
def DI.next (di : DI) (i : Nat) (S : Hs) : Option (Option D) := match di with
  | .lst n => match listOf S n with
    | some xs => some xs[i]?
    | none => none
  | .tup xs => some xs[i]?
  | .rng lo n => some (if i < n then some (.int (lo + i)) else none)
  | .str z => some (match z.cps[i]? with
    | some c => some (.str ⟨#[c]⟩)
    | none => none)
  | .zipL n m => match listOf S n, listOf S m with
    | some xs, some ys => some (pairAt xs ys i)
    | _, _ => none
  | .zipT xs ys => some (pairAt xs ys i)
  | .keys _ ks => some (ks[i]?.map kD)
  | .keysT ks => some (ks[i]?.map .key)
def DI.size (di : DI) (S : Hs) : Nat := match di with
  | .lst n => match listOf S n with
    | some xs => xs.length
    | none => 0
  | .tup xs => xs.length
  | .rng _ n => n
  | .str z => z.cps.size
  | .zipL n _ => match listOf S n with
    | some xs => xs.length
    | none => 0
  | .zipT xs _ => xs.length
  | .keys _ ks => ks.length
  | .keysT ks => ks.length
abbrev ExI := EnvD → Hs → Res DI
section
variable (T : Ct)
inductive ItR (φ : List Addr) (H : Hp) : DI → It → Prop where
  | lst {n : Nat} {a : Addr} (h : φ[n]? = some a) : ItR φ H (.lst n) (Itl T.K a)
  | tup {xs : List D} {a : Addr} {vs : List V} (h : Tp T.K H a vs) (r : RVs T φ H xs vs) : ItR φ H (.tup xs) (Itt T.K a)
  | rng (lo : Int) (n : Nat) : ItR φ H (.rng lo n) (Itr lo n)
  | str (z : Str) : ItR φ H (.str z) (Its z)
  | zipL {n m : Nat} {a b : Addr} (h : φ[n]? = some a) (h' : φ[m]? = some b) : ItR φ H (.zipL n m) (Itz T.K a b)
  | zipT {xs ys : List D} {a b : Addr} {vs us : List V} (h : Tp T.K H a vs) (r : RVs T φ H xs vs) (h' : Tp T.K H b us) (r' : RVs T φ H ys us) : ItR φ H (.zipT xs ys) (ItzT T.K a b)
  | keys {n : Nat} {ks : List Key} {a : Addr} {o : Obj} {kvs : List (Key × V)} (h : H a = some (.frz o (.dK kvs))) (e : kvs.map (·.1) = ks) : ItR φ H (.keys n ks) (Itk a o kvs)
  | keysT {ks : List (List Key)} {a : Addr} {o : Obj} {kvs : List (List Key × V)} (h : H a = some (.frz o (.dT kvs))) (e : kvs.map (·.1) = ks) : ItR φ H (.keysT ks) (Itkt a o kvs)
def okI (φ : List Addr) (H : Hp) (Q : It → Hp → Prop) : DI → Hs → Prop := fun di S' => ∀ φ' H' J, Up φ H φ' H' → RS T φ' S' H' → ItR T φ' H' di J → Q J H'
def tI (W : WX) (m : ExI) : TI := fun σ H R => ∃ φ env S, RS T φ S H ∧ RE T φ H env σ ∧ Post (okI T φ H R) (erE T W φ H σ) (m env S)
end
section
variable {T : Ct} {φ φ' : List Addr} {S S' : Hs} {H H' : Hp}
theorem ItR.up {di : DI} {J : It} (R : RS T φ S H) (u : Up φ H φ' H') (h : ItR T φ H di J) : ItR T φ' H' di J := by
  cases h with
  | lst h => exact .lst (u.at_ h)
  | tup h r => exact .tup (R.tp u h) (r.up R u)
  | rng lo n => exact .rng lo n
  | str z => exact .str z
  | zipL h h' => exact .zipL (u.at_ h) (u.at_ h')
  | zipT h r h' r' => exact .zipT (R.tp u h) (r.up R u) (R.tp u h') (r'.up R u)
  | keys h e => exact .keys (u.frz _ _ _ rfl h) e
  | keysT h e => exact .keysT (u.frz _ _ _ rfl h) e
/-- what the walked thing's turn is, by the cells -/
theorem ItR.stop {di : DI} {J : It} {i : Nat} (R : RS T φ S H) (I : ItR T φ H di J) (h : di.next i S = some none) : J.stop i H := by
  cases I with
  | @lst n a ha =>
    unfold DI.next at h
    simp only at h
    split at h
    · rename_i xs hx
      obtain ⟨vs, q, r⟩ := R.listOf ha hx
      exact ⟨vs, q, by rw [← r.1]; exact List.getElem?_eq_none_iff.mp (Option.some.inj h)⟩
    · cases h
  | tup ha r =>
    have h' := Option.some.inj h
    exact ⟨_, ha.sq, by rw [← r.1]; exact List.getElem?_eq_none_iff.mp h'⟩
  | rng lo n =>
    have h' := Option.some.inj h
    split at h'
    · cases h'
    · rename_i hn
      show n ≤ i
      omega
  | str z =>
    have h' := Option.some.inj h
    split at h'
    · cases h'
    · rename_i hc
      show z.cps.size ≤ i
      exact Array.getElem?_eq_none_iff.mp hc
  | @zipL n m a b ha hb =>
    unfold DI.next at h
    simp only at h
    split at h
    · rename_i xs ys hx hy
      obtain ⟨vs, q, r⟩ := R.listOf ha hx
      obtain ⟨us, q', r'⟩ := R.listOf hb hy
      have h' := Option.some.inj h
      refine ⟨vs, us, q, q', ?_⟩
      unfold pairAt at h'
      rw [← r.1, ← r'.1]
      cases e1 : xs[i]? with
      | none => exact .inl (List.getElem?_eq_none_iff.mp e1)
      | some x =>
        cases e2 : ys[i]? with
        | none => exact .inr (List.getElem?_eq_none_iff.mp e2)
        | some y => rw [e1, e2] at h'; cases h'
    · cases h
  | @zipT xs ys a b vs us ha r hb r' =>
    have h' : pairAt xs ys i = none := Option.some.inj h
    refine ⟨vs, us, ha.sq, hb.sq, ?_⟩
    unfold pairAt at h'
    rw [← r.1, ← r'.1]
    cases e1 : xs[i]? with
    | none => exact .inl (List.getElem?_eq_none_iff.mp e1)
    | some x =>
      cases e2 : ys[i]? with
      | none => exact .inr (List.getElem?_eq_none_iff.mp e2)
      | some y => rw [e1, e2] at h'; cases h'
  | @keys n ks a o kvs ha e =>
    refine ⟨ha, ?_⟩
    have h' : ks[i]?.map kD = none := Option.some.inj h
    rw [← e, List.getElem?_map] at h'
    cases e1 : kvs[i]? with
    | none => exact List.getElem?_eq_none_iff.mp e1
    | some x => rw [e1] at h'; cases h'
  | @keysT ks a o kvs ha e =>
    refine ⟨ha, ?_⟩
    have h' : ks[i]?.map D.key = none := Option.some.inj h
    rw [← e, List.getElem?_map] at h'
    cases e1 : kvs[i]? with
    | none => exact List.getElem?_eq_none_iff.mp e1
    | some x => rw [e1] at h'; cases h'
theorem pairAt_some {xs ys : List D} {i : Nat} {d : D} (h : pairAt xs ys i = some d) : ∃ x y, xs[i]? = some x ∧ ys[i]? = some y ∧ d = .tup [x, y] := by
  unfold pairAt at h
  split at h
  · rename_i x y e1 e2
    cases h
    exact ⟨x, y, e1, e2, rfl⟩
  · cases h
theorem ItR.go {di : DI} {J : It} {i : Nat} {d : D} (R : RS T φ S H) (I : ItR T φ H di J) (h : di.next i S = some (some d)) :
    J.go i H ∧ ∀ x H', J.yld i H x H' → Up φ H φ H' ∧ RS T φ S H' ∧ RV T φ H' d x := by
  cases I with
  | @lst n a ha =>
    unfold DI.next at h
    simp only at h
    split at h
    · rename_i xs hx
      obtain ⟨vs, q, r⟩ := R.listOf ha hx
      obtain ⟨v, hv, rv⟩ := r.get (Option.some.inj h)
      refine ⟨⟨vs, v, q, hv⟩, fun x H' y => ?_⟩
      obtain ⟨rfl, y⟩ := y
      have e := y vs q
      rw [hv] at e
      cases e
      exact ⟨Up.refl _ _, R, rv⟩
    · cases h
  | @tup xs a vs ha r =>
    obtain ⟨v, hv, rv⟩ := r.get (Option.some.inj h)
    refine ⟨⟨vs, v, ha.sq, hv⟩, fun x H' y => ?_⟩
    obtain ⟨rfl, y⟩ := y
    have e := y vs ha.sq
    rw [hv] at e
    cases e
    exact ⟨Up.refl _ _, R, rv⟩
  | rng lo n =>
    have h' := Option.some.inj h
    split at h'
    · rename_i hn
      cases h'
      refine ⟨hn, fun x H' y => ?_⟩
      obtain ⟨rfl, rfl⟩ := y
      exact ⟨Up.refl _ _, R, .int _⟩
    · cases h'
  | str z =>
    have h' := Option.some.inj h
    split at h'
    · rename_i c hc
      cases h'
      refine ⟨(Array.getElem?_eq_some_iff.mp hc).1, fun x H' y => ?_⟩
      obtain ⟨rfl, c', hc', rfl⟩ := y
      rw [hc] at hc'
      cases hc'
      exact ⟨Up.refl _ _, R, .str _⟩
    · cases h'
  | @zipL n m a b ha hb =>
    unfold DI.next at h
    simp only at h
    split at h
    · rename_i xs ys hx hy
      obtain ⟨vs, q, r⟩ := R.listOf ha hx
      obtain ⟨us, q', r'⟩ := R.listOf hb hy
      obtain ⟨x, y, e1, e2, rfl⟩ := pairAt_some (Option.some.inj h)
      obtain ⟨v, hv, rv⟩ := r.get e1
      obtain ⟨u, hu, ru⟩ := r'.get e2
      refine ⟨⟨vs, us, v, u, q, q', hv, hu⟩, fun w H' z => ?_⟩
      obtain ⟨Tt, v', u', rfl, hT, rfl, f1, f2⟩ := z
      have e1 := f1 vs q
      have e2 := f2 us q'
      rw [hv] at e1
      rw [hu] at e2
      cases e1
      cases e2
      obtain ⟨R', U⟩ := R.laid (o := .tup [v, u]) hT
      have rr := (RVs.cons rv (.cons ru .nil)).up R U
      exact ⟨U, R', .tup (.inl upd_same) rr.1 rr.2⟩
    · cases h
  | @zipT xs ys a b vs us ha r hb r' =>
    obtain ⟨x, y, e1, e2, rfl⟩ := pairAt_some (Option.some.inj h)
    obtain ⟨v, hv, rv⟩ := r.get e1
    obtain ⟨u, hu, ru⟩ := r'.get e2
    refine ⟨⟨vs, us, v, u, ha.sq, hb.sq, hv, hu⟩, fun w H' z => ?_⟩
    obtain ⟨Tt, v', u', rfl, hT, rfl, f1, f2⟩ := z
    have e1 := f1 vs ha.sq
    have e2 := f2 us hb.sq
    rw [hv] at e1
    rw [hu] at e2
    cases e1
    cases e2
    obtain ⟨R', U⟩ := R.laid (o := .tup [v, u]) hT
    have rr := (RVs.cons rv (.cons ru .nil)).up R U
    exact ⟨U, R', .tup (.inl upd_same) rr.1 rr.2⟩
  | @keys n ks a o kvs ha e =>
    have h' : ks[i]?.map kD = some d := Option.some.inj h
    rw [← e, List.getElem?_map] at h'
    cases e1 : kvs[i]? with
    | none => rw [e1] at h'; cases h'
    | some p =>
      rw [e1] at h'
      cases h'
      refine ⟨⟨ha, (List.getElem?_eq_some_iff.mp e1).1⟩, fun x H' y => ?_⟩
      obtain ⟨rfl, k, v, e2, rfl⟩ := y
      rw [e1] at e2
      cases e2
      exact ⟨Up.refl _ _, R, kD_rv k⟩
  | @keysT ks a o kvs ha e =>
    have h' : ks[i]?.map D.key = some d := Option.some.inj h
    rw [← e, List.getElem?_map] at h'
    cases e1 : kvs[i]? with
    | none => rw [e1] at h'; cases h'
    | some p =>
      rw [e1] at h'
      cases h'
      refine ⟨⟨ha, (List.getElem?_eq_some_iff.mp e1).1⟩, fun x H' y => ?_⟩
      obtain ⟨rfl, k, v, q, e2, rfl, hq⟩ := y
      rw [e1] at e2
      cases e2
      exact ⟨Up.refl _ _, R, .key hq⟩
end
/-- a list, a tuple or a text, whichever it is -/
def iAny (K : PySem.W.Frag) (te : TE) : TI := fun σ H R => te σ H fun x H1 => (∃ a, x = .ref a ∧ (∃ xs, SqL K H1 a xs) ∧ R (Itl K a) H1) ∨ (∃ a, x = .ref a ∧ (∃ xs, SqT K H1 a xs) ∧ R (Itt K a) H1) ∨ ∃ z, x = .str z ∧ R (Its z) H1
theorem pi_any {X : Cx} {tg l : Expr} {te : TE} (hl : PE X l te) : PI X tg l (iAny X.K te) := by
  constructor
  intro ps t st hp G I h
  refine thn (hl.run ps t st hp _ I h) fun v t1 ⟨x, hp1, J, rel, which⟩ => ?_
  rcases which with ⟨a, is, ⟨xs, seq⟩, q⟩ | ⟨a, is, ⟨xs, seq⟩, q⟩ | ⟨z, is, q⟩ <;> subst is
  · cases rel
    have ⟨its, _, at_, _⟩ := J.list seq
    exact wpAny_pyIter_list at_.isList (pi_one (tk := t1.toks) J _ (turn_list a _) ⟨_, Heap.get?_push_size _ rfl, rfl, rfl⟩ q)
  · cases rel
    have ⟨its, _, at_, _⟩ := J.tuple seq
    exact wpAny_pyIter_tuple (show t1.heap.IsTuple a its.toArray from at_) (pi_one (tk := t1.toks) J _ (turn_tuple a _) ⟨_, Heap.get?_push_size _ rfl, rfl, rfl⟩ q)
  · have ⟨t, e⟩ := rel
    subst e
    cases ha : z.cps.all (· < 128)
    · exact wpAny_pyIter_wide ha (pi_one (tk := t1.toks) J _ (turn_str _ z t "str_iterator" (.inr rfl)) ⟨_, Heap.get?_push_size _ rfl, rfl, rfl⟩ q)
    · exact wpAny_pyIter_ascii ha (pi_one (tk := t1.toks) J _ (turn_str _ z t "str_ascii_iterator" (.inl rfl)) ⟨_, Heap.get?_push_size _ rfl, rfl, rfl⟩ q)
theorem weakI {X : Cx} {tg e : Expr} {t t' : TI} (h : PI X tg e t) (w : ∀ σ H Q, t' σ H Q → t σ H Q) : PI X tg e t' := ⟨fun pins s σ H Q I q => h.run pins s σ H Q I (w σ H Q q)⟩
def mIter (m : Ex) : ExI := fun env S => (m env S).bind fun d S1 => match d with
  | .tup xs => .ok (.tup xs) S1
  | .ref n => match listOf S1 n with
    | some _ => .ok (.lst n) S1
    | none => .bad
  | .str z => .ok (.str z) S1
  | _ => .bad
def mRange1 (ms : Exs) : ExI := fun env S => (ms env S).bind fun ds S1 => match ds with
  | [.int j] => if -(2 ^ 62) ≤ j ∧ j < 2 ^ 62 then .ok (.rng 0 j.toNat) S1 else .bad
  | _ => .bad
def mRange2 (ms : Exs) : ExI := fun env S => (ms env S).bind fun ds S1 => match ds with
  | [.int i, .int j] => if -(2 ^ 62) ≤ i ∧ i < 2 ^ 62 ∧ -(2 ^ 62) ≤ j ∧ j < 2 ^ 62 then .ok (.rng i (j - i).toNat) S1 else .bad
  | _ => .bad
def mZip (ms : Exs) : ExI := fun env S => (ms env S).bind fun ds S1 => match ds with
  | [.ref n, .ref m] => match listOf S1 n, listOf S1 m with
    | some _, some _ => .ok (.zipL n m) S1
    | _, _ => .bad
  | [.tup xs, .tup ys] => .ok (.zipT xs ys) S1
  | _ => .bad
section
variable {X : Cx} {T : Ct} {W : WX} {tg e a b : Expr} {m : Ex} {ms : Exs} {p pos tpos : Pos}
/-- the keys of a dict -/
def mKeys (m : Ex) : ExI := fun env S => (m env S).bind fun d S1 => match d with
  | .ref n => match S1.get n with
    | some (.dic kvs) => .ok (.keys n (kvs.map (·.1))) S1
    | _ => .bad
  | _ => .bad
theorem RKs.keys {T : Ct} {φ : List Addr} {H : Hp} {ds : List (Key × D)} {vs : List (Key × V)} (r : RKs T φ H ds vs) : vs.map (·.1) = ds.map (·.1) := by
  refine List.ext_getElem? fun i => ?_
  rw [List.getElem?_map, List.getElem?_map]
  cases e1 : ds[i]? with
  | none => rw [List.getElem?_eq_none (by rw [← r.1]; exact List.getElem?_eq_none_iff.mp e1)] <;> rfl
  | some p =>
    have hl : i < vs.length := by rw [← r.1]; exact (List.getElem?_eq_some_iff.mp e1).1
    have e2 := List.getElem?_eq_getElem hl
    rw [e2]
    exact congrArg some (r.2 i _ _ e1 e2).1.symm
theorem i_keys (h : PE X e (tE T W m)) : PI X tg e (tI T W (mKeys m)) := weakI (pi_keys h) fun σ H Q ⟨φ, env, S, R, E, P⟩ =>
  tE_bind R E P fun d S1 φ1 H1 v u R1 r1 E1 P1 => by
    cases r1 with
    | @ref n a q =>
      simp only at P1
      split at P1
      · rename_i kvs hx
        obtain ⟨o, vs, hk, r⟩ := R1.dic q hx
        exact ⟨a, o, rfl, .inl ⟨vs, hk, P1 φ1 H1 _ u R1 (.keys hk r.keys)⟩⟩
      · exact False.elim P1
    | _ => exact False.elim P1
theorem i_any (h : PE X e (tE T W m)) (hK : T.K = X.K := by rfl) : PI X tg e (tI T W (mIter m)) := weakI (pi_any h) fun σ H Q ⟨φ, env, S, R, E, P⟩ => by
  rw [← hK]
  exact tE_bind R E P fun d S1 φ1 H1 v u R1 r1 E1 P1 => by
    cases r1 with
    | @tup xs a vs q l r => exact .inr (.inl ⟨a, rfl, ⟨vs, q.sq⟩, P1 φ1 H1 _ u R1 (.tup q ⟨l, r⟩)⟩)
    | @ref n a q =>
      simp only at P1
      split at P1
      · rename_i xs hx
        obtain ⟨vs, q', r⟩ := R1.listOf q hx
        exact .inl ⟨a, rfl, ⟨vs, q'⟩, P1 φ1 H1 _ u R1 (.lst q)⟩
      · exact False.elim P1
    | str z => exact .inr (.inr ⟨z, rfl, P1 φ1 H1 _ u R1 (.str z)⟩)
    | _ => exact False.elim P1
theorem RVs.int1 {φ : List Addr} {H : Hp} {j : Int} {vs : List V} (r : RVs T φ H [.int j] vs) : vs = [.int j] := by
  obtain ⟨v, rfl, rv⟩ := r.one
  cases rv
  rfl
theorem i_range1 (hm : X.mg "range" = none) (ha : PA X [a] (tA T W ms)) (hg : Gl X "range" := by rfl) (hs : starEach [a] X.env = [(false, eval a X.env)] := by rfl) : PI X tg (.Call (.Name "range" p) [a] [] pos) (tI T W (mRange1 ms)) :=
  weakI (pi_range1 hg hm ha hs) fun σ H Q ⟨φ, env, S, R, E, P⟩ => tA_bind R E P fun ds S1 φ1 H1 vs u R1 r1 E1 P1 => by
    split at P1
    · rename_i j
      obtain ⟨v, rfl, rv⟩ := r1.one
      cases rv
      split at P1
      · rename_i hj
        exact ⟨j, rfl, hj.1, hj.2, P1 φ1 H1 _ u R1 (.rng 0 _)⟩
      · exact False.elim P1
    · exact False.elim P1
theorem i_range2 (hm : X.mg "range" = none) (ha : PA X [a, b] (tA T W ms)) (hg : Gl X "range" := by rfl) (hs : starEach [a, b] X.env = [(false, eval a X.env), (false, eval b X.env)] := by rfl) (hs2 : starEach [b] X.env = [(false, eval b X.env)] := by rfl) : PI X tg (.Call (.Name "range" p) [a, b] [] pos) (tI T W (mRange2 ms)) :=
  weakI (pi_range2 hg hm ha hs hs2) fun σ H Q ⟨φ, env, S, R, E, P⟩ => tA_bind R E P fun ds S1 φ1 H1 vs u R1 r1 E1 P1 => by
    split at P1
    · rename_i i j
      obtain ⟨v, w, rfl, rv, rw'⟩ := r1.two
      cases rv
      cases rw'
      split at P1
      · rename_i hj
        exact ⟨i, j, rfl, hj, P1 φ1 H1 _ u R1 (.rng i _)⟩
      · exact False.elim P1
    · exact False.elim P1
theorem i_zip {elts : List Expr} {kk : Nat} (hm : X.mg "zip" = none) (ha : PA X [a, b] (tA T W ms)) (hg : Gl X "zip" := by rfl) (hK : T.K = X.K := by rfl)
    (hs : starEach [a, b] X.env = (false, eval a X.env) :: starEach [b] X.env := by rfl) (hpl : (backTo pos (starEach [b] X.env)).any (·.1) = false := by rfl) :
    PI X (.Tuple elts kk tpos) (.Call (.Name "zip" p) [a, b] [] pos) (tI T W (mZip ms)) :=
  weakI (pi_zipA hg hm ha hs hpl) fun σ H Q ⟨φ, env, S, R, E, P⟩ => by
    rw [← hK]
    exact tA_bind R E P fun ds S1 φ1 H1 vs u R1 r1 E1 P1 => by
      split at P1
      · rename_i n m
        obtain ⟨v, w, rfl, rv, rw'⟩ := r1.two
        split at P1
        · rename_i xs ys hx hy
          cases rv with
          | @ref n a ha =>
            cases rw' with
            | @ref m b hb =>
              obtain ⟨vs, q, r⟩ := R1.listOf ha hx
              obtain ⟨us, q', r'⟩ := R1.listOf hb hy
              exact ⟨a, b, vs, us, rfl, .inl ⟨q, q', P1 φ1 H1 _ u R1 (.zipL ha hb)⟩⟩
        · exact False.elim P1
      · rename_i xs ys
        obtain ⟨v, w, rfl, rv, rw'⟩ := r1.two
        cases rv with
        | @tup xs a vs q l r =>
          cases rw' with
          | @tup ys b us q' l' r' => exact ⟨a, b, vs, us, rfl, .inr ⟨q.sq, q'.sq, P1 φ1 H1 _ u R1 (.zipT q ⟨l, r⟩ q' ⟨l', r'⟩)⟩⟩
      · exact False.elim P1
end
end MR

/-! M6: statements, loops, comprehensions. -/
namespace MR
open PySem PySem.Spec L2

/-- how a statement ends -/
inductive SRes where
  | nx (env : EnvD) (S : Hs) | rt (d : D) (S : Hs) | bk (env : EnvD) (S : Hs) | ct (env : EnvD) (S : Hs) | err (c : Str) (d : D) (env : EnvD) (S : Hs) | bad
abbrev SM := EnvD → Hs → SRes
def Res.toS {α : Type} (r : Res α) (env : EnvD) (k : α → Hs → SRes) : SRes := match r with
  | .ok a S => k a S
  | .err c d S => .err c d env S
  | .bad => .bad
section
variable (T : Ct) (W : WX)
def PostS (φ : List Addr) (H : Hp) (E : Ends) : SRes → Prop
  | .nx env S => ∀ φ' H' σ', Up φ H φ' H' → RS T φ' S H' → RE T φ' H' env σ' → E.nx σ' H'
  | .rt d S => ∀ φ' H' v, Up φ H φ' H' → RS T φ' S H' → RV T φ' H' d v → E.rt v H'
  | .bk env S => ∀ φ' H' σ', Up φ H φ' H' → RS T φ' S H' → RE T φ' H' env σ' → E.bk σ' H'
  | .ct env S => ∀ φ' H' σ', Up φ H φ' H' → RS T φ' S H' → RE T φ' H' env σ' → E.ct σ' H'
  | .err c d env S => ∀ φ' H' σ' dd v, Up φ H φ' H' → RS T φ' S H' → RE T φ' H' env σ' → RV T φ' H' d v → H' dd = some (.xd (fV v)) → W (.ref (T.ca c)) (some dd) σ' H'
  | .bad => False
def tS (m : SM) : TS := fun E σ H => ∃ φ env S, RS T φ S H ∧ RE T φ H env σ ∧ PostS T W φ H E (m env S)
end
section
variable {T : Ct} {W : WX} {φ φ1 : List Addr} {H H1 : Hp} {S : Hs} {σ : L2.St} {env : EnvD} {D0 : Ends}
theorem PostS.up (u : Up φ H φ1 H1) {r : SRes} (h : PostS T W φ H D0 r) : PostS T W φ1 H1 D0 r := by
  cases r with
  | nx env S => exact fun φ' H' σ' u' => h φ' H' σ' (u.trans u')
  | rt d S => exact fun φ' H' v u' => h φ' H' v (u.trans u')
  | bk env S => exact fun φ' H' σ' u' => h φ' H' σ' (u.trans u')
  | ct env S => exact fun φ' H' σ' u' => h φ' H' σ' (u.trans u')
  | err c d env S => exact fun φ' H' σ' dd v u' => h φ' H' σ' dd v (u.trans u')
  | bad => exact h
theorem tE_st {m : Ex} {k : D → Hs → SRes} {Q : VK} (R : RS T φ S H) (E : RE T φ H env σ) (P : PostS T W φ H D0 ((m env S).toS env k))
    (h : ∀ d S1 φ1 H1 v, Up φ H φ1 H1 → RS T φ1 S1 H1 → RV T φ1 H1 d v → RE T φ1 H1 env σ → PostS T W φ1 H1 D0 (k d S1) → Q v H1) : tE T W m σ H Q := by
  refine ⟨φ, env, S, R, E, ?_⟩
  cases e : m env S with
  | ok d S1 =>
    rw [e] at P
    exact fun φ1 H1 v u R1 r => h d S1 φ1 H1 v u R1 r (E.up R u) (PostS.up u P)
  | err c d S1 =>
    rw [e] at P
    exact fun φ1 H1 dd v u R1 r x => P φ1 H1 σ dd v u R1 (E.up R u) r x
  | bad =>
    rw [e] at P
    exact P
theorem tA_st {m : Exs} {k : List D → Hs → SRes} {Q : List V → Hp → Prop} (R : RS T φ S H) (E : RE T φ H env σ) (P : PostS T W φ H D0 ((m env S).toS env k))
    (h : ∀ d S1 φ1 H1 v, Up φ H φ1 H1 → RS T φ1 S1 H1 → RVs T φ1 H1 d v → RE T φ1 H1 env σ → PostS T W φ1 H1 D0 (k d S1) → Q v H1) : tA T W m σ H Q := by
  refine ⟨φ, env, S, R, E, ?_⟩
  cases e : m env S with
  | ok d S1 =>
    rw [e] at P
    exact fun φ1 H1 v u R1 r => h d S1 φ1 H1 v u R1 r (E.up R u) (PostS.up u P)
  | err c d S1 =>
    rw [e] at P
    exact fun φ1 H1 dd v u R1 r x => P φ1 H1 σ dd v u R1 (E.up R u) r x
  | bad =>
    rw [e] at P
    exact P
theorem tI_st {m : ExI} {k : DI → Hs → SRes} {Q : It → Hp → Prop} (R : RS T φ S H) (E : RE T φ H env σ) (P : PostS T W φ H D0 ((m env S).toS env k))
    (h : ∀ d S1 φ1 H1 v, Up φ H φ1 H1 → RS T φ1 S1 H1 → ItR T φ1 H1 d v → RE T φ1 H1 env σ → PostS T W φ1 H1 D0 (k d S1) → Q v H1) : tI T W m σ H Q := by
  refine ⟨φ, env, S, R, E, ?_⟩
  cases e : m env S with
  | ok d S1 =>
    rw [e] at P
    exact fun φ1 H1 v u R1 r => h d S1 φ1 H1 v u R1 r (E.up R u) (PostS.up u P)
  | err c d S1 =>
    rw [e] at P
    exact fun φ1 H1 dd v u R1 r x => P φ1 H1 σ dd v u R1 (E.up R u) r x
  | bad =>
    rw [e] at P
    exact P
theorem tT_st {m : Ex} {k : Bool → Hs → SRes} {Q : Bool → Hp → Prop} (R : RS T φ S H) (E : RE T φ H env σ) (P : PostS T W φ H D0 ((m env S).toS env fun d S1 => match d with | .bl b => k b S1 | _ => .bad))
    (h : ∀ b S1 φ1 H1, Up φ H φ1 H1 → RS T φ1 S1 H1 → RE T φ1 H1 env σ → PostS T W φ1 H1 D0 (k b S1) → Q b H1) : tT T W m σ H Q := by
  refine ⟨φ, env, S, R, E, ?_⟩
  cases e : m env S with
  | ok d S1 =>
    rw [e] at P
    cases d with
    | bl b => exact ⟨b, rfl, fun φ1 H1 u R1 => h b S1 φ1 H1 u R1 (E.up R u) (PostS.up u P)⟩
    | _ => exact False.elim P
  | err c d S1 =>
    rw [e] at P
    exact fun φ1 H1 dd v u R1 r x => P φ1 H1 σ dd v u R1 (E.up R u) r x
  | bad =>
    rw [e] at P
    exact P
end
theorem weakS {X : Cx} {st : Stmt} {t t' : TS} (h : PS X st t) (w : ∀ E σ H, t' E σ H → t E σ H) : PS X st t' := ⟨fun pins s σ H E I q => h.run pins s σ H E I (w E σ H q)⟩
theorem weakSs {X : Cx} {st : List Stmt} {t t' : TS} (h : PSs X st t) (w : ∀ E σ H, t' E σ H → t E σ H) : PSs X st t' := ⟨fun pins s σ H E I q => h.run pins s σ H E I (w E σ H q)⟩
/-! ### blocks -/
def mNx : SM := fun env S => .nx env S
def mSeq (a b : SM) : SM := fun env S => match a env S with
  | .nx env1 S1 => b env1 S1
  | r => r
def mRet (m : Ex) : SM := fun env S => (m env S).toS env fun d S1 => .rt d S1
def mExp (m : Ex) : SM := fun env S => (m env S).toS env fun _ S1 => .nx env S1
def mIfS (m : Ex) (a b : SM) : SM := fun env S => (m env S).toS env fun d S1 => match d with
  | .bl k => if k then a env S1 else b env S1
  | _ => .bad
def mSet (i : Nat) (m : Ex) : SM := fun env S => (m env S).toS env fun d S1 => .nx (env.set i (some d)) S1
def mAsg (b : Bnd) (m : Ex) : SM := fun env S => (m env S).toS env fun d S1 => match b d with
  | some us => .nx (apD env us) S1
  | none => .bad
def mPar (i j : Nat) (ms : Exs) : SM := fun env S => (ms env S).toS env fun ds S1 => match ds with
  | [d, e] => .nx ((env.set i (some d)).set j (some e)) S1
  | _ => .bad
def mPar3 (i j l : Nat) (ms : Exs) : SM := fun env S => (ms env S).toS env fun ds S1 => match ds with
  | [d, e, f] => .nx (((env.set i (some d)).set j (some e)).set l (some f)) S1
  | _ => .bad
/-- o[i] = e of a list -/
def putD (o i v : D) (S : Hs) : Option Hs := match o, i with
  | .ref n, .int k => match S.get n with
    | some (.lst xs) => match ixN xs.length k with
      | some j => some (S.put n (.lst (xs.set j v)))
      | none => none
    | _ => none
  | _, _ => none
def mPut (mo mi mv : Ex) : SM := fun env S => (mv env S).toS env fun v S1 => (mo env S1).toS env fun o S2 => (mi env S2).toS env fun i S3 => match putD o i v S3 with
  | some S4 => .nx env S4
  | none => .bad
def mNever : SM := fun _ _ => .bad
section
variable {X : Cx} {T : Ct} {W : WX} {pos : Pos} {st : Stmt} {rest : List Stmt} {e : Expr} {m : Ex} {a b : SM}
theorem s_nil : PSs X [] (tS T W mNx) := weakSs pss_nil fun E σ H ⟨φ, env, S, R, Ev, P⟩ => P φ H σ (Up.refl _ _) R Ev
theorem s_cons (h1 : PS X st (tS T W a)) (h2 : PSs X rest (tS T W b)) : PSs X (st :: rest) (tS T W (mSeq a b)) := weakSs (pss_cons h1 h2) fun E σ H ⟨φ, env, S, R, Ev, P⟩ => by
  refine ⟨φ, env, S, R, Ev, ?_⟩
  unfold mSeq at P
  cases e : a env S with
  | nx env1 S1 =>
    rw [e] at P
    exact fun φ' H' σ' u R' E' => ⟨φ', env1, S1, R', E', PostS.up u P⟩
  | _ =>
    rw [e] at P
    exact P
theorem s_one (h : PS X st (tS T W a)) : PSs X [st] (tS T W a) := pss_one h
theorem s_pass : PS X (.Pass pos) (tS T W mNx) := weakS ps_pass fun E σ H ⟨φ, env, S, R, Ev, P⟩ => P φ H σ (Up.refl _ _) R Ev
theorem s_exp (he : PE X e (tE T W m)) (hs : swapsWith e none pos.line X.env = pure false := by rfl) : PS X (.Expr e pos) (tS T W (mExp m)) := weakS (ps_expr he hs) fun E σ H ⟨φ, env, S, R, Ev, P⟩ =>
  tE_st R Ev P fun d S1 φ1 H1 v u R1 r1 E1 P1 => P1 φ1 H1 σ (Up.refl _ _) R1 E1
theorem s_ret (he : PE X e (tE T W m)) : PS X (.Return (some e) pos) (tS T W (mRet m)) := weakS (ps_ret he) fun E σ H ⟨φ, env, S, R, Ev, P⟩ =>
  tE_st R Ev P fun d S1 φ1 H1 v u R1 r1 E1 P1 => P1 φ1 H1 v (Up.refl _ _) R1 r1
theorem s_if {c : Expr} {x y : List Stmt} (hc : PT X c (tT T W m)) (ha : PSs X x (tS T W a)) (hb : PSs X y (tS T W b)) : PS X (.If c x y pos) (tS T W (mIfS m a b)) := weakS (ps_if hc ha hb) fun E σ H ⟨φ, env, S, R, Ev, P⟩ =>
  tT_st (k := fun k S1 => if k then a env S1 else b env S1) R Ev P fun k S1 φ1 H1 u R1 E1 P1 => by
    cases k with
    | true =>
      rw [if_pos rfl] at *
      exact ⟨φ1, env, S1, R1, E1, P1⟩
    | false =>
      rw [if_neg Bool.false_ne_true] at *
      exact ⟨φ1, env, S1, R1, E1, P1⟩
theorem s_never : PS X st (tS T W mNever) := weakS ps_never fun E σ H ⟨φ, env, S, R, Ev, P⟩ => P
theorem s_set (i : Nat) {x : Str} {pos' : Pos} (hN : X.N.Nodup) (he : PE X e (tE T W m)) (hi : X.N[i]? = some x := by rfl) (hx : Loc X.env.scope x := by first | exact Or.inl rfl | exact Or.inr rfl) (hs : swapsWith e (some (.Name x pos')) pos.line X.env = pure false := by rfl) (hf : X.fn x = true ∨ X.env.scope.names.lookup x = some .local := by first | exact .inl rfl | exact .inr rfl) :
    PS X (.Assign [.Name x pos'] e pos) (tS T W (mSet i m)) := weakS (ps_set hN hi hx he hs hf) fun E σ H ⟨φ, env, S, R, Ev, P⟩ =>
  tE_st R Ev P fun d S1 φ1 H1 v u R1 r1 E1 P1 => P1 φ1 H1 _ (Up.refl _ _) R1 (E1.set r1 i)
theorem s_asg {tg : Expr} {g : TG} {bd : Bnd} (he : PE X e (tE T W m)) (hg : PG X tg g) (ho : TgOk T g bd) (hs : swapsWithSole [tg] e pos.line X.env = pure false := by rfl) (hw : swappedStores [tg] e X.env = pure none := by rfl)
    (h1 : (assignEach [tg] X.env).map (·.2) = [assign tg X.env] := by rfl) : PS X (.Assign [tg] e pos) (tS T W (mAsg bd m)) := weakS (ps_asg he hg hs hw h1) fun E σ H ⟨φ, env, S, R, Ev, P⟩ =>
  tE_st R Ev P fun d S1 φ1 H1 v u R1 r1 E1 P1 => by
    split at P1
    · rename_i us hus
      exact ho R1 r1 hus fun vs hv => P1 φ1 H1 _ (Up.refl _ _) R1 (E1.ap hv)
    · exact False.elim P1
theorem s_par (i j : Nat) {x y : Str} {c d : Expr} {ms : Exs} {px py pt : Pos} {kt k2 pt2} (hc : X.calm = true) (hN : X.N.Nodup) (ha : PA X [c, d] (tA T W ms)) (hi : X.N[i]? = some x := by rfl) (hj : X.N[j]? = some y := by rfl) (hij : i ≠ j := by decide)
    (hx : X.env.scope.names.lookup x = some .local := by rfl) (hy : X.env.scope.names.lookup y = some .local := by rfl)
    (hw : swappedStores [.Tuple [.Name x px, .Name y py] kt pt] (.Tuple [c, d] k2 pt2) X.env = pure (some [x, y]) := by rfl)
    (hs : swapsWithSole [.Tuple [.Name x px, .Name y py] kt pt] (.Tuple [c, d] k2 pt2) pos.line X.env = pure false := by rfl) :
    PS X (.Assign [.Tuple [.Name x px, .Name y py] kt pt] (.Tuple [c, d] k2 pt2) pos) (tS T W (mPar i j ms)) := weakS (ps_par hc hN hi hj hij hx hy ha hw hs) fun E σ H ⟨φ, env, S, R, Ev, P⟩ =>
  tA_st R Ev P fun ds S1 φ1 H1 vs u R1 r1 E1 P1 => by
    split at P1
    · rename_i d1 e1
      obtain ⟨v, w, rfl, rv, rw'⟩ := r1.two
      exact ⟨v, w, rfl, P1 φ1 H1 _ (Up.refl _ _) R1 ((E1.set rv i).set rw' j)⟩
    · exact False.elim P1
theorem s_par3 (i j l : Nat) {x y z : Str} {c d f : Expr} {ms : Exs} {px py pz pt : Pos} {kt k2 pt2} (hc : X.calm = true) (hN : X.N.Nodup) (ha : PA X [c, d, f] (tA T W ms)) (hi : X.N[i]? = some x := by rfl) (hj : X.N[j]? = some y := by rfl) (hl : X.N[l]? = some z := by rfl) (hij : i ≠ j := by decide) (hil : i ≠ l := by decide) (hjl : j ≠ l := by decide)
    (hx : X.env.scope.names.lookup x = some .local := by rfl) (hy : X.env.scope.names.lookup y = some .local := by rfl) (hz : X.env.scope.names.lookup z = some .local := by rfl)
    (hw : swappedStores [.Tuple [.Name x px, .Name y py, .Name z pz] kt pt] (.Tuple [c, d, f] k2 pt2) X.env = pure (some [x, y, z]) := by rfl)
    (hs : swapsWithSole [.Tuple [.Name x px, .Name y py, .Name z pz] kt pt] (.Tuple [c, d, f] k2 pt2) pos.line X.env = pure false := by rfl) :
    PS X (.Assign [.Tuple [.Name x px, .Name y py, .Name z pz] kt pt] (.Tuple [c, d, f] k2 pt2) pos) (tS T W (mPar3 i j l ms)) := weakS (ps_par3 hc hN hi hj hl hij hil hjl hx hy hz ha hw hs) fun E σ H ⟨φ, env, S, R, Ev, P⟩ =>
  tA_st R Ev P fun ds S1 φ1 H1 vs u R1 r1 E1 P1 => by
    split at P1
    · rename_i d1 e1 f1
      obtain ⟨v, us, rfl, rv, r2⟩ := r1.inv_cons
      obtain ⟨w, t, rfl, rw', rt⟩ := r2.two
      exact ⟨v, w, t, rfl, P1 φ1 H1 _ (Up.refl _ _) R1 (((E1.set rv i).set rw' j).set rt l)⟩
    · exact False.elim P1
theorem s_put {o i v : Expr} {mo mi mv : Ex} {tpos : Pos} (ho : PE X o (tE T W mo)) (hi : PE X i (tE T W mi)) (hv : PE X v (tE T W mv))
    (ha : ∀ v, assign (.Subscript o i tpos) X.env v = (do
      let ov ← holding [v] (eval o X.env)
      let iv ← holding [v, ov] (eval i X.env)
      standAt tpos
      holding [v, ov, iv] (setItem ov iv v)
      release [v, ov, iv] []) := by intro _; rfl) (hs : swapsWithSole [.Subscript o i tpos] v pos.line X.env = pure false := by rfl) (hw : swappedStores [.Subscript o i tpos] v X.env = pure none := by rfl)
    (h1 : (assignEach [.Subscript o i tpos] X.env).map (·.2) = [assign (.Subscript o i tpos) X.env] := by rfl) : PS X (.Assign [.Subscript o i tpos] v pos) (tS T W (mPut mo mi mv)) :=
  weakS (ps_asg hv (pg_sub ho hi set_list ha) hs hw h1) fun E σ H ⟨φ, env, S, R, Ev, P⟩ =>
    tE_st R Ev P fun dv S1 φ1 H1 vv u1 R1 r1 E1 P1 => tE_st R1 E1 P1 fun od S2 φ2 H2 ov u2 R2 r2 E2 P2 => tE_st R2 E2 P2 fun id S3 φ3 H3 iv u3 R3 r3 E3 P3 => by
      have rv := (r1.up R1 u2).up R2 u3
      have ro := r2.up R2 u3
      unfold putD at P3
      cases ro with
      | @ref n a h =>
        cases r3 with
        | int k =>
          simp only at P3
          split at P3
          · rename_i S4 h4
            split at h4
            · rename_i xs hx
              split at h4
              · rename_i j hj
                cases h4
                obtain ⟨vs, q, r⟩ := R3.lst h hx
                have r' := r.set rv j
                obtain ⟨R', U⟩ := R3.put (o := .lst (vs.set j vv)) (c := .lst (xs.set j dv)) hx h (lst_nf q) fun φ' H' u z => .lst z (r'.up R3 u)
                exact ⟨a, vs, k, j, rfl, rfl, q, by rw [← r.1]; exact hj, P3 _ _ σ U R' (E3.up R3 U)⟩
              · cases h4
            · cases h4
          · exact False.elim P3
        | _ => exact False.elim P3
      | _ => exact False.elim P3
end
/-! ### for -/
def mLoop (di : DI) (b : Bnd) (body : SM) : Nat → Nat → SM
  | 0, _, _, _ => .bad
  | k + 1, i, env, S => match di.next i S with
    | none => .bad
    | some none => .nx env S
    | some (some d) => match b d with
      | none => .bad
      | some us => match body (apD env us) S with
        | .nx env2 S2 => mLoop di b body k (i + 1) env2 S2
        | .ct env2 S2 => mLoop di b body k (i + 1) env2 S2
        | .bk env2 S2 => .nx env2 S2
        | r => r
def mFor (mi : ExI) (b : Bnd) (body : SM) : SM := fun env S => (mi env S).toS env fun di S1 => mLoop di b body (di.size S1 + 1) 0 env S1
section
variable {X : Cx} {T : Ct} {W : WX} {pos : Pos}
theorem s_for {tg iter : Expr} {body : List Stmt} {mi : ExI} {g : TG} {bd : Bnd} {mb : SM} (hp : PassesOwn (model X.prog X.w) X.A X.env X.xe) (hc : X.calm = true) (hi : PI X tg iter (tI T W mi)) (hg : PG X tg g) (ho : TgOk T g bd) (hb : PSs X body (tS T W mb))
    (hs : ∀ x, foldedSetIterable iter X.env x = pure x := by intro _; rfl) : PS X (.For tg iter body [] pos) (tS T W (mFor mi bd mb)) := weakS (ps_for hp hc hi hg hb hs) fun E σ H ⟨φ, env, S, R, Ev, P⟩ => by
  refine tI_st R Ev P fun di S1 φ1 H1 J u1 R1 J1 E1 P1 => ?_
  refine ⟨fun i m σ H => ∃ φ env S, RS T φ S H ∧ RE T φ H env σ ∧ ItR T φ H di J ∧ PostS T W φ H E (mLoop di bd mb m i env S), ⟨_, φ1, env, S1, R1, E1, J1, P1⟩, ?_⟩
  rintro i m σ2 H2 ⟨φ2, env2, S2, R2, E2, J2, P2⟩
  cases m with
  | zero => exact False.elim P2
  | succ k =>
    unfold mLoop at P2
    split at P2
    · exact False.elim P2
    · rename_i hn
      exact .inl ⟨J2.stop R2 hn, P2 φ2 H2 σ2 (Up.refl _ _) R2 E2⟩
    · rename_i d hn
      obtain ⟨go, yl⟩ := J2.go R2 hn
      refine .inr ⟨go, fun σ' H' => ∃ φ env S, RS T φ S H' ∧ RE T φ H' env σ' ∧ ItR T φ H' di J ∧ PostS T W φ H' E (mLoop di bd mb k (i + 1) env S), fun σ' H' h => ⟨k, Nat.lt_succ_self k, h⟩, fun x H' hy => ?_⟩
      obtain ⟨U, R3, rx⟩ := yl x H' hy
      have E3 := E2.up R2 U
      have J3 := J2.up R2 U
      split at P2
      · exact False.elim P2
      · rename_i us hus
        refine ho R3 rx hus fun vs hv => ?_
        refine ⟨φ2, _, S2, R3, E3.ap hv, ?_⟩
        cases e : mb (apD env2 us) S2 with
        | nx env4 S4 =>
          rw [e] at P2
          exact fun φ' H'' σ' u R' E' => ⟨φ', env4, S4, R', E', J3.up R3 u, PostS.up (U.trans u) P2⟩
        | ct env4 S4 =>
          rw [e] at P2
          exact fun φ' H'' σ' u R' E' => ⟨φ', env4, S4, R', E', J3.up R3 u, PostS.up (U.trans u) P2⟩
        | bk env4 S4 =>
          rw [e] at P2
          exact fun φ' H'' σ' u R' E' => P2 φ' H'' σ' (U.trans u) R' E'
        | rt d S4 =>
          rw [e] at P2
          exact fun φ' H'' v u R' r' => P2 φ' H'' v (U.trans u) R' r'
        | err c d env4 S4 =>
          rw [e] at P2
          exact fun φ' H'' σ' dd v u R' E' r' x' => P2 φ' H'' σ' dd v (U.trans u) R' E' r' x'
        | bad =>
          rw [e] at P2
          exact P2
end
/-! ### comprehensions -/
def wipeD (env : EnvD) : List Nat → EnvD
  | [] => env
  | v :: vs => (wipeD env vs).set v none
def mTrue : Ex := fun _ S => .ok (.bl true) S
def mLcL (di : DI) (b : Bnd) (mt me : Ex) (env : EnvD) (a : Nat) : Nat → Nat → Hs → Res D
  | 0, _, _ => .bad
  | k + 1, i, S => match di.next i S with
    | none => .bad
    | some none => .ok (.ref a) S
    | some (some d) => match b d with
      | none => .bad
      | some us => match mt (apD env us) S with
        | .ok (.bl true) S3 => match me (apD env us) S3 with
          | .ok y S4 => match S4.get a with
            | some (.lst acc) => if acc.length < line then mLcL di b mt me env a k (i + 1) (S4.put a (.lst (acc ++ [y]))) else .bad
            | _ => .bad
          | _ => .bad
        | .ok (.bl false) S3 => mLcL di b mt me env a k (i + 1) S3
        | _ => .bad
def mLc (mi : ExI) (b : Bnd) (mt me : Ex) (vs : List Nat) : Ex := fun env S => (mi env S).bind fun di S1 => mLcL di b mt me (wipeD env vs) S1.n (di.size S1 + 1) 0 (S1.new (.lst []))
abbrev W0 : WX := fun _ _ _ _ => False
theorem wipe_in {σ : L2.St} {i : Nat} : ∀ {vs : List Nat}, i ∈ vs → i < σ.length → (wipe σ vs)[i]? = some none
  | v :: vs, h, hl => by
    unfold wipe
    by_cases e : v = i
    · subst e
      exact List.getElem?_set_self (by rw [wipe_length]; exact hl)
    · rw [List.getElem?_set_ne e]
      rcases List.mem_cons.mp h with h | h
      · exact absurd h.symm e
      · exact wipe_in h hl
/-- the slots of a target are among the block's own -/
def Bnd.In (b : Bnd) (vs : List Nat) : Prop := ∀ d us, b d = some us → ∀ p ∈ us, p.1 ∈ vs
theorem bName_in {i : Nat} {vs : List Nat} (h : i ∈ vs) : (bName i).In vs := fun d us e p hp => by
  cases e
  simp at hp
  rw [hp]
  exact h
theorem bTup_in {is vs : List Nat} (h : ∀ i ∈ is, i ∈ vs) : (bTup is).In vs := fun d us e p hp => by
  unfold bTup at e
  split at e
  · split at e
    · cases e
      exact h _ (List.of_mem_zip hp).1
    · cases e
  · cases e
theorem apV_length (σ : L2.St) : ∀ us : List (Nat × V), (apV σ us).length = σ.length := fun us => by
  induction us generalizing σ with
  | nil => rfl
  | cons p us ih =>
    show (apV (σ.set p.1 (some p.2)) us).length = _
    rw [ih, List.length_set]
theorem apV_out {i : Nat} : ∀ {us : List (Nat × V)} {σ : L2.St}, (∀ p ∈ us, p.1 ≠ i) → (apV σ us)[i]? = σ[i]?
  | [], σ, _ => rfl
  | p :: us, σ, h => by
    show (apV (σ.set p.1 (some p.2)) us)[i]? = _
    rw [apV_out fun q hq => h q (List.mem_cons_of_mem _ hq), List.getElem?_set_ne (h p List.mem_cons_self)]
theorem wipe_ap {σ : L2.St} {vs : List Nat} {us : List (Nat × V)} (h : ∀ p ∈ us, p.1 ∈ vs) : wipe (apV (wipe σ vs) us) vs = wipe σ vs := by
  apply List.ext_getElem?
  intro i
  by_cases hi : i ∈ vs
  · by_cases hl : i < σ.length
    · rw [wipe_in hi hl, wipe_in hi (by rw [apV_length, wipe_length]; exact hl)]
    · rw [List.getElem?_eq_none (by rw [wipe_length, apV_length, wipe_length]; omega), List.getElem?_eq_none (by rw [wipe_length]; omega)]
  · rw [wipe_out hi, apV_out fun p hp e => hi (by rw [← e]; exact h p hp)]
section
variable {T : Ct} {φ : List Addr} {S : Hs} {H : Hp}
theorem RE.wipe {env : EnvD} {σ : L2.St} (E : RE T φ H env σ) : ∀ vs : List Nat, RE T φ H (wipeD env vs) (L2.wipe σ vs)
  | [] => E
  | v :: vs => by
    have ih := E.wipe vs
    refine ⟨by unfold wipeD L2.wipe; rw [List.length_set, List.length_set]; exact ih.1, fun i d h => ?_⟩
    unfold wipeD at h
    by_cases e : v = i
    · subst e
      by_cases hl : v < (wipeD env vs).length
      · rw [List.getElem?_set_self hl] at h
        cases h
      · rw [List.getElem?_eq_none (by simpa using hl)] at h
        cases h
    · rw [List.getElem?_set_ne e] at h
      obtain ⟨u, h1, h2⟩ := ih.2 i d h
      exact ⟨u, by unfold L2.wipe; rw [List.getElem?_set_ne e]; exact h1, h2⟩
end
section
variable {X : Cx} {T : Ct} {W : WX} {pos : Pos}
theorem ts_nil {X : Cx} : PTs X [] (tT T W mTrue) := ⟨fun pins s σ H Q I ⟨φ, env, S, R, E, P⟩ => pts_nil.run pins s σ H Q I (by
  obtain ⟨b, e, q⟩ := P
  cases e
  exact q φ H (Up.refl _ _) R)⟩
theorem ts_one {X : Cx} {c : Expr} {m : Ex} (h : PT X c (tT T W m)) : PTs X [c] (tT T W m) := pts_one h
theorem lc_weak {mi : ExI} {g : TG} {bd : Bnd} {mt me : Ex} {vs : List Nat} (ho : TgOk T g bd) (hin : bd.In vs) {σ : L2.St} {H : Hp} {Q : VK} (h : tE T W (mLc mi bd mt me vs) σ H Q) : tLc (tI T W mi) g (tT T W0 mt) (tE T W0 me) vs σ H Q := by
  obtain ⟨φ, env, S, R, E, P⟩ := h
  refine ⟨φ, env, S, R, E, P.bind.mono (fun di S1 P1 φ1 H1 J u1 R1 J1 Dd hD => ?_) fun _ _ _ x => x⟩
  obtain ⟨R2, U2⟩ := R1.new (o := .lst []) (c := .lst []) hD fun φ' H' u z => .lst z .nil
  have hat : (φ1 ++ [Dd])[S1.n]? = some Dd := by
    rw [List.getElem?_append_right (by rw [R1.len]; exact Nat.le_refl _), R1.len]
    simp
  have ne : ∀ k i S', ∀ c d S'', mLcL di bd mt me (wipeD env vs) S1.n k i S' ≠ .err c d S'' := by
    intro k
    induction k with
    | zero => intro i S' c d S'' h; cases h
    | succ k ih =>
      intro i S' c d S'' h
      unfold mLcL at h
      repeat' (first | exact ih _ _ _ _ _ h | cases h | split at h)
  refine ⟨fun i m H => ∃ φ S, RS T φ S H ∧ RE T φ H env σ ∧ ItR T φ H di J ∧ φ[S1.n]? = some Dd ∧ Post (okE T φ H Q) (fun _ _ _ => False) (mLcL di bd mt me (wipeD env vs) S1.n m i S), ⟨_, _, _, R2, E.up R (u1.trans U2), J1.up R1 U2, hat, (P1.noEr (ne _ _ _)).upE (u1.trans U2)⟩, ?_⟩
  rintro i m H3 ⟨φ3, S3, R3, E3, J3, hat3, P3⟩
  cases m with
  | zero => exact False.elim P3
  | succ k =>
    unfold mLcL at P3
    split at P3
    · exact False.elim P3
    · rename_i hn
      exact .inl ⟨J3.stop R3 hn, P3.now R3 (.ref hat3)⟩
    · rename_i d hn
      obtain ⟨go, yl⟩ := J3.go R3 hn
      refine .inr ⟨go, fun H' => ∃ φ S, RS T φ S H' ∧ RE T φ H' env σ ∧ ItR T φ H' di J ∧ φ[S1.n]? = some Dd ∧ Post (okE T φ H' Q) (fun _ _ _ => False) (mLcL di bd mt me (wipeD env vs) S1.n k (i + 1) S), fun H' h => ⟨k, Nat.lt_succ_self k, h⟩, fun x H' hy => ?_⟩
      obtain ⟨U, R4, rx⟩ := yl x H' hy
      have E4 := E3.up R3 U
      have J4 := J3.up R3 U
      split at P3
      · exact False.elim P3
      · rename_i us hus
        refine ho R4 rx hus fun ws hw => ?_
        have hsl : ∀ p ∈ ws, p.1 ∈ vs := fun p hp => by
          have hm : p.1 ∈ us.map (·.1) := by
            rw [hw.1]
            exact List.mem_map_of_mem hp
          obtain ⟨q, hq, e⟩ := List.mem_map.mp hm
          rw [← e]
          exact hin d us hus q hq
        refine ⟨wipe_ap hsl, ?_⟩
        have E5 := (E4.wipe vs).ap hw
        refine ⟨φ3, _, S3, R4, E5, ?_⟩
        cases e : mt (apD (wipeD env vs) us) S3 with
        | ok t S5 =>
          rw [e] at P3
          cases t with
          | bl tb =>
            refine ⟨tb, rfl, fun φ5 H5 u5 R5 => ?_⟩
            cases tb with
            | true =>
              rw [if_pos rfl]
              have E6 := E5.up R4 u5
              refine ⟨φ5, _, S5, R5, E6, ?_⟩
              cases e2 : me (apD (wipeD env vs) us) S5 with
              | ok y S6 =>
                simp only [e2] at P3
                intro φ6 H6 v u6 R6 rv
                split at P3
                · rename_i acc hacc
                  split at P3
                  · rename_i hl
                    have hat6 := u6.at_ (u5.at_ hat3)
                    obtain ⟨vacc, q, r⟩ := R6.lst hat6 hacc
                    have r2 : RVs T φ6 H6 (acc ++ [y]) (vacc ++ [v]) := r.append (.cons rv .nil)
                    obtain ⟨R7, U7⟩ := R6.put (o := .lst (vacc ++ [v])) (c := .lst (acc ++ [y])) hacc hat6 (lst_nf q) fun φ' H' u z => .lst z (r2.up R6 u)
                    refine ⟨vacc, q, by rw [← r.1, ← line_eq]; exact hl, φ6, _, R7, (((E4.up R4 u5).up R5 u6).up R6 U7), ((J4.up R4 u5).up R5 u6).up R6 U7, U7.at_ hat6, ?_⟩
                    exact P3.upE (((U.trans u5).trans u6).trans U7)
                  · exact False.elim P3
                · exact False.elim P3
              | err c d S6 => simp only [e2] at P3; exact False.elim P3
              | bad => simp only [e2] at P3; exact False.elim P3
            | false =>
              rw [if_neg Bool.false_ne_true]
              exact ⟨φ5, S5, R5, E4.up R4 u5, J4.up R4 u5, u5.at_ hat3, P3.upE (U.trans u5)⟩
          | _ => exact False.elim P3
        | err c d S5 => rw [e] at P3; exact False.elim P3
        | bad => rw [e] at P3; exact False.elim P3
theorem r_lc {elt tg iter : Expr} {ifs : List Expr} {scope : Scope} {own : List (Str × Nat)} {mi : ExI} {g : TG} {bd : Bnd} {mt me : Ex} (hc : X.calm = true) (hN : X.N.Nodup) (ok : BlkOk X.N X.env.scope scope own) (hi : PI X tg iter (tI T W mi)) (ho : TgOk T g bd) (hin : bd.In (own.map (·.2)))
    (hg : ∀ (s : Shared) (H : Hp) (C : Addr) (cl : List (Str × Addr)) (fp : List Addr), PG (X.blk s H scope (compEnvC scope cl C X.env) fp) tg g) (ht : ∀ (s : Shared) (H : Hp) (C : Addr) (cl : List (Str × Addr)) (fp : List Addr), PTs (X.blk s H scope (compEnvC scope cl C X.env) fp) ifs (tT T W0 mt))
    (he : ∀ (s : Shared) (H : Hp) (C : Addr) (cl : List (Str × Addr)) (fp : List Addr), PE (X.blk s H scope (compEnvC scope cl C X.env) fp) elt (tE T W0 me)) (hs : ∀ x, foldedSetIterable iter X.env x = pure x := by intro _; rfl) :
    PE X (.ListComp elt [⟨tg, iter, ifs, 0⟩] scope pos) (tE T W (mLc mi bd mt me (own.map (·.2)))) := weakE (pe_lc hc hN hi ok hg ht he hs) fun σ H Q h => lc_weak ho hin h
theorem s_setLc (i : Nat) {y : Str} {py : Pos} {elt tg iter : Expr} {ifs : List Expr} {scope : Scope} {own : List (Str × Nat)} {spos : Pos} {mi : ExI} {g : TG} {bd : Bnd} {mt me : Ex} (hc : X.calm = true) (hN : X.N.Nodup) (ok : BlkOk X.N X.env.scope scope own) (hi : PI X tg iter (tI T W mi)) (ho : TgOk T g bd) (hin : bd.In (own.map (·.2)))
    (hg : ∀ (s : Shared) (H : Hp) (C : Addr) (cl : List (Str × Addr)) (fp : List Addr), PG (X.blk s H scope (compEnvC scope cl C X.env) fp) tg g) (ht : ∀ (s : Shared) (H : Hp) (C : Addr) (cl : List (Str × Addr)) (fp : List Addr), PTs (X.blk s H scope (compEnvC scope cl C X.env) fp) ifs (tT T W0 mt))
    (he : ∀ (s : Shared) (H : Hp) (C : Addr) (cl : List (Str × Addr)) (fp : List Addr), PE (X.blk s H scope (compEnvC scope cl C X.env) fp) elt (tE T W0 me))
    (hsw : swapsWith (.ListComp elt [⟨tg, iter, ifs, 0⟩] scope pos) (some (.Name y py)) spos.line X.env = pure true) (hy : X.N[i]? = some y := by rfl) (hyl : X.env.scope.names.lookup y = some .local := by rfl) (hs : ∀ x, foldedSetIterable iter X.env x = pure x := by intro _; rfl) :
    PS X (.Assign [.Name y py] (.ListComp elt [⟨tg, iter, ifs, 0⟩] scope pos) spos) (tS T W (mSet i (mLc mi bd mt me (own.map (·.2))))) := weakS (ps_setLc hc hN hy hyl hsw hi ok hg ht he hs) fun E σ H ⟨φ, env, S, R, Ev, P⟩ =>
  lc_weak ho hin (tE_st R Ev P fun d S1 φ1 H1 v u R1 r1 E1 P1 => P1 φ1 H1 _ (Up.refl _ _) R1 (E1.set r1 i))
end
end MR

/-! M7: own defs: what one promises, by its mirror; their calls. -/
namespace MR
open PySem PySem.Spec L2
open PyProof.Rows (envOfC)

abbrev Fn := List D → Hs → Res D
section
variable (T : Ct)
def erF (φ : List Addr) (H : Hp) (E : XK) : Str → D → Hs → Prop := fun c d S' => ∀ φ' H' dd v, Up φ H φ' H' → RS T φ' S' H' → RV T φ' H' d v → H' dd = some (.xd (fV v)) → E (.ref (T.ca c)) (some dd) H'
/-- a def does what F does -/
def spM (F : Fn) : Sp := fun vs H Q E => ∃ φ S ds, RS T φ S H ∧ RVs T φ H ds vs ∧ Post (okE T φ H Q) (erF T φ H E) (F ds S)
end
def startD (n : Nat) (ds : List D) : EnvD := ds.map some ++ List.replicate (n - ds.length) none
/-- a def's body run: p parameters, n names -/
def runB (p n : Nat) (body : SM) : Fn := fun ds S => if ds.length = p then (match body (startD n ds) S with
  | .nx _ S1 => .ok .non S1
  | .rt d S1 => .ok d S1
  | .err c d _ S1 => .err c d S1
  | _ => .bad) else .bad
theorem RE.start {T : Ct} {φ : List Addr} {H : Hp} {ds : List D} {vs : List V} (r : RVs T φ H ds vs) (N : List Str) : RE T φ H (startD N.length ds) (L2.start N vs) := by
  refine ⟨by simp [startD, L2.start, r.1], fun i d h => ?_⟩
  unfold startD at h
  unfold L2.start
  by_cases hi : i < ds.length
  · rw [List.getElem?_append_left (by simpa using hi), List.getElem?_map] at h
    cases e : ds[i]? with
    | none => rw [e] at h; cases h
    | some d' =>
      rw [e] at h
      cases h
      obtain ⟨v, hv, rv⟩ := r.get e
      exact ⟨v, by rw [List.getElem?_append_left (by rw [List.length_map, ← r.1]; exact hi), List.getElem?_map, hv]; rfl, .rv rv⟩
  · rw [List.getElem?_append_right (by simpa using hi), List.getElem?_replicate] at h
    split at h <;> cases h
abbrev WD (E : XK) : WX := fun cls d _ H => E cls d H
section
variable {P : Program} {w : World} {K : PySem.W.Frag} {mg : Str → Option Value} {base : Heap}
abbrev cxD (P : Program) (w : World) (K : PySem.W.Frag) (mg : Str → Option Value) (base : Heap) (N : List Str) (qual : Str) (scope : Scope) (f : Addr) (cdv : Value) (A : Around) (outer : List Env) (s : Shared) (H : Hp) (E : XK) : Cx := cxOf (L2.CX P w) P w K mg base N qual scope f cdv A outer s H E
/-- a def, its promise by its mirror -/
theorem fn_ok {x qual : Str} {params : Arguments} {st : List Stmt} {scope : Scope} {dvs : List V} {kws : List (Str × V)} {f : Addr} {fd : FuncData} {N ps : List Str} {k : Nat} (T : Ct) {body : SM} (F0 : FunD K x qual params st scope dvs kws f fd) (S : FnScope N ps scope)
    (hb : ∀ (cdv : Value) (A : Around) (outer : List Env) (s : Shared) (H : Hp) (E : XK), Room k (A.deeper (envOfC qual scope s.heap.objs.size f cdv)) →
      Takes (cxD P w K mg base N qual scope f cdv A outer s H E) (WD E) → PassesOwn (model P w) (cxD P w K mg base N qual scope f cdv A outer s H E).A (cxD P w K mg base N qual scope f cdv A outer s H E).env (cxD P w K mg base N qual scope f cdv A outer s H E).xe →
      PSs (cxD P w K mg base N qual scope f cdv A outer s H E) st (tS T (WD E) body)) :
    FnOk P w K mg base (L2.CX P w) (k + 1) f fd ps (spM T (runB ps.length N.length body)) := by
  refine F0.ok S (fun vs H Q E h => ?_) (fun cdv A outer s H vs Q E hr h => ?_)
  · obtain ⟨φ, S, ds, R, r, P0⟩ := h
    unfold runB at P0
    split at P0
    · rename_i hl
      rw [← r.1]
      exact hl
    · exact False.elim P0
  · refine ⟨_, hb cdv A outer s H E hr (takes_of rfl rfl rfl rfl) (passes_of rfl), ?_⟩
    obtain ⟨φ, S1, ds, R, r, P0⟩ := h
    refine ⟨φ, startD N.length ds, S1, R, RE.start r N, ?_⟩
    unfold runB at P0
    split at P0
    · cases e : body (startD N.length ds) S1 with
      | nx env S2 =>
        rw [e] at P0
        exact fun φ' H' σ' u R' E' => P0 φ' H' _ u R' .non
      | rt d S2 =>
        rw [e] at P0
        exact fun φ' H' v u R' r' => P0 φ' H' v u R' r'
      | err c d env S2 =>
        rw [e] at P0
        exact fun φ' H' σ' dd v u R' E' r' x' => P0 φ' H' dd v u R' r' x'
      | bk env S2 => rw [e] at P0; exact False.elim P0
      | ct env S2 => rw [e] at P0; exact False.elim P0
      | bad => rw [e] at P0; exact False.elim P0
    · exact False.elim P0
/-- a def that is ready to be called -/
structure Def (P : Program) (w : World) (K : PySem.W.Frag) (mg : Str → Option Value) (base : Heap) (T : Ct) (k : Nat) (x : Str) (f : Addr) (fd : FuncData) (ps : List Str) (F : Fn) : Prop where
  ok : FnOk P w K mg base (L2.CX P w) k f fd ps (spM T F)
  gl : mg x = some (.ref f)
  kp : PySem.W.keepIn K (.ref f) = true
end
/-! ### calls -/
def mOwn (F : Fn) (dD : List D) (ms : Exs) : Ex := fun env S => (ms env S).bind fun ds S1 => F (ds ++ dD) S1
/-- items by places -/
def pick {α : Type} (ix : List Nat) (l : List α) : List α := ix.filterMap (l[·]?)
def mOwnK (F : Fn) (ix : List Nat) (ms ks : Exs) : Ex := fun env S => (ms env S).bind fun ds S1 => (ks env S1).bind fun zs S2 => F (pick ix (ds ++ zs)) S2
theorem RVs.pick {T : Ct} {φ : List Addr} {H : Hp} {ds : List D} {vs : List V} (r : RVs T φ H ds vs) : ∀ ix : List Nat, RVs T φ H (MR.pick ix ds) (MR.pick ix vs)
  | [] => .nil
  | i :: ix => by
    have ih := r.pick ix
    unfold MR.pick at *
    cases e : ds[i]? with
    | none =>
      have e2 : vs[i]? = none := List.getElem?_eq_none_iff.mpr (by rw [← r.1]; exact List.getElem?_eq_none_iff.mp e)
      rw [List.filterMap_cons_none e, List.filterMap_cons_none e2]
      exact ih
    | some d =>
      obtain ⟨v, hv, rv⟩ := r.get e
      rw [List.filterMap_cons_some e, List.filterMap_cons_some hv]
      exact .cons rv ih
theorem Vals.pick {vs : List V} {us : List Value} (r : Vals vs us) : ∀ ix : List Nat, Vals (MR.pick ix vs) (MR.pick ix us)
  | [] => .nil
  | i :: ix => by
    have ih := Vals.pick r ix
    unfold MR.pick at *
    cases e : vs[i]? with
    | none =>
      have e2 : us[i]? = none := List.getElem?_eq_none_iff.mpr (by rw [← r.length]; exact List.getElem?_eq_none_iff.mp e)
      rw [List.filterMap_cons_none e, List.filterMap_cons_none e2]
      exact ih
    | some v =>
      obtain ⟨u, hu, ru⟩ := r.get e
      rw [List.filterMap_cons_some e, List.filterMap_cons_some hu]
      exact .cons ru ih
/-- the keywords' arguments -/
def tK (T : Ct) (W : WX) (m : Exs) : TA := tA T W m
section
variable {X : Cx} {T : Ct} {W : WX} {k : Nat} {f : Addr} {fd : FuncData} {ps ks : List Str} {F : Fn} {x : Str} {p pos : Pos} {e : Expr} {es : List Expr} {kws : List Keyword} {ms mk : Exs} {dvs : List V} {dsv : List Value} {dD : List D}
theorem own_weak {σ : L2.St} {H : Hp} {Q : VK} (hD : ∀ φ H, RVs T φ H dD dvs) (h : tE T W (mOwn F dD ms) σ H Q) : tCallSD (spM T F) dvs (WE W) (tA T W ms) σ H Q := by
  obtain ⟨φ, env, S, R, E, P⟩ := h
  exact tA_bind R E P fun ds S1 φ1 H1 vs u R1 r1 E1 P1 => ⟨φ1, S1, ds ++ dD, R1, r1.append (hD _ _), P1.mono (fun _ _ x => x.up u) fun _ _ _ x => x⟩
/-- f(e, ..), defaults filling up -/
theorem r_callD (G : Def X.prog X.w X.K X.mg X.base T k x f fd ps F) (hr : Room k X.A) (hb : Binds X.K fd ps dsv) (hd : Vals dvs dsv) (hD : ∀ φ H, RVs T φ H dD dvs) (tk : Takes X W) (ha : PA X (e :: es) (tA T W ms)) (hg : Gl X x := by rfl) (hdb : (x == ("__debug__" : Str)) = false := by decide)
    (he : starEach (e :: es) X.env = (false, eval e X.env) :: starEach es X.env := by rfl) (hpl : (backTo pos (starEach es X.env)).any (·.1) = false := by rfl) : PE X (.Call (.Name x p) (e :: es) [] pos) (tE T W (mOwn F dD ms)) :=
  weakE (pe_callSD G.ok hr hg G.gl G.kp hb hd (fun σ => passAt tk σ) ha hdb he hpl) fun _ _ _ h => own_weak hD h
/-- f(e, ..), every parameter written -/
theorem r_call (G : Def X.prog X.w X.K X.mg X.base T k x f fd ps F) (hr : Room k X.A) (hb : Binds X.K fd ps []) (tk : Takes X W) (ha : PA X (e :: es) (tA T W ms)) (hg : Gl X x := by rfl) (hdb : (x == ("__debug__" : Str)) = false := by decide)
    (he : starEach (e :: es) X.env = (false, eval e X.env) :: starEach es X.env := by rfl) (hpl : (backTo pos (starEach es X.env)).any (·.1) = false := by rfl) : PE X (.Call (.Name x p) (e :: es) [] pos) (tE T W (mOwn F [] ms)) :=
  r_callD G hr hb .nil (fun _ _ => .nil) tk ha hg hdb he hpl
/-- f() -/
theorem run_fnW {pins : List (Addr × Obj)} {σ : L2.St} {H : Hp} {s : Shared} {Q : VK} {us ws : List Value} {bs : List Value} {vs : List V} (G : Def X.prog X.w X.K X.mg X.base T k x f fd ps F) (hr : Room k X.A) (tk : Takes X W) (I : Inv X pins σ H s)
    (hb : BindsTo s fd ⟨us, ks.zip ws⟩ (ps.zip bs)) (r : Vals vs bs) (h : spM T F vs H Q (WE W σ)) : wpAny (model X.prog X.w) X.A (call (.ref f) us (ks.zip ws)) (EP X pins σ Q) X.xe s := by
  refine wpAny_call (codeAny_mono (G.ok.run X.A X.stack s H ⟨us, ks.zip ws⟩ bs vs Q (WE W σ) hr I.env0 hb r h) fun r s' hq => ?_)
  cases r with
  | error e => exact passAt tk σ pins H s e s' I hq
  | ok fl =>
    cases fl with
    | ret u => exact I.after hq
    | next => exact False.elim hq
    | brk => exact False.elim hq
    | cont => exact False.elim hq
theorem r_call0 (G : Def X.prog X.w X.K X.mg X.base T k x f fd [] F) (hr : Room k X.A) (hb : Binds X.K fd [] []) (tk : Takes X W) (hg : Gl X x := by rfl) (hdb : (x == ("__debug__" : Str)) = false := by decide) : PE X (.Call (.Name x p) [] [] pos) (tE T W (mOwn F [] mNil)) := by
  refine ⟨fun pins s σ H Q I ⟨φ, env, S, R, E, P⟩ => ?_⟩
  refine wpAny_Call_Name_kw (ld_glob I hg G.gl ?_ hdb)
  refine PySem.W.callWith_K0 I.kIn G.kp ?_
  exact run_fnW (ks := []) (ws := []) (us := []) (bs := []) (vs := []) G hr tk I (by simpa using hb s [] I.kIn rfl) .nil ⟨φ, S, [], R, .nil, P⟩
/-- what a call with keywords binds -/
structure KB (K : PySem.W.Frag) (fd : FuncData) (ps : List Str) (n : Nat) (ks : List Str) (ix : List Nat) : Prop where
  to : ∀ (s : Shared) (us ws : List Value), K.In s.heap → us.length = n → ws.length = ks.length → BindsTo s fd ⟨us, ks.zip ws⟩ (ps.zip (pick ix (us ++ ws)))
theorem PK_tA {kws : List Keyword} {t t' : TA} (h : PK X kws t) (w : ∀ σ H Q, t' σ H Q → t σ H Q) : PK X kws t' := ⟨fun pos pins s σ H Q I q => h.run pos pins s σ H Q I (w σ H Q q)⟩
theorem k_nil : PK X [] (tA T W mNil) := PK_tA pk_nil fun σ H Q ⟨φ, env, S, R, E, P⟩ => P φ H [] (Up.refl _ _) R .nil
theorem k_cons {nm : Option Str} {kpos : Pos} {m : Ex} (ha : PE X e (tE T W m)) (hr : PK X kws (tA T W mk)) : PK X (⟨nm, e, kpos⟩ :: kws) (tA T W (mCons m mk)) :=
  PK_tA (pk_cons ha hr) fun σ H Q ⟨φ, env, S, R, E, P⟩ => tE_bind R E P fun d S1 φ1 H1 v u1 R1 r1 E1 P1 => tA_bind R1 E1 P1 fun ds S2 φ2 H2 vs u2 R2 r2 E2 P2 => P2 φ2 H2 (v :: vs) (u1.trans u2) R2 (.cons (r1.up R1 u2) r2)
/-- the length of what is handed on -/
def lenIs (n : Nat) (ms : Exs) : Exs := fun env S => (ms env S).bind fun ds S1 => if ds.length = n then .ok ds S1 else .bad
theorem lenIs_tA {n : Nat} {σ : L2.St} {H : Hp} {Q : List V → Hp → Prop} (h : tA T W (lenIs n ms) σ H Q) : tA T W ms σ H fun vs H1 => vs.length = n ∧ Q vs H1 := by
  obtain ⟨φ, env, S, R, E, P⟩ := h
  exact tA_bind R E P fun ds S1 φ1 H1 vs u R1 r1 E1 P1 => by
    split at P1
    · rename_i hl
      exact ⟨by rw [← r1.1]; exact hl, P1 φ1 H1 vs u R1 r1⟩
    · exact False.elim P1
/-- f(k = v, ..) -/
theorem r_callK0 {ix : List Nat} (G : Def X.prog X.w X.K X.mg X.base T k x f fd ps F) (hr : Room k X.A) (hb : KB X.K fd ps 0 ks ix) (tk : Takes X W) (hkw : PK X kws (tA T W mk)) (hg : Gl X x := by rfl) (hall : (backToKw pos (keywordEach kws X.env)).all (·.1.isSome) = true := by rfl) (hks : (backToKw pos (keywordEach kws X.env)).filterMap (·.1) = ks := by rfl)
    (hdb : (x == ("__debug__" : Str)) = false := by decide)
    (hpl : ((backTo pos (starEach [] X.env)).any (·.1) || (backToKw pos (keywordEach kws X.env)).any (·.1.isNone)) = false := by rfl) :
    PE X (.Call (.Name x p) [] kws pos) (tE T W (mOwnK F ix mNil (lenIs ks.length mk))) := by
  refine ⟨fun pins s σ H Q I h => ?_⟩
  refine wpAny_Call_Name_kw (ld_glob I hg G.gl ?_ hdb)
  refine PySem.W.callWith_KW0 (h₀ := X.base) I.ok.mod.kin G.kp hall ?_ hpl
  obtain ⟨φ, env, S, R, E, P⟩ := h
  have P' : Post (okE T φ H Q) (erE T W φ H σ) ((lenIs ks.length mk env S).bind fun zs S2 => F (pick ix ([] ++ zs)) S2) := P
  have q : tA T W mk σ H fun vs H1 => vs.length = ks.length ∧ spM T F (pick ix vs) H1 Q (WE W σ) := lenIs_tA (tA_bind R E P' fun zs S1 φ1 H1 vs u R1 r1 E1 P1 => ⟨φ1, S1, pick ix zs, R1, r1.pick ix, P1.mono (fun _ _ x => x.up u) fun _ _ _ x => x⟩)
  refine thn (hkw.run pos pins s σ H _ I q) fun ws s2 ⟨zs, H2, I2, rz, l2, q2⟩ => ⟨I2.kIn, ?_⟩
  rw [hks]
  exact run_fnW (us := []) G hr tk I2 (hb.to s2 [] ws I2.kIn rfl (rz.length.symm.trans l2)) (Vals.pick (by simpa using rz) ix) (by simpa using q2)
/-- f(e, .., k = v, ..) -/
theorem r_callK {n : Nat} {ix : List Nat} (G : Def X.prog X.w X.K X.mg X.base T k x f fd ps F) (hr : Room k X.A) (hb : KB X.K fd ps n ks ix) (tk : Takes X W) (ha : PA X (e :: es) (tA T W ms)) (hkw : PK X kws (tA T W mk)) (hg : Gl X x := by rfl) (hall : (backToKw pos (keywordEach kws X.env)).all (·.1.isSome) = true := by rfl) (hks : (backToKw pos (keywordEach kws X.env)).filterMap (·.1) = ks := by rfl)
    (hdb : (x == ("__debug__" : Str)) = false := by decide) (he : starEach (e :: es) X.env = (false, eval e X.env) :: starEach es X.env := by rfl)
    (hpl : ((backTo pos (starEach (e :: es) X.env)).any (·.1) || (backToKw pos (keywordEach kws X.env)).any (·.1.isNone)) = false := by rfl) :
    PE X (.Call (.Name x p) (e :: es) kws pos) (tE T W (mOwnK F ix (lenIs n ms) (lenIs ks.length mk))) := by
  refine ⟨fun pins s σ H Q I h => ?_⟩
  refine wpAny_Call_Name_kw (ld_glob I hg G.gl ?_ hdb)
  obtain ⟨φ, env, S, R, E, P⟩ := h
  have q : tA T W ms σ H fun us H1 => us.length = n ∧ tA T W mk σ H1 fun vs H2 => vs.length = ks.length ∧ spM T F (pick ix (us ++ vs)) H2 Q (WE W σ) :=
    lenIs_tA (tA_bind R E P fun ds S1 φ1 H1 us u1 R1 r1 E1 P1 => lenIs_tA (tA_bind R1 E1 P1 fun zs S2 φ2 H2 vs u2 R2 r2 E2 P2 => ⟨φ2, S2, pick ix (ds ++ zs), R2, RVs.pick ((r1.up R1 u2).append r2) ix, P2.mono (fun _ _ x => x.up (u1.trans u2)) fun _ _ _ x => x⟩))
  refine PySem.W.callWith_KW (h₀ := X.base) I.ok.mod.kin G.kp hall (thn (ha.run pos pins s σ H _ I q) fun us s1 ⟨vs, H1, I1, r, l1, q1⟩ => ?_) hpl he
  refine thn (hkw.run pos pins s1 σ H1 _ I1 q1) fun ws s2 ⟨zs, H2, I2, rz, l2, q2⟩ => ⟨I2.kIn, ?_⟩
  rw [hks]
  exact run_fnW G hr tk I2 (hb.to s2 us ws I2.kIn (r.length.symm.trans l1) (rz.length.symm.trans l2)) (Vals.pick (r.append rz) ix) q2
end
end MR

/-! M8: an own error class over ValueError (by way of another own class) whose __init__ says super().__init__() and keeps one field. -/
namespace PySem
namespace ErX
open PySem.W PySem.Calls PyProof.Rows PySem.HandSPX

/-! ### the text of __init__ -/
def iA (p1 p2 p3 : Pos) : Arguments := { posonlyargs := [], args := [{ arg := "self", annotation := none, pos := p1 }, { arg := "value", annotation := none, pos := p2 }], vararg := none, kwonlyargs := [], kw_defaults := [], kwarg := none, defaults := [.Constant .none 0 p3] }
def iB (q1 q2 q3 q4 q5 r1 r2 r3 r4 : Pos) : List Stmt := [.Expr (.Call (.Attribute (.Call (.Name "super" q1) [] [] q2) "__init__" q3) [] [] q4) q5, .Assign [.Attribute (.Name "self" r1) "value" r2] (.Name "value" r3) r4]
def iS : Scope := { kind := .function, names := [(PySem.Str.ofString "self", .local), (PySem.Str.ofString "value", .local), (PySem.Str.ofString "__class__", .free), (PySem.Str.ofString "super", .globalImplicit)], isGenerator := false, isCoroutine := false, more := [] }
/-- what the written part says of such a class at C, its __init__ at fI -/
structure ErrTxt (prog : Program) (K : Frag) (mg : Str → Option Value) (x : Str) (C fI : Addr) : Prop where
  gC : mg x = some (.ref C)
  cls : ∃ nm q N bs bm sn sub ab col dd k0 k1 k2 k3 k5, K.lookup C = some (excClassObj nm q C N bs bm true sn sub ab col dd k0 k1 k2 k3 k5 "ValueError.__new__") ∧ refsVE bm = true ∧ alongIn K "__init__" (((Value.ref C :: bm).dropWhile (· != .ref C)).drop 1) = some (some (.builtin "ValueError.__init__"))
  sa : findIn K (.ref C) "__setattr__" = some (some (.builtin "object.__setattr__"))
  ga : findIn K (.ref C) "__getattribute__" = some (some (.builtin "BaseException.__getattribute__"))
  gg : findIn K (.ref C) "__getattr__" = some none
  noN : findIn K (.ref C) "value" = some none
  iC : findIn K (.ref C) "__init__" = some (some (.ref fI))
  tC : typeIn K (.ref fI) = some (.type "function")
  kC : keepIn K (.ref C) = true
  exC : subIn K (.ref C) (.type "BaseException") = some true
  veC : subIn K (.ref C) (.type "ValueError") = some true
  meC : mroIn K C (.ref C) = some true
  tyC : typeIn K (.ref C) = some (.type "type")
  hdC : hasDictIn K C = true
  te : exmOne K (.ref C) (.ref C) = some true
  opq : nsIn K cStatics "thirdparty.any" = some none
  sup : mg "super" = none
  htop : (prog.main.scope.names.lookup ("super" : Str)).isSome = false
  fn : ∃ (oc : Value) (od : Option Addr) (qual : Str) (DV : Addr) (doc pm : Value) (an : Option Addr) (cda cc : Addr) (ct kV : Value) (osl : Array (Option Value)) (p1 p2 p3 q1 q2 q3 q4 q5 r1 r2 r3 r4 : Pos),
    K.lookup fI = some ⟨oc, od, .func (ksFn "__init__" qual (iA p1 p2 p3) (iB q1 q2 q3 q4 q5 r1 r2 r3 r4) iS (.ref DV) kV doc pm an (.ref cda) ct cc), osl⟩ ∧ codeIn K (.ref cda) qual = true ∧
    (∃ (o : Obj) (u : Value) (n : Nat), K.lookup DV = some o ∧ o.data = .seq #[u] n) ∧
    (∃ (cl : Value) (cld : Option Addr) (csl : Array (Option Value)), K.lookup cc = some ⟨cl, cld, .cell (some (.ref C)), csl⟩) ∧
    (∃ (ccl : Value) (cdd : Option Addr) (vs : Array Value) (ccs : Array (Option Value)) (file : Str) (tf : Tok), K.lookup cda = some ⟨ccl, cdd, .fields vs, ccs⟩ ∧ vs[2]? = some (.str file tf) ∧ ((prog.main.file : Str) == file) = true) ∧ (q3.endLine == q4.line) = true
structure InitEnd (h h' : Heap) (x C dx : Addr) (v : Value) : Prop where
  keep : ∀ b o, b ≠ x → h.get? b = some o → h'.get? b = some o
  obj : ∃ t1 : Addr, h'.get? x = some { cls := .ref C, dict := some dx, data := .fields #[.ref t1, .none, .none, .none, .bool false, .none] }
  dbig : h.objs.size ≤ dx
  dne : dx ≠ x
  ns : h'.Ns1 dx (fun y => if y = "value" then some v else none)
section
variable {prog : Program} {w : World} {A : Around} {E : Value → Shared → Prop} {h : Heap} {g : Array GenState} {d : Drawn} {t : Nat} {os : OsState}
variable {nm q : Str} {C N : Addr} {bs bm : List Value} {hdct : Bool} {sn : List Str} {sub : List Value} {ab : Bool} {col : Option Bool} {dd : Option Addr} {k0 k1 k2 k3 k5 : Option Value}
/-- ValueError.__init__, bound to e by the wrapper at u, is called: the arguments are laid anew in e -/
theorem call_mw {u e t0 : Addr} {more : List Value} {Q : Value → Shared → Prop} (cls : h.get? C = some (excClassObj nm q C N bs bm hdct sn sub ab col dd k0 k1 k2 k3 k5 "ValueError.__new__")) (err : h.get? e = some (excO C t0))
    (wrap : h.get? u = some (kxs_mw "ValueError.__init__" e)) (few : more.length ≤ sizeLine) (then_ : ∀ h' t1, (∀ b o, b ≠ e → h.get? b = some o → h'.get? b = some o) → h'.get? e = some (excO C t1) → Q .none ⟨h', g, d, t, os⟩) : wpAny (model prog w) A (call (.ref u) more) Q E ⟨h, g, d, t, os⟩ := by
  have isWrap : (Value.type "method-wrapper" == Value.type "method" || Value.type "method-wrapper" == Value.type "builtin_function_or_method" || Value.type "method-wrapper" == Value.type "method-wrapper") = true := by decide
  apply wpAny_call
  apply codeAny_of_tree
  show wpAny _ A.in1 (callAny (Value.ref u) { pos := more, kw := [] }) _ _ _
  simp only [callAny]
  refine wpAny_bind (wpAny_load wrap ?ran)
  simp only [kxs_mw, isWrap, if_true]
  refine W.KFB.if_so (by decide) (wpAny_bind (check_bound_init F.excBase_ValueError.toExcCallFacts cls err rfl (wpAny_bind (wpAny_pure (wpAny_pure ⟨Code.quiet_builtin _ (by decide +kernel), codeAny_builtin F.excBase_ValueError.initEntry ?laid⟩)))))
  rw [Around.under_plainId F.excBase_ValueError.init.plain _]
  wp_walk
  refine then_ _ h.objs.size (fun b o ne at_ => (Heap.get?_update_other _ _ ne.symm).trans (Heap.get?_push_of_some _ at_)) ?same
  exact (Heap.get?_update_self _ (Heap.get?_push_of_some _ err) rfl).trans rfl
end
section
variable {M : Model} {A : Around} {c : Code} {E : Value → Shared → Prop} {s : Shared} {env : Env}
theorem wpAt_MC0 {o : Expr} {name : Str} {apos pos : Pos} {Q : Value → Shared → Prop} (hline : (apos.endLine == pos.line) = true)
    (h : _root_.PySem.wpAt M A c (attributeBase o name env (eval o env)) (fun ov s₁ => wpAny M A (calleeOf true o env ov name) (fun fx s₂ => wpAny M A (callWith pos fx.1 fx.2 [] []) Q E s₂) E s₁) E s) :
    _root_.PySem.wpAt M A c (eval (.Call (.Attribute o name apos) [] [] pos) env) Q E s := by
  rw [arm_eval_Call]
  refine wpAt_bind (wpAt_mono h (fun ov s₁ h₁ => wpAt_of_wpAny (wpAny_bind (wpAny_standAt ?_))) fun _ _ x => x)
  have here_ : methodCallPos true o env apos pos = pure pos := by
    simp [methodCallPos, hline]
  show wpAny _ _ (methodCall o name apos pos env ov 0 [] []) _ _ _
  unfold methodCall
  show wpAny _ _ (holding [ov] (calleeOf true o env ov name) >>= fun fx => methodCallPos true o env apos pos >>= fun p => callWith p fx.1 fx.2 [] []) _ _ _
  exact wpAny_bind (wpAny_holding (wpAny_mono h₁ (fun fx s₂ h₂ => wpAny_bind (wpAny_of_eq here_ h₂)) fun _ _ x => x))
end
section
variable {prog : Program} {w : World} {A : Around} {E : Value → Shared → Prop} {R : Result → Shared → Prop} {s : Shared} {K : Frag} {mg mb : Str → Option Value} {x : Str} {C fI : Addr}
theorem err_init (T : ErrTxt prog K mg x C fI) {e t0 : Addr} {v : Value} (X : K.In s.heap) (G : s.heap.Ns mainGlobals mg) (B : s.heap.Ns builtinsNs mb) (hB : mb "super" = some (.type "super")) (hlim : s.heap.NoLimit) (hx : s.heap.get? e = some (excO C t0)) (hnx : K.lookup e = none) (hroom : A.depth < recursionLimit)
    (hq : ∀ h' tk dx, InitEnd s.heap h' e C dx v → R (.ok (.ret .none)) { s with heap := h', toks := tk }) :
    codeAny (model prog w) A (.call (.ref fI) ⟨[.ref e, v], []⟩) R s := by
  obtain ⟨oc, od, qual, DV, doc, pm, an, cda, cc, ct, kV, osl, p1, p2, p3, q1, q2, q3, q4, q5, r1, r2, r3, r4, ho, hcd, ⟨oD, uD, nD, lD, dD⟩, ⟨cl, cld, csl, hcell⟩, ⟨ccl, cdd, cvs, ccs, file, tf, hcode, hvs, hfile⟩, hline⟩ := T.fn
  obtain ⟨nm, q, N, bs, bm, sn, sub, ab, col, dd, k0, k1, k2, k3, k5, hC, hbm, hal⟩ := T.cls
  have hcl : clsIn K C = some { name := nm, bases := bs, mro := .ref C :: bm, ns := N, qualname := q, hasDict := true, slotNames := sn, subclasses := sub, abstract := ab, collection := col, hasDel := false } := by unfold clsIn; rw [hC] <;> rfl
  refine ks_codeAny_call_defAt (fd := ksFn "__init__" qual (iA p1 p2 p3) (iB q1 q2 q3 q4 q5 r1 r2 r3 r4) iS (.ref DV) kV doc pm an (.ref cda) ct cc) (body := iB q1 q2 q3 q4 q5 r1 r2 r3 r4) (binds := [("self", .ref e), ("value", v)]) hroom (X _ _ ho) rfl hlim (codeRec_of X hcd) rfl
    (binds_K (items := #[uD]) (k := fun its => _) X rfl lD dD rfl rfl) (show ∀ x ∈ iS.names, x.2 ≠ .cell from by decide +kernel) (locs rfl) (fun h₀ hns k => ?_) rfl rfl rfl
  have X₀ : K.In h₀ := X.keeps k
  have hx₀ := k _ _ hx
  have hC₀ := X₀ _ _ hC
  have eL : e ≠ s.heap.objs.size := Nat.ne_of_lt (Heap.lt_size hx)
  have IX : PySem.W.InstAt h₀ e (excO C t0) C none := ⟨hx₀, rfl, rfl, trivial⟩
  -- super().__init__()
  show _root_.PySem.wpAt _ _ _ (execs (_ :: _) _) _ _ _
  refine ks_wpAt_execs_cons (ks_wpAt_Expr_any (wpAt_MC0 hline ?_))
  refine ks_wpAt_super_base (ar := { arg := "self", annotation := none, pos := p1 }) rfl rfl (by decide +kernel) rfl (X₀ _ _ ho) rfl rfl rfl (X₀ _ _ hcode) rfl hvs hfile T.htop ?_
  refine ks_loadName_global rfl rfl (loadGlobal_builtin (G.keeps k) T.sup (B.keeps k) hB ⟨rfl, ?_⟩)
  refine wpAny_loadName_free rfl rfl rfl ⟨_, X₀ _ _ hcell, rfl⟩ ?_
  refine wpAny_loadName_local rfl rfl hns (v := .ref e) (by first | rfl | kernel_rfl) ?_
  refine ks_wpAny_isType_cls hC₀ rfl ⟨rfl, ?_⟩
  refine ks_wpAny_call_super hC₀ rfl hx₀ rfl (fun c z => by cases z) (looks_mroIn X₀ T.meC) (fun h1 e1 k1 => ?_)
  have X1 : K.In h1 := X₀.keeps k1
  have hx1 := k1 _ _ hx₀
  have I1 : PySem.W.InstAt h1 e (excO C t0) C none := ⟨hx1, rfl, rfl, trivial⟩
  have eL1 : e ≠ h₀.objs.size := Nat.ne_of_lt (Heap.lt_size hx₀)
  refine wpAny_mono (Q := fun fx s' => fx = (.ref h1.objs.size, []) ∧ ∃ tk, s' = { s with heap := h1.push (kxs_mw "ValueError.__init__" e), toks := tk }) (E := fun _ _ => False) (kxs_getMethod kxs_ValueError e1 (looks_opaque X1 T.opq) (fun A Q E s k q => wpAny_bind ((looks_clsIn X1 hcl) A _ E s k (wpAny_pure q))) rfl X1 hal (I1.type.andThen (looks_subIn X1 T.veC)) (ks_ne X1 I1 hcl) (by decide) ⟨rfl, _, rfl⟩) (fun fx s' hh => ?_) fun _ _ z => z.elim
  obtain ⟨rfl, tk2, rfl⟩ := hh
  have k2 : ∀ b o, h1.get? b = some o → (h1.push (kxs_mw "ValueError.__init__" e)).get? b = some o := fun b o q => Heap.get?_push_of_some _ q
  refine kxs_callWith (i := "ValueError.__init__") (x := e) rfl (evalArgs_empty ⟨(Heap.get?_push_at rfl rfl : (h1.push (kxs_mw "ValueError.__init__" e)).get? h1.objs.size = some _), ?_⟩)
  refine call_mw (k2 _ _ (X1 _ _ hC)) (k2 _ _ hx1) (Heap.get?_push_at rfl rfl) (by rw [sizeLine_eq]; exact Nat.zero_le _) (fun h2 t1 k3 hx2 => ?_)
  have kk : ∀ b o, b ≠ e → h₀.get? b = some o → h2.get? b = some o := fun b o hb z => k3 b o hb (k2 b o (k1 b o z))
  have X2 : K.In h2 := fun a o z => kk a o (fun q => by rw [q, hnx] at z; cases z) (X₀ _ _ z)
  have hns2 := hns.at (fun o q => kk _ o (Ne.symm eL) q)
  refine wpAt_of_wpAny ?_
  show wpAny _ _ (execs (_ :: _) _) _ _ _
  refine wpAny_execs_cons (plainObj_wpAny_Assign_Attribute ?_)
  refine wpAny_Name (wpAny_loadName_local rfl rfl hns2 (v := v) (by first | rfl | kernel_rfl) ?_) (by decide)
  refine wpAny_Name (wpAny_loadName_local rfl rfl hns2 (v := .ref e) (by first | rfl | kernel_rfl) ?_) (by decide)
  refine set_plain X2 (ox := excO C t1) (od := none) ⟨hx2, rfl, rfl, trivial⟩ T.sa ?_
  refine exc_osa X2 hx2 hcl (show refsVE (.ref C :: bm) = true from hbm) rfl T.noN (fun h₃ tk₃ dx k₃ dn dne hx₃ hn₃ => ?_)
  show wpAny _ _ (execs _ _) _ _ _
  have z : s.heap.objs.size ≤ h2.objs.size := Nat.le_of_lt hns2.lt
  exact wpAny_execs_nil (hq h₃ tk₃ dx ⟨fun b o hb q => k₃ b o hb (kk b o hb (k b o q)), ⟨t1, hx₃⟩, Nat.le_trans z dn, dne, hn₃⟩)
end
end ErX
end PySem

/-! M9: own errors: made, raised, caught by a name, asked. -/
namespace PySem
namespace ErX
open PySem.W PySem.Calls PyProof.Rows PySem.HandSPX
theorem one_size (v : Value) : [v].length ≤ sizeLine := by
  rw [sizeLine_eq]
  exact (by decide : 1 ≤ 16777216)
/-- a made error -/
structure OwnMade (h h' : Heap) (e C d : Addr) (v : Value) : Prop where
  keep : ∀ b o, h.get? b = some o → h'.get? b = some o
  new : h.objs.size ≤ e
  obj : ∃ oe vs, h'.get? e = some oe ∧ oe.cls = .ref C ∧ oe.dict = some d ∧ oe.data = .fields vs ∧ vs[1]? = some .none
  dbig : h.objs.size ≤ d
  dne : d ≠ e
  ns : h'.Ns1 d (fun y => if y = "value" then some v else none)
section
variable {prog : Program} {w : World} {A : Around} {R : Result → Shared → Prop} {s : Shared} {K : Frag} {mg mb : Str → Option Value} {x : Str} {C fI : Addr}
theorem err_made (T : ErrTxt prog K mg x C fI) {v : Value} (X : K.In s.heap) (G : s.heap.Ns mainGlobals mg) (B : s.heap.Ns builtinsNs mb) (hB : mb "super" = some (.type "super")) (hlim : s.heap.NoLimit) (hroom : A.depth + 1 < recursionLimit)
    (hq : ∀ h' tk e d, OwnMade s.heap h' e C d v → R (.ok (.ret (.ref e))) { s with heap := h', toks := tk }) :
    codeAny (model prog w) A (.call (.ref C) ⟨[v], []⟩) R s := by
  obtain ⟨nm, q, N, bs, bm, sn, sub, ab, col, dd, k0, k1, k2, k3, k5, hC, hbm, hal⟩ := T.cls
  obtain ⟨hp, g, dr, tk, os⟩ := s
  have k : ∀ b o, hp.get? b = some o → ((hp.push (kdv_tup [v])).push (excO C hp.objs.size)).get? b = some o := fun b o e => Heap.get?_push_of_some _ (Heap.get?_push_of_some _ e)
  have hget : ((hp.push (kdv_tup [v])).push (excO C hp.objs.size)).get? (hp.objs.size + 1) = some (excO C hp.objs.size) := by heap_get
  have hnx : K.lookup (hp.objs.size + 1) = none := by
    cases e : K.lookup (hp.objs.size + 1) with
    | none => rfl
    | some o =>
      have z : hp.get? (hp.objs.size + 1) = some o := X _ _ e
      exact absurd (Nat.lt_of_succ_lt (Heap.lt_size z)) (Nat.lt_irrefl _)
  refine call_own F.excBase_ValueError (fun X => refsVE_contains X bm hbm) (X _ _ hC) (looks_findIn X T.iC) (fun self => bind_fn X self T.tC) (one_size v) ?_
  refine err_init (s := ⟨(hp.push (kdv_tup [v])).push (excO C hp.objs.size), g, dr, tk, os⟩) T (X.keeps k) (G.keeps k) (B.keeps k) hB (hlim.keeps k) hget hnx ?_ fun h' tk' dx IE => ?_
  · show A.depth + 1 < recursionLimit
    exact hroom
  · obtain ⟨k', ⟨t1, hx⟩, dn, dne, hns⟩ := IE
    have old : ∀ b o, hp.get? b = some o → h'.get? b = some o := fun b o e => k' b o (Nat.ne_of_lt (Nat.lt_succ_of_lt (Heap.lt_size e))) (k b o e)
    have z : hp.objs.size + 1 + 1 ≤ dx := by
      first
        | (simpa only [Heap.size_push] using dn)
        | exact dn
        | (have q := dn; rw [Heap.size_push, Heap.size_push] at q; exact q)
    exact ⟨rfl, hq h' tk' (hp.objs.size + 1) dx ⟨old, Nat.le_succ _, ⟨_, _, hx, rfl, rfl, rfl, rfl⟩, Nat.le_trans (Nat.le_trans (Nat.le_succ _) (Nat.le_succ _)) z, dne, hns⟩⟩
end
end ErX
end PySem
namespace MR
open PySem PySem.Spec L2 PyProof.Rows
theorem relO_fV {v : V} {v' : Value} (r : RelV v v') (f : Str) : RelO (List.lookup f (fV v)) (if f = "value" then some v' else none) := by
  unfold fV
  by_cases hw : f = "value"
  · subst hw
    rw [if_pos rfl]
    have q : List.lookup ("value" : Str) [(("value" : Str), v)] = some v := by simp [List.lookup]
    rw [q]
    exact r
  · rw [if_neg hw]
    have qw : (f == ("value" : Str)) = false := by simpa using hw
    have q2 : List.lookup f [(("value" : Str), v)] = none := by simp [List.lookup, qw]
    rw [q2]
    trivial
section
variable {X : Cx} {C fI : Addr} {x : Str}
/-- x(e) -/
def tMk (C : Addr) (ta : TA) : L2.St → Hp → XK → Prop := fun σ H Q => ta σ H fun vs H1 => ∃ v, vs = [v] ∧ ∀ d, H1 d = none → Q (.ref C) (some d) (upd H1 d (.xd (fV v)))
theorem pmk_err {a : Expr} {ta : TA} {p pos : Pos} {k : Nat} (T : PySem.ErX.ErrTxt X.prog X.K X.mg x C fI) (hr : Room k X.A) (ha : PA X [a] ta) (hg : Gl X x := by rfl) (hdb : (x == ("__debug__" : Str)) = false := by decide)
    (he : starEach (a :: []) X.env = (false, eval a X.env) :: starEach [] X.env := by rfl) (hpl : (backTo pos (starEach [] X.env)).any (·.1) = false := by rfl) :
    PMk X (.Call (.Name x p) [a] [] pos) (tMk C ta) := by
  intro pins s σ H Q I h
  refine wpAny_Call_Name_kw (ld_glob I hg T.gC ?_ hdb)
  refine PySem.W.callWith_K (h₀ := X.base) I.ok.mod.kin T.kC (thn (ha.run pos pins s σ H _ I h) fun us s1 hh => ?_) he hpl
  obtain ⟨vs, H1, I1, r1, v, ev, q1⟩ := hh
  subst ev
  refine ⟨I1.kIn, ?_⟩
  cases r1 with
  | cons rv rn =>
    rename_i v' us'
    cases rn
    show wpAny _ _ (call (.ref C) [v']) _ _ _
    have hlim := I1.nolimit
    obtain ⟨mb, b1, b2⟩ := I1.mod.blt
    have gG : s1.heap.Ns mainGlobals X.mg := I1.mod.glob.keeps I1.bk
    have gB : s1.heap.Ns builtinsNs mb := b1.keeps I1.bk
    have gS : mb "super" = some (.type "super") := (b2 "super" (by decide)).trans (by decide +kernel)
    obtain ⟨hp, g, dr, tk, os⟩ := s1
    refine wpAny_call (PySem.ErX.err_made T I1.kIn gG gB gS hlim (by have := hr.dp; omega) fun h' tk' e d M => ?_)
    show MkP X pins σ Q (.ref e) ⟨h', g, dr, tk', os⟩
    obtain ⟨oe, fv, hoe, hc, hd, hdat, h1⟩ := M.obj
    have hns := M.ns
    obtain ⟨G', g1, g2⟩ := restrict h' fun b => decide (b ≠ e)
    have gk : ∀ b, b ≠ e → G'.get? b = h'.get? b := fun b hb => g1 b (decide_eq_true hb)
    have ge : G'.get? e = none := g2 e (by simp)
    have old : ∀ b o, hp.get? b = some o → G'.get? b = some o := fun b o q => (gk b (Nat.ne_of_lt (Nat.lt_of_lt_of_le (Heap.lt_size q) M.new))).trans (M.keep b o q)
    have ob : ObjOk X.prog X.w (upd H1 d (.xd (fV v))) G' d (.xd (fV v)) :=
      ⟨_, hns.at (fun o q => (gk d M.dne).trans q), fun f => relO_fV rv f⟩
    have J : Inv X pins σ (upd H1 d (.xd (fV v))) ⟨G', g, dr, tk', os⟩ := I1.laid (t' := tk') old M.dbig ob
    refine ⟨e, oe, fv, ⟨G', g, dr, tk', os⟩, _, .ref C, some d, rfl, J, fun b o q => ?_, ge, hoe, ⟨hc, hd⟩, hdat, h1, ?_, rfl, I1.bare, raises_own T.exC T.tyC, q1 d (I1.hok.fresh M.dbig)⟩
    · by_cases hb : b = e
      · have q' : G'.get? b = some o := q
        rw [hb, ge] at q'; cases q'
      · exact (gk b hb).symm.trans q
    · rw [upd_ne (Ne.symm M.dne)]
      exact I1.hok.fresh M.new
/-- raise x(e) -/
def mRaise (c : Str) (m : Ex) : SM := fun env S => (m env S).toS env fun d S1 => .err c d env S1
theorem s_raise {T : Ct} {W : WX} {a : Expr} {m : Ex} {p pos pos2 : Pos} {k : Nat} (hc : X.calm = true) (G : PySem.ErX.ErrTxt X.prog X.K X.mg x C fI) (hca : T.ca x = C) (hr : Room k X.A) (tk : Takes X W) (ha : PE X a (tE T W m)) (hg : Gl X x := by rfl) (hdb : (x == ("__debug__" : Str)) = false := by decide)
    (he : starEach (a :: []) X.env = (false, eval a X.env) :: starEach [] X.env := by rfl) (hpl : (backTo pos (starEach [] X.env)).any (·.1) = false := by rfl) :
    PS X (.Raise (some (.Call (.Name x p) [a] [] pos)) none pos2) (tS T W (mRaise x m)) := weakS (ps_raise hc tk (pmk_err G hr (pa_cons ha pa_nil he) hg hdb he hpl)) fun E σ H ⟨φ, env, S, R, Ev, P⟩ => by
  refine tE_st R Ev P fun d S1 φ1 H1 v u R1 r1 E1 P1 => ?_
  refine ⟨v, rfl, fun dd hn => ?_⟩
  obtain ⟨R2, u2⟩ := R1.laid (o := .xd (fV v)) hn
  rw [← hca]
  exact P1 φ1 _ σ dd v u2 R2 (E1.up R1 u2) (r1.up R1 u2) upd_same
end
end MR

/-! M10: try .. except X as e; what the suites ask of e. -/
namespace MR
open PySem PySem.Spec L2 PyProof.Rows
/-! ### several clauses, each with a name -/
def wAsMany (K : PySem.W.Frag) (Wout : WX) (D : Ends) : List (Value × Nat × (Addr → Value → Option Addr → TS)) → WX
  | [] => Wout
  | (c, i, ts) :: r => fun cls d σ H => ∃ b, PySem.W.exmOne K cls c = some b ∧
    (b = true → ∀ a, H a = none → ts a cls d { nx := fun σ' H' => D.nx (σ'.set i none) H', rt := D.rt, bk := fun σ' H' => D.bk (σ'.set i none) H', ct := fun σ' H' => D.ct (σ'.set i none) H' } (σ.set i (some (.ref a))) H) ∧ (b = false → wAsMany K Wout D r cls d σ H)
inductive HdsA (X : Cx) : List ExceptHandler → List (Value × Nat × (Addr → Value → Option Addr → TS)) → Prop
  | nil : HdsA X [] []
  | cons {x n : Str} {c : Value} {i : Nat} {ts : Addr → Value → Option Addr → TS} {b₀ : Stmt} {suite : List Stmt} {np pos' : Pos} {hds : List ExceptHandler} {l : List (Value × Nat × (Addr → Value → Option Addr → TS))} (hc : Names X x c) (hi : X.N[i]? = some n) (hln : X.env.kindOf n = some .local)
      (hsu : ∀ (a : Addr) (oe : Obj) (cls : Value) (d : Option Addr) (pn : List (Addr × Obj)), Zc cls d oe → (∃ vs, oe.data = .fields vs) → PSs (X.suite a ((a, oe) :: pn)) (b₀ :: suite) (ts a cls d)) (r : HdsA X hds l) :
      HdsA X (.ExceptHandler (some (.Name x np)) (some n) (b₀ :: suite) pos' :: hds) ((c, i, ts) :: l)
section
variable {X : Cx} {Wout : WX} {D : Ends} {ps0 : List (Addr × Obj)}
/-- an error e that was caught in the frame of X: all that the clauses may lean on (B: the ground; t0: the state without it; t1: as it lies now) -/
structure Caught (X : Cx) (ps0 : List (Addr × Obj)) (st : L2.St) (hp : Hp) (kl : Value) (dc : Option Addr) (e : Addr) (B : Heap) (t0 t1 : Shared) : Prop where
  inv : Inv X ps0 st hp t0
  kept : ∀ b o, t0.heap.get? b = some o → b ∉ frs X.stack → B.get? b = some o
  slots : t0.heap.UpToSlots t1.heap
  fly : HandSPX.FlyingZ B X.stack e (Zc kl dc) t1.heap
  none_ : hp e = none
  os : t1.os = t0.os
  bare : AllBare t1.gens
section
variable {st : L2.St} {hp : Hp} {kl : Value} {dc : Option Addr} {e : Addr} {B : Heap} {t0 t1 : Shared}
theorem Caught.now (c : Caught X ps0 st hp kl dc e B t0 t1) : Inv X ps0 st hp t1 := c.inv.landed c.kept c.fly.1 c.slots c.os c.bare
/-- e is no frame's namespace -/
theorem Caught.apart (c : Caught X ps0 st hp kl dc e B t0 t1) : e ∉ frs X.stack := fun inFrame => by
  have ⟨oe, vs, atE, _, isF⟩ := c.fly.there
  have ⟨_, o2, at2, noF⟩ := c.fly.2.2.1.mem inFrame
  rw [atE] at at2
  injection at2 with same
  exact noF vs (same ▸ isF)
theorem Caught.off (c : Caught X ps0 st hp kl dc e B t0 t1) (hs : X.stack = X.env :: X.outer) (hf : X.env.frame = some X.env.locals) : e ≠ X.env.locals ∧ e ∉ X.fs := by
  have out := c.apart
  rw [hs] at out
  constructor
  · intro same
    exact out (by unfold frs; rw [List.filterMap_cons_some hf]; exact same ▸ List.mem_cons_self)
  · intro inOuter
    refine out ?_
    unfold frs
    rw [List.filterMap_cons_some hf]
    exact List.mem_cons_of_mem _ inOuter
/-- the same error behind another landing -/
theorem Caught.again (c : Caught X ps0 st hp kl dc e B t0 t1) {g : Heap} (fl : HandSPX.FlyingZ B X.stack e (Zc kl dc) g) (up : t1.heap.UpToSlots g) : Caught X ps0 st hp kl dc e B t0 { t1 with heap := g } :=
  ⟨c.inv, c.kept, c.slots.trans up, fl, c.none_, c.os, c.bare⟩
/-- no clause takes it: it goes on -/
theorem Caught.pass (c : Caught X ps0 st hp kl dc e B t0 t1) (hf : X.env.frame = some X.env.locals) (tk : Takes X Wout) (w : Wout kl dc st hp) : wpAny (model X.prog X.w) X.A (handleBy (.ref e) X.env []) (SP X ps0 D) X.xe t1 := by
  apply wpAny_handleBy_nil
  have ⟨_, _, _, _, _, tb, _, _, atE, _, isF, one, _⟩ := c.fly
  have out : wpAny (model X.prog X.w) X.A (setFlight (.ref e) X.env.frame) (fun _ t2 => wpAny (model X.prog X.w) X.A (throw (.ref e) : Sem Flow) (SP X ps0 D) X.xe t2) X.xe t1 := by
    rw [hf]
    exact HandSPX.setFlight_upZ c.fly fun g held up => wpAny_throw (tk _ _ ⟨e, B, t0, ps0, st, hp, kl, dc, rfl, c.inv, c.kept, c.slots.trans up, .inr (.inr held), c.none_, c.os, c.bare, w⟩)
  unfold PySem.passOn
  apply wpAny_bind
  apply wpAny_field atE isF one
  have ne : ¬ ((Value.ref tb == Value.none) = true) := by simp
  rw [if_neg ne]
  first
    | exact wpAny_bind (wpAny_pure (wpAny_bind out))
    | exact wpAny_bind out
/-- the clauses, from the first on -/
theorem Caught.clauses (hs : X.stack = X.env :: X.outer) (hf : X.env.frame = some X.env.locals) (hN : X.N.Nodup) (tk : Takes X Wout) {hds : List ExceptHandler} {l : List (Value × Nat × (Addr → Value → Option Addr → TS))} (k : HdsA X hds l) :
    ∀ {t1 : Shared}, Caught X ps0 st hp kl dc e B t0 t1 → wAsMany X.K Wout D l kl dc st hp → wpAny (model X.prog X.w) X.A (handleBy (.ref e) X.env hds) (SP X ps0 D) X.xe t1 := by
  induction k with
  | nil => exact fun c w => c.pass hf tk w
  | @cons x n kx i ts b0 su np pc rest l2 nm hi hln suite more ih =>
    intro t1 c w
    have ⟨yes, asked, ifYes, ifNo⟩ := w
    have ⟨ne1, ne2⟩ := c.off hs hf
    have ⟨o1, v1, at1, z1, d1⟩ := c.fly.there
    have I1 := c.now.suite at1 d1 c.none_ ne1 ne2
    have kind : PySem.W.Looks (model X.prog X.w) t1.heap (typeOf (.ref e)) kl := fun _ _ _ _ same q => wpAny_typeOf_ref (same _ _ at1) (z1.1.symm ▸ q)
    have matched := PySem.W.exm_one (M := model X.prog X.w) c.now.kIn kind asked
    refine wpAny_handleBy_cons (codeAny_handlers_test ?_) (fun q => nomatch q)
    have named : ∀ {R : Value → Shared → Prop} {N : Value → Shared → Prop}, R kx t1 → wpAny (model X.prog X.w) (X.A.mark (some (.ref e))) (eval (.Name x np) X.env) R N t1 := by
      intro R N r
      have ⟨g1, g2, g3⟩ := nm
      rcases g3 with g3 | ⟨g3, g4, g5⟩
      · exact ld_glob (X := X.suite e ((e, o1) :: (X.pn ++ ps0))) I1 g1 g3 r g2
      · exact ld_blt (X := X.suite e ((e, o1) :: (X.pn ++ ps0))) I1 g1 g3 g4 r g5 g2
    apply named
    apply matched.here
    cases yes
    · exact ih c (ifNo rfl)
    · apply codeAny_handlers_suite_as
      apply HandSPX.lands_againZ c.fly
      intro g fl up
      have c2 := c.again fl up
      have ⟨o2, v2, at2, z2, d2⟩ := fl.there
      have I2 := c2.now.suite at2 d2 c.none_ ne1 ne2
      refine store_ok (X := X.suite e ((e, o2) :: (X.pn ++ ps0))) (v := .ref e) I2 hN hi (.inl hln) rfl (fun t3 I3 => ?_) (.inr hln)
      have body := (suite e o2 kl dc (X.pn ++ ps0) z2 ⟨v2, d2⟩).run [] t3 _ hp _ I3 (ifYes rfl e c.none_)
      have away : ∀ {t4 : Shared} {st4 : L2.St} {hp4 : Hp} {G : Shared → Prop}, Inv (X.suite e ((e, o2) :: (X.pn ++ ps0))) [] st4 hp4 t4 → (∀ t5, Inv X ps0 (st4.set i none) hp4 t5 → G t5) → wpAny (model X.prog X.w) X.A (do bindName X.env n .none; unbindBehindTheSuite X.env n pc) (fun _ t5 => G t5) X.xe t4 :=
        fun I4 on => gone_ok (I4.unsuite c.inv.ok) hN hi hln on
      refine wpAny_mono body (fun f t4 ended => ?_) fun _ _ none_ => none_.elim
      cases f with
      | ret u =>
        have ⟨v, st4, hp4, I4, rel, q⟩ := ended
        exact away I4 fun _ I5 => ⟨v, _, hp4, I5, rel, q⟩
      | next => have ⟨st4, hp4, I4, q⟩ := ended; exact away I4 fun _ I5 => ⟨_, hp4, I5, q⟩
      | brk => have ⟨st4, hp4, I4, q⟩ := ended; exact away I4 fun _ I5 => ⟨_, hp4, I5, q⟩
      | cont => have ⟨st4, hp4, I4, q⟩ := ended; exact away I4 fun _ I5 => ⟨_, hp4, I5, q⟩
end
theorem ps_try_asmany {body : List Stmt} {hd0 : ExceptHandler} {hds : List ExceptHandler} {l : List (Value × Nat × (Addr → Value → Option Addr → TS))} {pos : Pos} {tb : WX → TS} (hs : X.stack = X.env :: X.outer) (hf : X.env.frame = some X.env.locals) (hN : X.N.Nodup) (tk : Takes X Wout)
    (hb : ∀ (W : WX) (pn : List (Addr × Obj)) (xe : Value → Shared → Prop), Takes (X.tr pn xe) W → PassesOwn (model X.prog X.w) X.A X.env xe → PSs (X.tr pn xe) body (tb W)) (hh : HdsA X (hd0 :: hds) l) :
    PS X (.Try body (hd0 :: hds) [] [] pos) (fun D st hp => tb (wAsMany X.K Wout D l) D st hp) := by
  constructor
  intro ps0 t st hp D I h
  have frames : X.A.frames = some (X.env :: X.outer) := I.ok.frames.trans (congrArg some hs)
  let onError : Value → Shared → Prop := fun v t1 => wpAny (model X.prog X.w) X.A (noteFrame v X.env) (fun _ t2 => wpAny (model X.prog X.w) X.A (setFlight v none) (fun _ t3 => wpAny (model X.prog X.w) X.A (handleBy v X.env (hd0 :: hds)) (SP X ps0 D) X.xe t3) X.xe t2) X.xe t1
  have caught : Takes (X.tr (X.pn ++ ps0) onError) (wAsMany X.K Wout D l) := by
    intro u t1 air
    have ⟨e, B, t0, ps1, st1, hp1, kl, dc, is, J, kept, slots, sky, none_, os, bare, w⟩ := air
    subst is
    have J0 : Inv X ps0 st1 hp1 t0 := J.ofTry I.ok
    have sky0 : Sky B (X.env :: X.outer) e (Zc kl dc) X.env.locals t1.heap := hs ▸ sky
    show wpAny (model X.prog X.w) X.A (noteFrame (.ref e) X.env) _ _ _
    apply Sky.land Zc.steady frames hf sky0
    intro g fl up
    exact Caught.clauses hs hf hN tk hh ⟨J0, kept, slots.trans up, hs ▸ fl, none_, os, bare⟩ w
  apply wpAny_Try_except
  refine wpAny_mono ((hb _ (X.pn ++ ps0) onError caught PassesOwn.looking).run [] t st hp D (I.toTry _) h) (fun f t1 ended => ?_) fun _ _ is => is
  cases f with
  | ret u => have ⟨v, st1, hp1, J, rel, q⟩ := ended; exact ⟨v, st1, hp1, J.ofTry I.ok, rel, q⟩
  | next => have ⟨st1, hp1, J, q⟩ := ended; exact wpAny_execs_nil ⟨st1, hp1, J.ofTry I.ok, q⟩
  | brk => have ⟨st1, hp1, J, q⟩ := ended; exact ⟨st1, hp1, J.ofTry I.ok, q⟩
  | cont => have ⟨st1, hp1, J, q⟩ := ended; exact ⟨st1, hp1, J.ofTry I.ok, q⟩
end
/-! ### the relations do not ask what suites hold, but for the names -/
def Ct.plus (T : Ct) (p : Nat × Addr × Str × Addr) : Ct := { T with sx := p :: T.sx }
section
variable {T : Ct} {φ : List Addr} {S : Hs} {H : Hp}
theorem RV.sxs {sx' : List (Nat × Addr × Str × Addr)} {d : D} {v : V} (r : RV T φ H d v) : RV { T with sx := sx' } φ H d v := by
  induction r with
  | non => exact .non
  | bl b => exact .bl b
  | int i => exact .int i
  | str s => exact .str s
  | tup h l r ih => exact .tup h l ih
  | ref h => exact .ref h
  | ty n => exact .ty n
  | cls c => exact RV.cls (T := { T with sx := sx' }) c
  | fz h l r ih => exact .fz h l ih
  | er h hd r ih => exact .er h hd ih
  | key h => exact .key h
theorem RV.plus {p} {d : D} {v : V} (r : RV T φ H d v) : RV (T.plus p) φ H d v := r.sxs
theorem RV.minus {p} {d : D} {v : V} (r : RV (T.plus p) φ H d v) : RV T φ H d v := RV.sxs (T := T.plus p) (sx' := T.sx) r
theorem RC.sxs {sx' : List (Nat × Addr × Str × Addr)} {c : Cell} {a : Addr} (r : RC T φ H c a) : RC { T with sx := sx' } φ H c a := by
  cases r with
  | lst h r => exact .lst h ⟨r.1, fun i d v a b => (r.2 i d v a b).sxs⟩
  | fro h r => exact .fro h ⟨r.1, fun i d v a b => (r.2 i d v a b).sxs⟩
  | dic h r => exact .dic h ⟨r.1, fun i d v a b => ⟨(r.2 i d v a b).1, (r.2 i d v a b).2.sxs⟩⟩
  | dt h r => exact .dt h ⟨r.1, fun i d v a b => ⟨(r.2 i d v a b).1, (r.2 i d v a b).2.sxs⟩⟩
  | dtf h r => exact .dtf h ⟨r.1, fun i d v a b => ⟨(r.2 i d v a b).1, (r.2 i d v a b).2.sxs⟩⟩
  | odd hs h q r => exact .odd hs h q ⟨r.1, fun i d v a b => ⟨(r.2 i d v a b).1, (r.2 i d v a b).2.sxs⟩⟩
theorem RS.plus {p} (R : RS T φ S H) : RS (T.plus p) φ S H := ⟨R.wf, R.len, R.nd, fun n c a h1 h2 => (R.cell n c a h1 h2).sxs⟩
theorem RS.minus {p} (R : RS (T.plus p) φ S H) : RS T φ S H := ⟨R.wf, R.len, R.nd, fun n c a h1 h2 => RC.sxs (T := T.plus p) (sx' := T.sx) (R.cell n c a h1 h2)⟩
theorem RE.plus {i : Nat} {a dd : Addr} {c : Str} {d : D} {v : V} {env : EnvD} {σ : L2.St} (E : RE T φ H env σ) (hd : H dd = some (.xd (fV v))) (r : RV T φ H d v) : RE (T.plus (i, a, c, dd)) φ H (env.set i (some (.exc c d))) (σ.set i (some (.ref a))) := by
  refine ⟨by simp [E.1], fun j e h => ?_⟩
  by_cases hj : i = j
  · subst hj
    by_cases hi : i < env.length
    · rw [List.getElem?_set_self hi] at h
      cases h
      exact ⟨_, List.getElem?_set_self (by rw [← E.1]; exact hi), .sx (List.mem_cons_self) hd r.plus⟩
    · rw [List.getElem?_eq_none (by simpa using hi)] at h
      cases h
  · rw [List.getElem?_set_ne hj] at h
    obtain ⟨u, h1, h2⟩ := E.2 j e h
    refine ⟨u, by rw [List.getElem?_set_ne hj]; exact h1, ?_⟩
    cases h2 with
    | rv r => exact .rv r.plus
    | sx h3 h4 h5 => exact .sx (List.mem_cons_of_mem _ h3) h4 h5.plus
theorem RE.minus {i : Nat} {a dd : Addr} {c : Str} {env : EnvD} {σ : L2.St} (E : RE (T.plus (i, a, c, dd)) φ H env σ) : RE T φ H (env.set i none) (σ.set i none) := by
  refine ⟨by simp [E.1], fun j e h => ?_⟩
  by_cases hj : i = j
  · subst hj
    by_cases hi : i < env.length
    · rw [List.getElem?_set_self hi] at h
      cases h
    · rw [List.getElem?_eq_none (by simpa using hi)] at h
      cases h
  · rw [List.getElem?_set_ne hj] at h
    obtain ⟨u, h1, h2⟩ := E.2 j e h
    refine ⟨u, by rw [List.getElem?_set_ne hj]; exact h1, ?_⟩
    cases h2 with
    | rv r => exact .rv r.minus
    | sx h3 h4 h5 =>
      rcases List.mem_cons.mp h3 with h3 | h3
      · cases h3
        exact (hj rfl).elim
      · exact .sx h3 h4 h5.minus
end
/-! ### the mirror -/
abbrev Isa := Str → Str → Bool
def unS (i : Nat) : SRes → SRes
  | .nx env S => .nx (env.set i none) S
  | .rt d S => .rt d S
  | .bk env S => .bk (env.set i none) S
  | .ct env S => .ct (env.set i none) S
  | _ => .bad
def mHds (isa : Isa) : List (Str × Nat × SM) → Str → D → SM
  | [], c, d => fun env S => .err c d env S
  | (x, i, m) :: r, c, d => fun env S => if isa c x then unS i (m (env.set i (some (.exc c d))) S) else mHds isa r c d env S
def mTry (isa : Isa) (kn : List Str) (b : SM) (hs : List (Str × Nat × SM)) : SM := fun env S => match b env S with
  | .err c d env1 S1 => if c ∈ kn then mHds isa hs c d env1 S1 else .bad
  | r => r
abbrev Wn : WX := fun _ _ _ _ => False
/-- the clauses do what their mirrors do -/
inductive HdsM (X : Cx) (T : Ct) (isa : Isa) (kn : List Str) : List ExceptHandler → List (Str × Nat × SM) → Prop
  | nil : HdsM X T isa kn [] []
  | cons {x n : Str} {i : Nat} {m : SM} {b₀ : Stmt} {suite : List Stmt} {np pos' : Pos} {hds : List ExceptHandler} {l : List (Str × Nat × SM)} (hg : Gl X x) (hm : X.mg x = some (.ref (T.ca x))) (hex : ∀ c ∈ kn, PySem.W.exmOne X.K (.ref (T.ca c)) (.ref (T.ca x)) = some (isa c x)) (hi : X.N[i]? = some n) (hln : X.env.kindOf n = some .local)
      (hsu : ∀ (c : Str) (a dd : Addr) (oe : Obj) (pn : List (Addr × Obj)), c ∈ kn → Zc (.ref (T.ca c)) (some dd) oe → (∃ vs, oe.data = .fields vs) → PSs (X.suite a ((a, oe) :: pn)) (b₀ :: suite) (tS (T.plus (i, a, c, dd)) Wn m)) (r : HdsM X T isa kn hds l) (hdb : (x == ("__debug__" : Str)) = false := by decide) :
      HdsM X T isa kn (.ExceptHandler (some (.Name x np)) (some n) (b₀ :: suite) pos' :: hds) ((x, i, m) :: l)
def tsM (T : Ct) (kn : List Str) (i : Nat) (m : SM) : Addr → Value → Option Addr → TS := fun a cls d D σ H => ∃ c dd, c ∈ kn ∧ cls = .ref (T.ca c) ∧ d = some dd ∧ tS (T.plus (i, a, c, dd)) Wn m D σ H
def hsA (T : Ct) (kn : List Str) : List (Str × Nat × SM) → List (Value × Nat × (Addr → Value → Option Addr → TS))
  | [] => []
  | (x, i, m) :: r => (.ref (T.ca x), i, tsM T kn i m) :: hsA T kn r
theorem HdsM.a {X : Cx} {T : Ct} {isa : Isa} {kn : List Str} {hds : List ExceptHandler} {l : List (Str × Nat × SM)} (h : HdsM X T isa kn hds l) : HdsA X hds (hsA T kn l) := by
  induction h with
  | nil => exact .nil
  | cons hg hm hex hi hln hsu r hdb ih =>
    refine .cons ⟨hg, hdb, .inl hm⟩ hi hln (fun a oe cls d pn hz hf => ⟨fun pins s σ H D I h => ?_⟩) ih
    obtain ⟨c, dd, hc, rfl, rfl, h⟩ := h
    exact (hsu c a dd oe pn hc hz hf).run pins s σ H D I h
/-- what a suite's end means outside of it -/
theorem unS_ok {T : Ct} {W : WX} {φ : List Addr} {H : Hp} {D0 : Ends} {i : Nat} {a dd : Addr} {c : Str} {r : SRes} (P : PostS T W φ H D0 (unS i r)) :
    PostS (T.plus (i, a, c, dd)) Wn φ H { nx := fun σ' H' => D0.nx (σ'.set i none) H', rt := D0.rt, bk := fun σ' H' => D0.bk (σ'.set i none) H', ct := fun σ' H' => D0.ct (σ'.set i none) H' } r := by
  cases r with
  | nx env S => exact fun φ' H' σ' u R E => P φ' H' _ u R.minus E.minus
  | rt d S => exact fun φ' H' v u R r => P φ' H' v u R.minus r.minus
  | bk env S => exact fun φ' H' σ' u R E => P φ' H' _ u R.minus E.minus
  | ct env S => exact fun φ' H' σ' u R E => P φ' H' _ u R.minus E.minus
  | err c d env S => exact False.elim P
  | bad => exact False.elim P
theorem hds_ok {X : Cx} {T : Ct} {isa : Isa} {kn : List Str} {W : WX} {D0 : Ends} {hds : List ExceptHandler} {l : List (Str × Nat × SM)} (h : HdsM X T isa kn hds l) {φ : List Addr} {H : Hp} {S : Hs} {env : EnvD} {σ : L2.St} {c : Str} {d : D} {v : V} {dd : Addr} (hc : c ∈ kn) (R : RS T φ S H) (E : RE T φ H env σ)
    (r : RV T φ H d v) (hd : H dd = some (.xd (fV v))) (P : PostS T W φ H D0 (mHds isa l c d env S)) : wAsMany X.K W D0 (hsA T kn l) (.ref (T.ca c)) (some dd) σ H := by
  induction h with
  | nil => exact P φ H σ dd v (Up.refl _ _) R E r hd
  | @cons x n i m b₀ suite np pos' hds l hg hm hex hi hln hsu r' hdb ih =>
    unfold mHds at P
    refine ⟨isa c x, hex c hc, fun hb a ha => ?_, fun hb => ih ?_⟩
    · rw [if_pos hb] at P
      exact ⟨c, dd, hc, rfl, rfl, φ, env.set i (some (.exc c d)), S, R.plus, E.plus hd r, unS_ok P⟩
    · rw [hb, if_neg Bool.false_ne_true] at P
      exact P
theorem s_try {X : Cx} {T : Ct} {W : WX} {isa : Isa} {kn : List Str} {body : List Stmt} {h₀ : ExceptHandler} {hds : List ExceptHandler} {l : List (Str × Nat × SM)} {pos : Pos} {mb : SM} (hs : X.stack = X.env :: X.outer) (hf : X.env.frame = some X.env.locals) (hN : X.N.Nodup) (tk : Takes X W)
    (hb : ∀ (W : WX) (pn : List (Addr × Obj)) (xe : Value → Shared → Prop), Takes (X.tr pn xe) W → PassesOwn (model X.prog X.w) X.A X.env xe → PSs (X.tr pn xe) body (tS T W mb))
    (hh : HdsM X T isa kn (h₀ :: hds) l) : PS X (.Try body (h₀ :: hds) [] [] pos) (tS T W (mTry isa kn mb l)) := weakS (ps_try_asmany (tb := fun W => tS T W mb) hs hf hN tk hb hh.a) fun D0 σ H ⟨φ, env, S, R, E, P⟩ => by
  refine ⟨φ, env, S, R, E, ?_⟩
  unfold mTry at P
  cases e : mb env S with
  | err c d env1 S1 =>
    rw [e] at P
    by_cases hc : c ∈ kn
    · have P' : PostS T W φ H D0 (if c ∈ kn then mHds isa l c d env1 S1 else .bad) := P
      rw [if_pos hc] at P'
      exact fun φ' H' σ' dd v u R' E' r' x' => hds_ok hh hc R' E' r' x' (PostS.up u P')
    · have P' : PostS T W φ H D0 (if c ∈ kn then mHds isa l c d env1 S1 else .bad) := P
      rw [if_neg hc] at P'
      exact False.elim P'
  | _ =>
    rw [e] at P
    exact P
end MR

/-! M11: dicts that are only read; what a suite asks of its error; own classes as values. -/
namespace MR
open PySem PySem.Spec L2 PyProof.Rows
theorem upd_twice {H : Hp} {p : Addr} {x y : HO} : upd (upd H p x) p y = upd H p y := by
  funext b
  by_cases h : b = p
  · rw [h, upd_same, upd_same]
  · rw [upd_ne h, upd_ne h, upd_ne h]
/-- what was just made is only read from now on -/
def tLk (t : TE) : TE := fun σ H Q => t σ H fun v H1 => ∃ a u, v = .ref a ∧ H1 a = some u ∧ Mut (some u) ∧ ∀ od, Q v (upd H1 a (.frz od u))
theorem pe_lk {X : Cx} {e : Expr} {t : TE} (he : PE X e t) : PE X e (tLk t) := by
  refine ⟨fun pins s σ H Q I h => thn (he.run pins s σ H _ I h) fun u s1 ⟨v, H1, I1, r1, a, ob, ev, ha, hm, q⟩ => ?_⟩
  subst ev
  obtain ⟨od, I2⟩ := I1.lock ha hm
  exact ⟨_, _, I2, r1, q od⟩
section
variable {T : Ct} {φ : List Addr} {H : Hp} {S : Hs} {Q : VK}
theorem RKs.nil : RKs T φ H [] [] := ⟨rfl, fun i d v a _ => by simp at a⟩
theorem okE.newDic {ds : List (Key × D)} {vs : List (Key × V)} (R : RS T φ S H) (r : RKs T φ H ds vs) (P : okE T φ H Q (.ref S.n) (S.new (.dic ds))) : ∀ p od, H p = none → Q (.ref p) (upd H p (.frz od (.dK vs))) := fun p od hp => by
  obtain ⟨R', U⟩ := R.new (o := .frz od (.dK vs)) (c := .dic ds) hp fun φ' H' u h => .dic h (r.up R u)
  exact P _ _ _ U R' (.ref (by rw [List.getElem?_append_right (by rw [R.len]; exact Nat.le_refl _), R.len]; simp))
end
def mD0 : Ex := fun _ S => .ok (.ref S.n) (S.new (.dic []))
def mD1 (k : Key) (d : D) : Ex := fun _ S => .ok (.ref S.n) (S.new (.dic [(k, d)]))
section
variable {X : Cx} {T : Ct} {W : WX} {pos : Pos}
theorem r_dict0 : PE X (.Dict [] [] pos) (tE T W mD0) := weakE (pe_lk pe_dnewK) fun σ H Q ⟨φ, env, S, R, E, P⟩ => fun p hp =>
  ⟨p, .dK [], rfl, upd_same, trivial, fun od => by rw [upd_twice]; exact okE.newDic R .nil P p od hp⟩
theorem r_dict1 {ke ve : Expr} {k : Key} {v : V} {d : D} (hk : PE X ke (tC (kV k))) (hv : PE X ve (tC v)) (hr : ∀ φ H, RV T φ H d v) : PE X (.Dict [some ke] [ve] pos) (tE T W (mD1 k d)) :=
  weakE (pe_lk (pe_disp (pps_cons hk hv pps_nil) rfl rfl (by simp) (by simp))) fun σ H Q ⟨φ, env, S, R, E, P⟩ => fun p hp => by
    refine ⟨upd_same, [(k, v)], rfl, by simp, p, .dK [(k, v)], rfl, ?_, trivial, fun od => ?_⟩
    · rw [upd_twice]
      exact upd_same
    · have r : RKs T φ H [(k, d)] [(k, v)] := ⟨rfl, fun i x y a b => by
        cases i with
        | zero =>
          simp at a b
          subst a b
          exact ⟨rfl, hr φ H⟩
        | succ i => simp at a⟩
      have q := okE.newDic R r P p od hp
      rw [upd_twice, upd_twice]
      exact q
end
/-! ### list(d), d[k] -/
def rListDf : List V → Hp → VK → Prop := fun xs H Q => ∃ p o kvs, xs = [.ref p] ∧ H p = some (.frz o (.dK kvs)) ∧ ∀ q, H q = none → Q (.ref q) (upd H q (.lst (kvs.map fun kv => kV kv.1)))
/-- the made list's items are the keys -/
theorem keys_made {ks : List Key} {made : Array Value} (size : made.size = ks.length) (at_ : ∀ (j : Nat) (w : Value), made[j]? = some w → ∃ k, ks[j]? = some k ∧ keyIs k w = true) : Vals (ks.map kV) made.toList := by
  apply vals_of_at
  · exact (List.length_map ..).trans (size.symm.trans Array.length_toList.symm)
  · intro j x w hx hw
    rw [Array.getElem?_toList] at hw
    have ⟨k, hk, is⟩ := at_ j w hw
    rw [List.getElem?_map, hk] at hx
    injection hx with hx
    exact hx ▸ keyIs_rel is
theorem call_list_dKf {X : Cx} (hc : X.calm = true) : CallR X (.type "list") rListDf := by
  intro ps0 t st hp args us Q I rel ⟨p, o, kvs, is, locked, q⟩
  subst is
  have ⟨u, one, r1⟩ := vals1 rel
  subst one
  cases (show u = Value.ref p from r1)
  have ⟨notSys, _, _, _, ep, ws, _, _, kw, dict⟩ := I.frzK locked
  have fits : kvs.length ≤ sizeLine := (I.hok p _ locked).2.1
  have same : (ws.map (·.1)) = kvs.map (·.1) := kw.keys.symm
  have len : ws.length = kvs.length := (Paired.length kw).symm
  refine PySem.W.kdl_call (PySem.W.kdl_dict (knd := mixKind X.prog X.w) (kvs := ws) (ep := ep) notSys) (I.ok.hd hc) dict (len ▸ fits) fun g tk made cap keep listed each => ?_
  have vals : Vals (kvs.map fun kv => kV kv.1) made.toList := by
    have e : (kvs.map fun kv => kV kv.1) = (kvs.map (·.1)).map kV := by rw [List.map_map]; rfl
    rw [e]
    refine keys_made (by rw [List.length_map, each.1, len]) fun j w hw => ?_
    have ⟨k, y, atj, is⟩ := each.2 j w hw
    refine ⟨k, ?_, is⟩
    rw [← same, List.getElem?_map, atj]
    rfl
  have stands : ObjOk X.prog X.w (upd hp t.heap.objs.size (.lst (kvs.map fun kv => kV kv.1))) g t.heap.objs.size (.lst (kvs.map fun kv => kV kv.1)) :=
    ⟨by rw [List.length_map]; exact fits, made.toList, cap, vals, by rw [Array.toArray_toList]; exact listed⟩
  exact ⟨.ref t.heap.objs.size, _, I.laid keep (Nat.le_refl _) stands, rfl, q _ (I.hok.fresh (Nat.le_refl _))⟩
def listDF (ds : List D) (S : Hs) : Res D := match ds with
  | [.ref n] => match S.get n with
    | some (.dic kvs) => .ok (.ref S.n) (S.new (.lst (kvs.map fun kv => kD kv.1)))
    | _ => .bad
  | _ => .bad
theorem listD_no : NoErL listDF := fun ds S c d S' h => by
  unfold listDF at h
  repeat' (first | cases h | split at h)
theorem RVs.keys {T : Ct} {φ : List Addr} {H : Hp} : ∀ ks : List Key, RVs T φ H (ks.map kD) (ks.map kV)
  | [] => .nil
  | k :: ks => .cons (kD_rv k) (RVs.keys ks)
theorem listD_M {T : Ct} : CallM T rListDf listDF := by
  intro φ S H ds vs Q R r P
  unfold listDF at P
  split at P
  · rename_i n
    obtain ⟨v, rfl, r1⟩ := r.one
    cases r1 with
    | @ref n a q =>
      split at P
      · rename_i kvs hx
        obtain ⟨o, ws, hk, rk⟩ := R.dic q hx
        have rr : RVs T φ H (kvs.map fun kv => kD kv.1) (ws.map fun kv => kV kv.1) := by
          have e1 : (kvs.map fun kv => kD kv.1) = (kvs.map (·.1)).map kD := by rw [List.map_map] <;> rfl
          have e2 : (ws.map fun kv => kV kv.1) = (kvs.map (·.1)).map kV := by rw [← rk.keys, List.map_map] <;> rfl
          rw [e1, e2]
          exact RVs.keys _
        exact ⟨a, o, ws, rfl, hk, okE.newLst R rr P⟩
      · exact False.elim P
  · exact False.elim P
def keyD (d : D) : Option Key := match d with
  | .int i => some (.inl i)
  | .str x => some (.inr x)
  | _ => none
def valD (kvs : List (Key × D)) (k : Key) : Option D := (kvs.find? fun kv => decide (kv.1 = k)).map (·.2)
theorem valD_of {T : Ct} {φ : List Addr} {H : Hp} {k : Key} {d : D} : ∀ {kvs : List (Key × D)} {vs : List (Key × V)}, RKs T φ H kvs vs → valD kvs k = some d → ∃ v, valV vs k = some v ∧ RV T φ H d v
  | [], vs, r, h => by cases h
  | p :: kvs, [], r, h => by have := r.1; simp at this
  | p :: kvs, q :: vs, r, h => by
    obtain ⟨e, r0⟩ := r.2 0 p q rfl rfl
    by_cases hk : p.1 = k
    · have e1 : valD (p :: kvs) k = some p.2 := by simp [valD, List.find?_cons, hk]
      rw [e1] at h
      cases h
      exact ⟨q.2, valV_pos (e.symm.trans hk), r0⟩
    · have e1 : valD (p :: kvs) k = valD kvs k := by simp [valD, List.find?_cons, hk]
      rw [e1] at h
      obtain ⟨v, h1, h2⟩ := valD_of (kvs := kvs) (vs := vs) ⟨by have := r.1; simpa using this, fun i x y a b => r.2 (i + 1) x y (by simpa using a) (by simpa using b)⟩ h
      exact ⟨v, (valV_neg (fun z => hk (e.trans z))).trans h1, h2⟩
def dgetD (x y : D) (S : Hs) : Res D := match x with
  | .ref n => match S.get n, keyD y with
    | some (.dic kvs), some k => match valD kvs k with
      | some d => .ok d S
      | none => .bad
    | _, _ => .bad
  | _ => .bad
theorem keyD_of {T : Ct} {φ : List Addr} {H : Hp} {d : D} {v : V} {k : Key} (r : RV T φ H d v) (h : keyD d = some k) : v = kV k := by
  cases r with
  | int i => cases h; rfl
  | str x => cases h; rfl
  | _ => cases h
section
variable {X : Cx} {T : Ct} {W : WX} {pos p : Pos} {a b e : Expr} {ma mb : Ex} {ms : Exs}
theorem r_dget (hu : Deepy X) (ha : PE X a (tE T W ma)) (hb : PE X b (tE T W mb)) (hs : NoSl b := by exact fun _ _ => rfl) : PE X (.Subscript a b pos) (tE T W (mOp2 dgetD ma mb)) :=
  weakE (pe_dget (by have : X.A.units + 65 < cLine := hu; omega) ha hb hs) fun σ H Q ⟨φ, env, S, R, E, P⟩ => tE_bind R E P fun x S1 φ1 H1 v u1 R1 r1 E1 P1 => tE_bind R1 E1 P1 fun y S2 φ2 H2 w u2 R2 r2 E2 P2 => by
    unfold dgetD at P2
    split at P2
    · rename_i n
      split at P2
      · rename_i kvs k hx hk
        split at P2
        · rename_i d hd
          have r1' := r1.up R1 u2
          cases r1' with
          | @ref n a q =>
            obtain ⟨o, vs, hh, rk⟩ := R2.dic q hx
            obtain ⟨vv, hv, rv⟩ := valD_of rk hd
            exact ⟨a, vv, rfl, .inl ⟨vs, k, .inr ⟨o, hh⟩, keyD_of r2 hk, hv.symm⟩, P2 φ2 H2 _ (u1.trans u2) R2 rv⟩
        · exact False.elim P2
      · exact False.elim P2
    · exact False.elim P2
theorem r_listD (hc : X.calm = true) (hm : X.mg "list" = none) (ha : PA X [e] (tA T W ms)) (hg : Gl X "list" := by rfl) (he : starEach [e] X.env = (false, eval e X.env) :: starEach [] X.env := by rfl) (hpl : (backTo pos (starEach [] X.env)).any (·.1) = false := by rfl) : PE X (.Call (.Name "list" p) [e] [] pos) (tE T W (mCall listDF ms)) :=
  r_callTy (call_list_dKf hc) listD_M listD_no hg hm (by decide +kernel) ha (by decide) (by decide) he hpl
end
/-! ### own classes as values; what a suite asks -/
theorem r_cls {X : Cx} {T : Ct} {W : WX} {pos : Pos} {x : Str} (hm : X.mg x = some (.ref (T.ca x))) (hg : Gl X x := by rfl) (hd : (x == ("__debug__" : Str)) = false := by decide) : PE X (.Name x pos) (tE T W (mC (.cls x))) :=
  weakE (pe_glob (v := .ref (T.ca x)) hg hm rfl hd) fun _ _ _ h => tC_of (fun _ _ => .cls x) h
/-- e.value, e the suite's error at i -/
def mFld (i : Nat) : Ex := fun env S => match env[i]? with
  | some (some (.exc _ d)) => .ok d S
  | _ => .bad
/-- what isinstance answers of an error of the class c -/
def isaD (isa : Isa) (c : Str) : D → Option Bool
  | .cls x => some (isa c x)
  | _ => none
def isaDs (isa : Isa) (c : Str) : List D → Option Bool
  | [] => some false
  | x :: xs => match isaD isa c x, isaDs isa c xs with
    | some a, some b => some (a || b)
    | _, _ => none
def mIsE (isa : Isa) (i : Nat) (m : Ex) : Ex := fun env S => match env[i]? with
  | some (some (.exc c _)) => (m env S).bind fun d S1 => match d with
    | .cls x => .ok (.bl (isa c x)) S1
    | .tup xs => match isaDs isa c xs with
      | some b => .ok (.bl b) S1
      | none => .bad
    | _ => .bad
  | _ => .bad
/-- the facts of the errors' classes kn: of each, what the suites ask -/
structure ErrK (K : PySem.W.Frag) (ca : Str → Addr) (isa : Isa) (kn cl : List Str) : Prop where
  xf : ∀ c ∈ kn, XfC K (ca c)
  no : ∀ c ∈ kn, PySem.W.findIn K (.ref (ca c)) "value" = some none
  ha : ∀ c ∈ kn, PySem.W.findIn K (.ref (ca c)) "__class__" = some (some (.builtin "object.__class__"))
  hm : ∀ c ∈ kn, PySem.W.mroIn K (ca c) (.type "object") = some true
  hn : PySem.W.specialIn K (.builtin "object.__class__") "__get__" = some (some (.builtin "getset_descriptor.__get__"))
  ht : PySem.W.takesIn K (.builtin "object.__class__") = some true
  ki : ∀ c ∈ kn, ∀ x ∈ cl, PySem.W.kitOne K (.ref (ca c)) (.ref (ca x)) = some (isa c x)
section
variable {X : Cx} {T : Ct} {W : WX} {i : Nat} {a dd : Addr} {c n : Str} {oe : Obj} {pn : List (Addr × Obj)} {pos np p : Pos} {isa : Isa} {kn cl : List Str}
/-- what stands at i is the suite's own error -/
theorem RX.suite {φ : List Addr} {H : Hp} {d : D} {v : V} (hns : ∀ e ∈ T.sx, e.1 ≠ i) {c' : Str} (r : RX (T.plus (i, a, c, dd)) φ H i (.exc c' d) v) : v = .ref a ∧ c' = c ∧ ∃ u, H dd = some (.xd (fV u)) ∧ RV (T.plus (i, a, c, dd)) φ H d u := by
  cases r with
  | rv r => cases r
  | sx h hd r =>
    rcases List.mem_cons.mp h with h | h
    · cases h
      exact ⟨rfl, rfl, _, hd, r⟩
    · exact (hns _ h rfl).elim
theorem r_fld (F : ErrK X.K T.ca isa kn cl) (hc : c ∈ kn) (hz : Zc (.ref (T.ca c)) (some dd) oe) (hf : ∃ vs, oe.data = .fields vs) (hN : X.N[i]? = some n) (hv : Vis X.env.scope n) (hns : ∀ e ∈ T.sx, e.1 ≠ i) (hd : (n == ("__debug__" : Str)) = false := by decide) (hcd : (n == ("__classdict__" : Str)) = false := by decide)
    (hb : attributeBase (.Name n np) "value" X.env (eval (.Name n np) X.env) = eval (.Name n np) X.env := by rfl) :
    PE (X.suite a ((a, oe) :: pn)) (.Attribute (.Name n np) "value" pos) (tE (T.plus (i, a, c, dd)) W (mFld i)) :=
  weakE (pe_xf (F.xf c hc) (F.no c hc) hz hf (pe_var (X := X.suite a ((a, oe) :: pn)) hN hv hd hcd) hb) fun σ H Q ⟨φ, env, S, R, E, P⟩ => by
    unfold mFld at P
    split at P
    · rename_i c' d he
      obtain ⟨v, hv, r⟩ := E.2 i _ he
      obtain ⟨rfl, rfl, u, hd, ru⟩ := r.suite hns
      exact ⟨_, hv, rfl, rfl, dd, fV u, u, rfl, hd, by simp [fV, List.lookup], P φ H u (Up.refl _ _) R ru⟩
    · exact False.elim P
/-- isinstance(e, c), isinstance(e, (c, ..)) of the suite's error -/
def rIsX (K : PySem.W.Frag) (C a : Addr) : List V → Hp → VK → Prop := fun xs H Q => ∃ (t : V) (b : Bool), xs = [.ref a, t] ∧ Q (.bl b) H ∧
  ((∃ u, ClsV t u ∧ PySem.W.kitOne K (.ref C) u = some b) ∨ (∃ tp vs us, t = .ref tp ∧ Tp K H tp vs ∧ Paired ClsV vs us ∧ PySem.W.kitAny K (.ref C) us = some b))
theorem call_isX {C : Addr} (x : XfC X.K C) (ha : PySem.W.findIn X.K (.ref C) "__class__" = some (some (.builtin "object.__class__"))) (hm : PySem.W.mroIn X.K C (.type "object") = some true)
    (hn : PySem.W.specialIn X.K (.builtin "object.__class__") "__get__" = some (some (.builtin "getset_descriptor.__get__"))) (ht : PySem.W.takesIn X.K (.builtin "object.__class__") = some true) {H0 : Hp} {fs : List (Str × V)}
    (hz : Zc (.ref C) (some dd) oe) (hf : ∃ vs, oe.data = .fields vs) : CallR (X.suite a ((a, oe) :: pn)) (.builtin "isinstance") (fun xs H Q => (∃ fs, H dd = some (.xd fs)) ∧ rIsX X.K C a xs H Q) := by
  intro pins s σ H xs us Q I r h
  obtain ⟨⟨fs, hdd⟩, t, b, rfl, q, h⟩ := h
  obtain ⟨u1, u2, rfl, r1, r2⟩ := vals2 r
  cases (show u1 = Value.ref a from r1)
  obtain ⟨hget, _⟩ := I.pin (a, oe) (List.mem_append.mpr (.inl List.mem_cons_self))
  obtain ⟨vs, hv⟩ := hf
  have hx : ObjOk X.prog X.w H s.heap dd (.xd fs) := I.hok dd _ hdd
  obtain ⟨mA, hns, hr⟩ := hx
  obtain ⟨od, ho, hl⟩ := lookIn_ns hns
  have J : PySem.W.InstAt s.heap a oe C (some od) := ⟨hget, hz.1, by unfold PySem.W.notCls; rw [hv] <;> rfl, by rw [hz.2]; exact ho⟩
  have hcl : (PySem.W.clsIn X.K C).isSome = true := by
    obtain ⟨cd, hc, _⟩ := PySem.W.any_some x.hdC
    rw [hc]
    rfl
  have Z := PySem.W.kitx_exc (K := X.K) (x := a) (ox := oe) (od := some od) (C := C) hcl x.ga x.gg x.exC ha hn ht hm
  rcases h with ⟨u, k, e⟩ | ⟨tp, ws, us, rfl, hT, k, e⟩
  · have e2 := k.eq r2
    subst e2
    exact PySem.W.kia_one Z I.kIn J e (fun z => nomatch z) fun tk => ⟨.bl b, H, I.tok tk, rfl, q⟩
  · cases (show u2 = Value.ref tp from r2)
    rcases hT with hT | ⟨o, its, n, h1, h2, h3, h4, h5⟩
    · obtain ⟨_, its, rv, o, h1, h2, n, h3⟩ := (show ObjOk X.prog X.w H s.heap tp (.tup ws) from I.hok tp _ hT)
      have e3 := ClsV.all k rv
      subst e3
      obtain ⟨oc, od, dt, sl⟩ := o
      simp only at h2 h3
      subst h2 h3
      exact PySem.W.kia_tup Z I.kIn J h1 e (fun z => nomatch z) fun tk => ⟨.bl b, H, I.tok tk, rfl, q⟩
    · have e3 := ClsV.all k h5
      have g1 := I.kIn _ _ h1
      obtain ⟨oc, od, dt, sl⟩ := o
      simp only at h2 h3
      subst h2 h3
      exact PySem.W.kia_tup (its := its.toList) Z I.kIn J (by simpa using g1) (by rw [e3]; exact e) (fun z => nomatch z) fun tk => ⟨.bl b, H, I.tok tk, rfl, q⟩
theorem isaDs_of {K : PySem.W.Frag} {C : Addr} (hk : ∀ x ∈ cl, PySem.W.kitOne K (.ref C) (.ref (T.ca x)) = some (isa c x)) {φ : List Addr} {H : Hp} : ∀ {ds : List D} {vs : List V} {b : Bool}, RVs T φ H ds vs → (∀ d ∈ ds, ∀ x, d = .cls x → x ∈ cl) → isaDs isa c ds = some b →
    ∃ us, Paired ClsV vs us ∧ PySem.W.kitAny K (.ref C) us = some b
  | [], vs, b, r, _, h => by
    have e := r.inv_nil
    subst e
    cases h
    exact ⟨[], .nil, kitAny_nil⟩
  | d :: ds, vs, b, r, hm, h => by
    obtain ⟨v, us, rfl, r1, r2⟩ := r.inv_cons
    cases r1 with
    | cls x =>
      have h' : (match (some (isa c x)), isaDs isa c ds with
        | some a, some b => some (a || b)
        | _, _ => none) = some b := h
      split at h'
      · rename_i a' b' e1 e2
        cases e1
        cases h'
        obtain ⟨ws, p, q⟩ := isaDs_of hk r2 (fun d hd => hm d (List.mem_cons_of_mem _ hd)) e2
        refine ⟨.ref (T.ca x) :: ws, .cons (.own _) p, kitAny_cons (hk x (hm _ List.mem_cons_self x rfl)) (fun z => ?_) fun z => ?_⟩
        · rw [z]
          exact q
        · rw [z]
          rfl
      · cases h'
    | _ => cases h
/-- the classes asked for are known -/
def inCl (cl : List Str) : D → Bool
  | .cls x => decide (x ∈ cl)
  | .tup xs => xs.all fun | .cls x => decide (x ∈ cl) | _ => true
  | _ => true
def mIsX (isa : Isa) (cl : List Str) (i : Nat) (m : Ex) : Ex := fun env S => match env[i]? with
  | some (some (.exc c _)) => (m env S).bind fun d S1 => if inCl cl d then (match d with
    | .cls x => .ok (.bl (isa c x)) S1
    | .tup xs => match isaDs isa c xs with
      | some b => .ok (.bl b) S1
      | none => .bad
    | _ => .bad) else .bad
  | _ => .bad
theorem r_isX {e : Expr} {m : Ex} (F : ErrK X.K T.ca isa kn cl) (hK : T.K = X.K) (hc : c ∈ kn) (hz : Zc (.ref (T.ca c)) (some dd) oe) (hf : ∃ vs, oe.data = .fields vs) (hN : X.N[i]? = some n) (hv : Vis X.env.scope n) (hns : ∀ e ∈ T.sx, e.1 ≠ i) (hm : X.mg "isinstance" = none)
    (he : PE (X.suite a ((a, oe) :: pn)) e (tE (T.plus (i, a, c, dd)) W m)) (hg : Gl X "isinstance" := by rfl) (hd : (n == ("__debug__" : Str)) = false := by decide) (hcd : (n == ("__classdict__" : Str)) = false := by decide)
    (hs1 : starEach [.Name n np, e] X.env = (false, eval (.Name n np) X.env) :: starEach [e] X.env := by rfl) (hs2 : starEach [e] X.env = (false, eval e X.env) :: starEach [] X.env := by rfl) (hpl : (backTo pos (starEach [e] X.env)).any (·.1) = false := by rfl) :
    PE (X.suite a ((a, oe) :: pn)) (.Call (.Name "isinstance" p) [.Name n np, e] [] pos) (tE (T.plus (i, a, c, dd)) W (mIsX isa cl i m)) := by
  have hcall := call_isX (X := X) (a := a) (dd := dd) (oe := oe) (pn := pn) (F.xf c hc) (F.ha c hc) (F.hm c hc) F.hn F.ht (H0 := fun _ => none) (fs := []) hz hf
  refine weakE (pe_callB (X := X.suite a ((a, oe) :: pn)) hcall hg hm (by decide +kernel) (pa_cons (pe_var (X := X.suite a ((a, oe) :: pn)) hN hv hd hcd) (pa_cons he pa_nil hs2) hs1) (by decide) (by decide) hs1 hpl) fun σ H Q ⟨φ, env, S, R, E, P⟩ => ?_
  unfold mIsX at P
  split at P
  · rename_i c' d0 hen
    obtain ⟨v, hv', r⟩ := E.2 i _ hen
    obtain ⟨rfl, rfl, u, hdd, ru⟩ := r.suite hns
    refine ⟨_, hv', tE_bind R E P fun d S1 φ1 H1 w u1 R1 r1 E1 P1 => ?_⟩
    split at P1
    · rename_i hin
      have hdd1 : H1 dd = some (.xd (fV u)) := R.stay u1 hdd rfl
      cases d with
      | cls x =>
        have hx : x ∈ cl := of_decide_eq_true hin
        cases r1
        exact ⟨⟨_, hdd1⟩, _, _, rfl, P1 φ1 H1 _ u1 R1 (.bl _), .inl ⟨_, .own _, F.ki _ hc x hx⟩⟩
      | tup xs =>
        simp only at P1
        split at P1
        · rename_i b hb
          cases r1 with
          | @tup ds tp us h l r' =>
            have hx : ∀ d ∈ xs, ∀ x, d = .cls x → x ∈ cl := fun d hd x e => by
              have z := List.all_eq_true.mp hin d hd
              subst e
              exact of_decide_eq_true z
            obtain ⟨ws, p, k⟩ := isaDs_of (K := X.K) (C := T.ca c') (isa := isa) (c := c') (T := T.plus (i, a, c', dd)) (cl := cl) (fun x hx => F.ki c' hc x hx) ⟨l, r'⟩ hx hb
            exact ⟨⟨_, hdd1⟩, _, _, rfl, P1 φ1 H1 _ u1 R1 (.bl _), .inr ⟨tp, us, ws, rfl, by rw [← hK]; exact h, p, k⟩⟩
        · exact False.elim P1
      | _ => exact False.elim P1
    · exact False.elim P1
  · exact False.elim P
end
end MR

/-! M12: small words for the printed walks; what may be said of a def instead of its own mirror. -/
namespace MR
open PySem PySem.Spec L2 PyProof.Rows
theorem spM_bad {T : Ct} {vs : List V} {H : Hp} {Q : VK} {E : XK} (h : spM T (fun _ _ => .bad) vs H Q E) : False := by
  obtain ⟨φ, S, ds, R, r, P⟩ := h
  exact P
theorem kb_of {K : PySem.W.Frag} {x qual : Str} {params : Arguments} {body : List Stmt} {scope : Scope} {kws : List (Str × V)} {f : Addr} {fd : FuncData} {ps ks : List Str} {n : Nat} {ix : List Nat} (F : FunD K x qual params body scope [] kws f fd)
    (h : ∀ (kV doc pm : Value) (an : Option Addr) (cdv ct : Value) (us ws : List Value), us.length = n → ws.length = ks.length → bindArgs (PySem.W.fnOf x qual params body scope .none kV doc pm an cdv ct) ⟨us, ks.zip ws⟩ = pure (ps.zip (pick ix (us ++ ws)))) : KB K fd ps n ks ix := by
  obtain ⟨oc, od, dV, kV, doc, pm, an, cdv, ct, osl, rfl, lk, hcd, hD, hK⟩ := F.ex
  rcases hD with ⟨_, rfl⟩ | ⟨e, _⟩
  · exact ⟨fun s us ws X h1 h2 => BindsTo.of_eq (h kV doc pm an cdv ct us ws h1 h2)⟩
  · exact absurd rfl e
end MR

/-! M13: a def whose arguments hold no cells answers as it does over no cells at all. -/
namespace MR
open PySem PySem.Spec L2 PyProof.Rows
mutual
/-- no cell in it -/
def free : D → Bool
  | .non => true
  | .bl _ => true
  | .int _ => true
  | .str _ => true
  | .tup xs => frees xs
  | .fz xs => frees xs
  | _ => false
def frees : List D → Bool
  | [] => true
  | x :: xs => free x && frees xs
end
theorem frees_get : ∀ {xs : List D} {i : Nat} {d : D}, frees xs = true → xs[i]? = some d → free d = true
  | [], i, d, _, h => by simp at h
  | x :: xs, 0, d, h, e => by
    simp at e
    subst e
    exact (Bool.and_eq_true_iff.mp h).1
  | x :: xs, i + 1, d, h, e => frees_get (Bool.and_eq_true_iff.mp h).2 (by simpa using e)
section
variable {T : Ct} {φ φ' : List Addr} {S : Hs} {H : Hp}
theorem RV.free {d : D} {v : V} (r : RV T φ H d v) (h : MR.free d = true) : RV T φ' H d v := by
  induction r with
  | non => exact .non
  | bl b => exact .bl b
  | int i => exact .int i
  | str s => exact .str s
  | tup q l r ih => exact .tup q l fun i d v a b => ih i d v a b (frees_get h a)
  | ref q => cases h
  | ty n => cases h
  | cls c => cases h
  | fz q l r ih => exact .fz q l fun i d v a b => ih i d v a b (frees_get h a)
  | er q hd r ih => cases h
  | key q => cases h
theorem RVs.free {ds : List D} {vs : List V} (r : RVs T φ H ds vs) (h : frees ds = true) : RVs T φ' H ds vs := ⟨r.1, fun i d v a b => (r.2 i d v a b).free (frees_get h a)⟩
/-- what was there stands as it did -/
theorem RS.stays {φ1 : List Addr} {H1 : Hp} (R : RS T φ S H) (u : Up [] H φ1 H1) : RS T φ S H1 ∧ Up φ H φ H1 := by
  have U : Up φ H φ H1 := ⟨⟨[], by simp, by simp⟩, fun a o h _ => u.fr a o h (by simp), u.dom, u.frz⟩
  refine ⟨⟨R.wf, R.len, R.nd, fun n c a h1 h2 => ?_⟩, U⟩
  cases R.cell n c a h1 h2 with
  | lst h r => exact .lst (u.fr _ _ h (by simp)) (r.up R U)
  | fro h r => exact .fro (u.fr _ _ h (by simp)) (r.up R U)
  | dic h r => exact .dic (u.fr _ _ h (by simp)) (r.up R U)
  | dt h r => exact .dt (u.fr _ _ h (by simp)) (r.up R U)
  | dtf h r => exact .dtf (u.fr _ _ h (by simp)) (r.up R U)
  | odd hs h q r => exact .odd hs (u.fr _ _ h (by simp)) (q.up R U) (r.up R U)
end
abbrev S0 : Hs := ⟨0, []⟩
/-- F, run over no cells -/
def pur (F : Fn) : Fn := fun ds S => if frees ds then (match F ds S0 with
  | .ok (.ref n) S1 => (match S1.get n with
    | some (.lst xs) => if frees xs then .ok (.ref S.n) (S.new (.lst xs)) else F ds S
    | _ => F ds S)
  | .ok d _ => if free d then .ok d S else F ds S
  | .err c d _ => if free d then .err c d S else F ds S
  | .bad => F ds S) else F ds S
theorem spM_pur {T : Ct} {F : Fn} {vs : List V} {H : Hp} {Q : VK} {E : XK} (h : spM T (pur F) vs H Q E) : spM T F vs H Q E := by
  obtain ⟨φ, S, ds, R, r, P⟩ := h
  have fall : Post (okE T φ H Q) (erF T φ H E) (F ds S) → spM T F vs H Q E := fun P => ⟨φ, S, ds, R, r, P⟩
  unfold pur at P
  split at P
  · rename_i hf
    have R0 : RS T [] S0 H := RS.start
    have r0 : RVs T [] H ds vs := r.free hf
    split at P
    · rename_i n S1 e
      split at P
      · rename_i xs hx
        split at P
        · rename_i hxs
          refine ⟨[], S0, ds, R0, r0, ?_⟩
          rw [e]
          intro φ1 H1 v u R1 r1
          cases r1 with
          | @ref _ a q =>
            obtain ⟨us, hl, rl⟩ := R1.lst q hx
            obtain ⟨Rk, Uk⟩ := R.stays u
            have ha : H a = none := by
              obtain ⟨ext, e1, e2⟩ := u.pre
              rw [List.nil_append] at e1
              subst e1
              exact e2 a (List.mem_of_getElem? q)
            have na : a ∉ φ := fun hm => by
              obtain ⟨o, ho⟩ := R.some_ hm
              rw [ha] at ho
              cases ho
            have Ua : Up φ H (φ ++ [a]) H1 := ⟨⟨[a], rfl, fun b hb => by simp at hb; subst hb; exact ha⟩, fun b o h _ => u.fr b o h (by simp), u.dom, u.frz⟩
            refine P (φ ++ [a]) H1 (.ref a) Ua ⟨Rk.wf.new _, by simp [Rk.len, Hs.new], ?_, fun m c b h1 h2 => ?_⟩ (.ref (by rw [List.getElem?_append_right (by rw [R.len]; exact Nat.le_refl _), R.len]; simp))
            · exact List.nodup_append.mpr ⟨R.nd, by simp, fun b hb c hc => by simp at hc; subst hc; exact fun e => na (e ▸ hb)⟩
            · rcases Hs.get_new_inv h1 with ⟨rfl, rfl⟩ | h1
              · have eb : b = a := by
                  rw [List.getElem?_append_right (by rw [R.len]; exact Nat.le_refl _), R.len] at h2
                  simp at h2
                  exact h2.symm
                subst eb
                exact .lst hl (rl.free hxs)
              · have hlt : m < φ.length := by rw [R.len]; exact Hs.get_lt h1
                rw [List.getElem?_append_left hlt] at h2
                have Up1 : Up φ H1 (φ ++ [a]) H1 → True := fun _ => trivial
                cases R.cell m c b h1 h2 with
                | lst h r => exact .lst (u.fr _ _ h (by simp)) (r.up R Ua)
                | fro h r => exact .fro (u.fr _ _ h (by simp)) (r.up R Ua)
                | dic h r => exact .dic (u.fr _ _ h (by simp)) (r.up R Ua)
                | dt h r => exact .dt (u.fr _ _ h (by simp)) (r.up R Ua)
                | dtf h r => exact .dtf (u.fr _ _ h (by simp)) (r.up R Ua)
                | odd hs h q r => exact .odd hs (u.fr _ _ h (by simp)) (q.up R Ua) (r.up R Ua)
        · exact fall P
      · exact fall P
    · rename_i d S1 hd e
      split at P
      · rename_i hdf
        refine ⟨[], S0, ds, R0, r0, ?_⟩
        rw [e]
        intro φ1 H1 v u R1 r1
        obtain ⟨Rk, Uk⟩ := R.stays u
        exact P φ H1 v Uk Rk (r1.free hdf)
      · exact fall P
    · rename_i c d S1 e
      split at P
      · rename_i hdf
        refine ⟨[], S0, ds, R0, r0, ?_⟩
        rw [e]
        intro φ1 H1 dd v u R1 r1 x
        obtain ⟨Rk, Uk⟩ := R.stays u
        exact P φ H1 dd v Uk Rk (r1.free hdf) x
      · exact fall P
    · exact fall P
  · exact fall P
theorem pur_def {P : Program} {w : World} {K : PySem.W.Frag} {mg : Str → Option Value} {base : Heap} {T : Ct} {k : Nat} {x : Str} {f : Addr} {fd : FuncData} {ps : List Str} {F : Fn} (G : Def P w K mg base T k x f fd ps F) : Def P w K mg base T k x f fd ps (pur F) :=
  ⟨G.ok.imp fun vs H Q E h => spM_pur h, G.gl, G.kp⟩
end MR

/-! M14: more rules: constants that are tuples, i += n, sep.join, list(text), `in` a tuple of data, xs[::-1]. -/
namespace MR
open PySem PySem.Spec L2 PyProof.Rows
section
variable {X : Cx} {T : Ct} {W : WX} {pos p : Pos} {a b e : Expr} {ma mb m : Ex} {ms : Exs}
/-- a constant of the module that is a tuple of texts -/
theorem r_gTup {x : Str} {q : Addr} {o : Obj} {its : Array Value} {n : Nat} {zs : List Str} (hg : Gl X x) (hm : X.mg x = some (.ref q)) (ho : X.K.lookup q = some o) (hc : o.cls = .type "tuple") (hd : o.data = .seq its n) (hz : its.size ≤ sizeLine) (hv : Vals (zs.map V.str) its.toList) (hK : T.K = X.K := by rfl) (hdb : (x == ("__debug__" : Str)) = false := by decide) :
    PE X (.Name x pos) (tE T W (mC (.tup (zs.map D.str)))) :=
  weakE (pe_glob (v := .ref q) hg hm rfl hdb) fun _ _ _ h => tC_of (fun φ H => .tup (vs := zs.map V.str) (.inr ⟨o, its, n, by rw [hK]; exact ho, hc, hd, hz, hv⟩) (by rw [List.length_map, List.length_map]) fun i d v h1 h2 => by
    rw [List.getElem?_map] at h1 h2
    cases e : zs[i]? with
    | none => rw [e] at h1; cases h1
    | some z =>
      rw [e] at h1 h2
      cases h1
      cases h2
      exact .str z) h
/-- name += an int -/
def mAugI (i : Nat) (m : Ex) : SM := fun env S => match env[i]? with
  | some (some (.int x)) => (m env S).toS env fun d S1 => match d with
    | .int y => .nx (env.set i (some (.int (x + y)))) S1
    | _ => .bad
  | _ => .bad
theorem s_augI (i : Nat) {x : Str} {pos' : Pos} (hN : X.N.Nodup) (he : PE X e (tE T W m)) (hi : X.N[i]? = some x := by rfl) (hx : Loc X.env.scope x := by first | exact Or.inl rfl | exact Or.inr rfl) (hf : X.fn x = true ∨ X.env.scope.names.lookup x = some .local := by first | exact .inl rfl | exact .inr rfl) :
    PS X (.AugAssign (.Name x pos') .Add e pos) (tS T W (mAugI i m)) := weakS (ps_aug hN hi hx he ip_add hf) fun E σ H ⟨φ, env, S, R, Ev, P⟩ => by
  unfold mAugI at P
  split at P
  · rename_i n hn
    obtain ⟨v, hv, r⟩ := Ev.2 i _ hn
    cases r with
    | rv r =>
      cases r
      refine ⟨_, hv, tE_st R Ev P fun d S1 φ1 H1 w u R1 r1 E1 P1 => ?_⟩
      cases d with
      | int y =>
        cases r1
        exact ⟨n, y, rfl, rfl, P1 φ1 H1 _ (Up.refl _ _) R1 (E1.set (.int _) i)⟩
      | _ => exact False.elim P1
  · exact False.elim P
/-! ### sep.join -/
def strOf : D → Option Str
  | .str x => some x
  | _ => none
def joinG (x : D) (ds : List D) (S : Hs) : Res D := match x, ds with
  | .str a, [d] => match (match d with | .ref n => listOf S n | .tup xs => some xs | _ => none) with
    | some xs => match mapO strOf xs with
      | some ys => if (ys.map (·.length)).sum + ys.length * a.length ≤ line then .ok (.str (Txt.join a ys)) S else .bad
      | none => .bad
    | none => .bad
  | _, _ => .bad
theorem join_no : NoErM joinG := fun x ds S c d S' h => by
  unfold joinG at h
  repeat' (first | cases h | split at h)
theorem mapO_str {φ : List Addr} {H : Hp} : ∀ {xs : List D} {vs : List V} {ys : List Str}, RVs T φ H xs vs → mapO strOf xs = some ys → vs = ys.map V.str
  | [], vs, ys, r, h => by
    have e := r.inv_nil
    subst e
    cases h
    rfl
  | x :: xs, vs, ys, r, h => by
    obtain ⟨v, us, rfl, r1, r2⟩ := r.inv_cons
    unfold mapO at h
    cases r1 with
    | str z =>
      simp only [strOf] at h
      split at h
      · rename_i zs hzs
        cases h
        rw [List.map_cons, mapO_str r2 hzs]
      · cases h
    | _ => simp only [strOf] at h; cases h
theorem join_M : MethM T (fun x xs H Q => ∃ a p, ∃ ys : List Str, x = .str a ∧ xs = [.ref p] ∧ (SqL T.K H p (ys.map V.str) ∨ SqT T.K H p (ys.map V.str)) ∧ (ys.map (·.length)).sum + ys.length * a.length ≤ 16777216 ∧ Q (.str (Txt.join a ys)) H) joinG := by
  intro φ S H x v ds vs Q R rx r P
  unfold joinG at P
  split at P
  · rename_i a d
    cases rx
    obtain ⟨w, rfl, rw'⟩ := r.one
    split at P
    · rename_i xs hxs
      split at P
      · rename_i ys hys
        split at P
        · rename_i hl
          have q := P.now R (.str (Txt.join a ys))
          cases rw' with
          | @ref n p h =>
            obtain ⟨us, sq, ru⟩ := R.listOf h hxs
            have e := mapO_str ru hys
            subst e
            exact ⟨a, p, ys, rfl, rfl, .inl sq, hl, q⟩
          | @tup zs p us h l' r' =>
            cases hxs
            have e := mapO_str ⟨l', r'⟩ hys
            subst e
            exact ⟨a, p, ys, rfl, rfl, .inr h.sq, hl, q⟩
          | _ => cases hxs
        · exact False.elim P
      · exact False.elim P
    · exact False.elim P
  · exact False.elim P
end
/-! ### `in` a tuple of data -/
def inTB (x y : D) (S : Hs) : Option Bool := match toP S deep x, toP S deep y with
  | some d, some (.tuple ds) => if SeqAt.shaped d && SeqAt.shaped (.tuple ds) then some (ds.any fun z => PyData.eqv z d) else none
  | _, _ => none
def inTD (x y : D) (S : Hs) : Res D := match inTB x y S with
  | some b => .ok (.bl b) S
  | none => .bad
def notinTD (x y : D) (S : Hs) : Res D := match inTB x y S with
  | some b => .ok (.bl (!b)) S
  | none => .bad
theorem inT_no : NoEr inTD := fun x y S c d S' h => by
  unfold inTD at h
  split at h <;> cases h
theorem notinT_no : NoEr notinTD := fun x y S c d S' h => by
  unfold notinTD at h
  split at h <;> cases h
def rInT (f : Bool → Bool) (K : PySem.W.Frag) : R2 := fun x y H Q => ∃ d ds, Dp K H x d ∧ Dp K H y (.tuple ds) ∧ SeqAt.shaped d = true ∧ SeqAt.shaped (.tuple ds) = true ∧ Q (.bl (f (ds.any fun z => PyData.eqv z d))) H
section
variable {X : Cx}
theorem tup_lay {ds : List PyData} (h : SeqAt.shaped (.tuple ds) = true) : PyData.canLayAll0 ds = true := by
  have q := SeqAt.canLay_of_shaped h
  simpa [PyData.canLay0] using q
theorem room_tup {A : Around} {d : PyData} {ds : List PyData} (h : SeqAt.shaped d = true) (hu : A.units + 65 < cLine) : A.units + 1 + min (PyData.depthAll ds) d.depth < cLine := by
  have h1 := SeqAt.depth_of_shaped h
  have h2 : min (PyData.depthAll ds) d.depth ≤ d.depth := Nat.min_le_right _ _
  omega
theorem op_inT (hu : Deepy X) : OpR X (compareOp .In) (rInT id X.K) := by
  intro ps t st hp x y v u Q I rx ry h
  obtain ⟨d, ds, hd, he, sd, se, q⟩ := h
  have ⟨as, r1⟩ := Dp.reads I d x v hd rx
  have ⟨bs, r2⟩ := Dp.reads I (.tuple ds) y u he ry
  exact SeqAt.in_tuple_reads r2 r1 (tup_lay se) (SeqAt.canLay_of_shaped sd) (room_tup sd hu) ⟨.bl _, hp, I, rfl, q⟩
theorem op_notInT (hu : Deepy X) : OpR X (compareOp .NotIn) (rInT not X.K) := by
  intro ps t st hp x y v u Q I rx ry h
  obtain ⟨d, ds, hd, he, sd, se, q⟩ := h
  have ⟨as, r1⟩ := Dp.reads I d x v hd rx
  have ⟨bs, r2⟩ := Dp.reads I (.tuple ds) y u he ry
  exact SeqAt.notIn_tuple_reads r2 r1 (tup_lay se) (SeqAt.canLay_of_shaped sd) (room_tup sd hu) ⟨.bl _, hp, I, rfl, q⟩
end
section
variable {T : Ct}
theorem inTB_of {φ : List Addr} {H : Hp} {S : Hs} (R : RS T φ S H) {x y : D} {v u : V} (rx : RV T φ H x v) (ry : RV T φ H y u) {b : Bool} (h : inTB x y S = some b) : ∃ d ds, Dp T.K H v d ∧ Dp T.K H u (.tuple ds) ∧ SeqAt.shaped d = true ∧ SeqAt.shaped (.tuple ds) = true ∧ b = ds.any fun z => PyData.eqv z d := by
  unfold inTB at h
  split at h
  · rename_i d ds h1 h2
    split at h
    · rename_i hs
      cases h
      have hs := Bool.and_eq_true_iff.mp hs
      exact ⟨d, ds, toP_dp R _ _ _ _ rx h1, toP_dp R _ _ _ _ ry h2, hs.1, hs.2, rfl⟩
    · cases h
  · cases h
theorem inT_M : OpM T (rInT id T.K) inTD := by
  intro φ S H x y v u Q er R vx vy ne P
  unfold inTD at P
  split at P
  · rename_i b hb
    obtain ⟨d, ds, h1, h2, h3, h4, rfl⟩ := inTB_of R vx vy hb
    exact ⟨d, ds, h1, h2, h3, h4, P.now R (.bl _)⟩
  · exact False.elim P
theorem notinT_M : OpM T (rInT not T.K) notinTD := by
  intro φ S H x y v u Q er R vx vy ne P
  unfold notinTD at P
  split at P
  · rename_i b hb
    obtain ⟨d, ds, h1, h2, h3, h4, rfl⟩ := inTB_of R vx vy hb
    exact ⟨d, ds, h1, h2, h3, h4, P.now R (.bl _)⟩
  · exact False.elim P
end
section
variable {X : Cx} {T : Ct} {W : WX} {pos p : Pos} {a b e o : Expr} {ma mb m : Ex} {ms : Exs}
theorem r_inT (hu : Deepy X) (ha : PE X a (tE T W ma)) (hb : PE X b (tE T W mb)) (hm : behindInMarks .In b = false := by rfl) (hK : T.K = X.K := by rfl) : PE X (.Compare a [.In] [b] pos) (tE T W (mOp2 inTD ma mb)) := r_cmp (r := rInT id T.K) (by rw [hK]; exact op_inT hu) inT_M inT_no ha hb hm
theorem t_inT (hu : Deepy X) (ha : PE X a (tE T W ma)) (hb : PE X b (tE T W mb)) (hm : behindInMarks .In b = false := by rfl) (hK : T.K = X.K := by rfl) : PT X (.Compare a [.In] [b] pos) (tT T W (mOp2 inTD ma mb)) := t_cmp (r := rInT id T.K) (by rw [hK]; exact op_inT hu) inT_M inT_no ha hb hm
theorem r_notinT (hu : Deepy X) (ha : PE X a (tE T W ma)) (hb : PE X b (tE T W mb)) (hm : behindInMarks .NotIn b = false := by rfl) (hK : T.K = X.K := by rfl) : PE X (.Compare a [.NotIn] [b] pos) (tE T W (mOp2 notinTD ma mb)) := r_cmp (r := rInT not T.K) (by rw [hK]; exact op_notInT hu) notinT_M notinT_no ha hb hm
theorem t_notinT (hu : Deepy X) (ha : PE X a (tE T W ma)) (hb : PE X b (tE T W mb)) (hm : behindInMarks .NotIn b = false := by rfl) (hK : T.K = X.K := by rfl) : PT X (.Compare a [.NotIn] [b] pos) (tT T W (mOp2 notinTD ma mb)) := t_cmp (r := rInT not T.K) (by rw [hK]; exact op_notInT hu) notinT_M notinT_no ha hb hm
/-! ### xs[::-1] -/
def mRev (m : Ex) : Ex := fun env S => (m env S).bind fun d S1 => match d with
  | .ref n => match listOf S1 n with
    | some xs => .ok (.ref S1.n) (S1.new (.lst xs.reverse))
    | none => .bad
  | _ => .bad
theorem RVs.reverse {φ : List Addr} {H : Hp} {ds : List D} {vs : List V} (r : RVs T φ H ds vs) : RVs T φ H ds.reverse vs.reverse := by
  refine ⟨by simp [r.1], fun i d v h1 h2 => ?_⟩
  by_cases hi : i < ds.length
  · rw [List.getElem?_reverse hi] at h1
    rw [List.getElem?_reverse (by rw [← r.1]; exact hi), ← r.1] at h2
    exact r.2 _ d v h1 h2
  · rw [List.getElem?_eq_none (by simpa using hi)] at h1
    cases h1
theorem r_rev {k : Nat} {p1 p2 p3 : Pos} (he : PE X e (tE T W m)) (hK : T.K = X.K := by rfl) : PE X (.Subscript e (.Slice none none (some (.UnaryOp .USub (.Constant (.int 1) k p1) p2)) p3) pos) (tE T W (mRev m)) :=
  weakE (pe_revL he) fun σ H Q ⟨φ, env, S, R, E, P⟩ => tE_bind R E P fun d S1 φ1 H1 v u R1 r1 E1 P1 => by
    cases r1 with
    | @ref n a h =>
      simp only at P1
      split at P1
      · rename_i xs hx
        obtain ⟨vs, sq, r⟩ := R1.listOf h hx
        exact ⟨a, vs, rfl, by rw [← hK]; exact sq, okE.newLst R1 r.reverse (okE.up u P1)⟩
      · exact False.elim P1
    | _ => exact False.elim P1
/-- sep.join(xs) -/
theorem r_join {apos cpos : Pos} (ho : PE X o (tE T W m)) (ha : PA X [e] (tA T W ms)) (hK : T.K = X.K := by rfl) (hbase : attributeBase o "join" X.env (eval o X.env) = eval o X.env := by rfl)
    (hfew : ((backTo cpos (starEach [e] X.env)).all (fun x => !x.1) && (backToKw cpos (keywordEach [] X.env)).all (fun x => x.1.isSome) && decide ([e].length + ([] : List Keyword).length + (if ([] : List Keyword).isEmpty then 0 else 1) < 30)) = true := by rfl)
    (hline : (apos.endLine == cpos.line) = true := by rfl) (hs : starEach [e] X.env = (false, eval e X.env) :: starEach [] X.env := by rfl) (hpl : (backTo cpos (starEach [] X.env)).any (·.1) = false := by rfl) :
    PE X (.Call (.Attribute o "join" apos) [e] [] cpos) (tE T W (mMeth "str" joinG m ms)) :=
  r_bm (r := fun x xs H Q => ∃ a p, ∃ ys : List Str, x = .str a ∧ xs = [.ref p] ∧ (SqL T.K H p (ys.map V.str) ∨ SqT T.K H p (ys.map V.str)) ∧ (ys.map (·.length)).sum + ys.length * a.length ≤ 16777216 ∧ Q (.str (Txt.join a ys)) H)
    PySem.F.plainAttrs_str PySem.F.slot_str_join PySem.F.type_str_join (by rw [hK]; exact mt_join) join_M join_no ho ha hK hbase hfew hline hs hpl
end
end MR

/-! M15: list(text); an error that is kept beyond its suite. -/
namespace MR
open PySem PySem.Spec L2 PyProof.Rows
/-! ### list(text) -/
def rListS : List V → Hp → VK → Prop := fun xs H Q => ∃ z : Str, xs = [.str z] ∧ z.cps.size ≤ sizeLine ∧ ∀ q, H q = none → Q (.ref q) (upd H q (.lst (z.cps.toList.map fun c => .str ⟨#[c]⟩)))
theorem call_listS {X : Cx} (hc : X.calm = true) : CallR X (.type "list") rListS := by
  intro ps t st hp args us Q I rel ⟨z, is, fits, q⟩
  subst is
  have ⟨u, one, r1⟩ := vals1 rel
  subst one
  have ⟨tk0, e0⟩ := r1
  subst e0
  refine call_list_str (I.ok.hd hc) z tk0 (hn := fits) fun g tk made cap keep listed each => ?_
  have vals : Vals (z.cps.toList.map fun c => V.str ⟨#[c]⟩) made.toList := by
    apply vals_of_at
    · rw [List.length_map, Array.length_toList, Array.length_toList]
      exact each.1.symm
    · intro j x w hx hw
      rw [Array.getElem?_toList] at hw
      have ⟨c, u, hcj, is⟩ := each.2 j w hw
      rw [List.getElem?_map, Array.getElem?_toList, hcj] at hx
      injection hx with hx
      exact hx ▸ ⟨u, is⟩
  have stands : ObjOk X.prog X.w (upd hp t.heap.objs.size (.lst (z.cps.toList.map fun c => V.str ⟨#[c]⟩))) g t.heap.objs.size (.lst (z.cps.toList.map fun c => V.str ⟨#[c]⟩)) :=
    ⟨by rw [List.length_map, Array.length_toList]; exact fits, made.toList, cap, vals, by rw [Array.toArray_toList]; exact listed⟩
  exact ⟨.ref t.heap.objs.size, _, I.laid keep (Nat.le_refl _) stands, rfl, q _ (I.hok.fresh (Nat.le_refl _))⟩
def listSF (ds : List D) (S : Hs) : Res D := match ds with
  | [.str z] => if z.cps.size ≤ line then .ok (.ref S.n) (S.new (.lst (z.cps.toList.map fun c => .str ⟨#[c]⟩))) else .bad
  | _ => .bad
theorem listS_no : NoErL listSF := fun ds S c d S' h => by
  unfold listSF at h
  repeat' (first | cases h | split at h)
theorem RVs.signs {T : Ct} {φ : List Addr} {H : Hp} : ∀ cs : List Nat, RVs T φ H (cs.map fun c => D.str ⟨#[c]⟩) (cs.map fun c => V.str ⟨#[c]⟩)
  | [] => .nil
  | c :: cs => .cons (.str _) (RVs.signs cs)
theorem listS_M {T : Ct} : CallM T rListS listSF := by
  intro φ S H ds vs Q R r P
  unfold listSF at P
  split at P
  · rename_i z
    obtain ⟨v, rfl, r1⟩ := r.one
    cases r1
    split at P
    · rename_i hl
      exact ⟨z, rfl, by rw [← line_eq]; exact hl, okE.newLst R (RVs.signs _) P⟩
    · exact False.elim P
  · exact False.elim P
theorem r_listS {X : Cx} {T : Ct} {W : WX} {pos p : Pos} {e : Expr} {ms : Exs} (hc : X.calm = true) (hm : X.mg "list" = none) (ha : PA X [e] (tA T W ms)) (hg : Gl X "list" := by rfl) (he : starEach [e] X.env = (false, eval e X.env) :: starEach [] X.env := by rfl) (hpl : (backTo pos (starEach [] X.env)).any (·.1) = false := by rfl) : PE X (.Call (.Name "list" p) [e] [] pos) (tE T W (mCall listSF ms)) :=
  r_callTy (call_listS hc) listS_M listS_no hg hm (by decide +kernel) ha (by decide) (by decide) he hpl
/-! ### an error's object, tracked from now on -/
theorem adopt {X : Cx} {pins : List (Addr × Obj)} {st : L2.St} {hp : Hp} {s : Shared} {a C dd : Addr} {oe : Obj} {vs : Array Value} (I : Inv X pins st hp s) (at_ : s.heap.get? a = some oe) (hc : oe.cls = .ref C) (hd : oe.dict = some dd) (hf : oe.data = .fields vs)
    (na : hp a = none) (nL : a ≠ X.env.locals) (nP : ∀ p ∈ X.pn ++ pins, p.1 ≠ a) (nE : ∀ o, X.s_0.heap.get? a ≠ some o) : Inv X pins st (upd hp a (ExcT a C dd)) s := by
  have ne : ∀ {b : Addr} {o : HO}, hp b = some o → b ≠ a := fun q e => by rw [e, na] at q; cases q
  refine { ok := I.ok, os := I.os, bare := I.bare, loc := I.loc, cell := I.cell, len := I.len, base := ⟨I.base.keep, I.base.slot, ?_, I.base.there, ?_, ?_, ?_⟩, free := ?_, freeC := ?_, pin := ?_, hok := ?_ }
  · intro b o e n x
    have hb : b ≠ a := fun q => nE o (q ▸ e)
    exact (upd_ne hb).trans (I.base.free b o e n x)
  · intro b xs e
    have q := I.base.tups b xs e
    exact (upd_ne (ne q)).trans q
  · intro b o u e
    have q := I.base.frzs b o u e
    exact (upd_ne (ne q)).trans q
  · intro b ps e
    have ⟨more, q⟩ := I.base.tbls b ps e
    exact ⟨more, (upd_ne (ne q)).trans q⟩
  · exact (upd_ne nL.symm).trans I.free
  · intro x c e
    have hcn : c ≠ a := fun q => by
      have ⟨v, hv⟩ := I.cell x c e
      subst q
      obtain ⟨o, ho, hdat⟩ := hv
      rw [at_] at ho
      cases ho
      rw [hf] at hdat
      cases hdat
    exact (upd_ne hcn).trans (I.freeC x c e)
  · intro p hp'
    have ⟨e, n, r⟩ := I.pin p hp'
    exact ⟨e, (upd_ne (nP p hp')).trans n, r⟩
  · intro b ob e
    by_cases hb : b = a
    · subst hb
      rw [upd_same] at e
      cases e
      exact ⟨⟨oe, vs, at_, hc, hd, hf⟩, ⟨oe, at_⟩, fun h1 h2 ⟨o1, w1, e1, e2⟩ k => ⟨o1, w1, k _ e1, e2⟩⟩
    · rw [upd_ne hb] at e
      exact (I.hok b ob e).stay (fun c u _ q => q) (fun c q => (upd_ne (ne q)).trans q) fun c xs q => (upd_ne (ne q)).trans q
end MR

/-! M16: try: .. except X as e: kept = e; kept.value behind it. -/
namespace MR
open PySem PySem.Spec L2 PyProof.Rows
/-- the clause's wish: the error e (of the class at C, its dict dd) is tracked from now on, the name at j holds it, that at i is gone -/
def wKeep (K : PySem.W.Frag) (kx : Value) (i j : Nat) (Wout : WX) (D : Ends) : WX := fun kl dc st hp => ∃ b, PySem.W.exmOne K kl kx = some b ∧
  (b = true → ∃ C dd, kl = .ref C ∧ dc = some dd ∧ ∀ a, hp a = none → D.nx (((st.set i (some (.ref a))).set j (some (.ref a))).set i none) (upd hp a (ExcT a C dd))) ∧ (b = false → Wout kl dc st hp)
section
variable {X : Cx} {Wout : WX} {D : Ends} {ps0 : List (Addr × Obj)} {st : L2.St} {hp : Hp} {kl : Value} {dc : Option Addr} {e : Addr} {B : Heap} {t0 t1 : Shared}
theorem Caught.new_ (c : Caught X ps0 st hp kl dc e B t0 t1) : ∀ o, t0.heap.get? e ≠ some o := fun o at_ => by
  have inB := c.kept e o at_ c.apart
  rw [c.fly.2.1] at inB
  cases inB
theorem Caught.keeps (c : Caught X ps0 st hp kl dc e B t0 t1) (hs : X.stack = X.env :: X.outer) (hf : X.env.frame = some X.env.locals) (hN : X.N.Nodup) (hex : X.ex = []) (tk : Takes X Wout) {x n y : Str} {kx : Value} {i j : Nat} {np py p2 p3 pc : Pos} (nm : Names X x kx) (hi : X.N[i]? = some n) (hln : X.env.kindOf n = some .local)
    (hj : X.N[j]? = some y) (hly : Loc X.env.scope y) (hfy : X.fn y = true ∨ X.env.scope.names.lookup y = some .local) (hil : i < st.length) (hd1 : (n == ("__debug__" : Str)) = false) (hd2 : (n == ("__classdict__" : Str)) = false)
    (hsw : swapsWith (.Name n p2) (some (.Name y py)) p3.line X.env = pure false) (w : wKeep X.K kx i j Wout D kl dc st hp) :
    wpAny (model X.prog X.w) X.A (handleBy (.ref e) X.env [.ExceptHandler (some (.Name x np)) (some n) [.Assign [.Name y py] (.Name n p2) p3] pc]) (SP X ps0 D) X.xe t1 := by
  have ⟨yes, asked, ifYes, ifNo⟩ := w
  have ⟨ne1, ne2⟩ := c.off hs hf
  have ⟨o1, v1, at1, z1, d1⟩ := c.fly.there
  have I1 := c.now.suite at1 d1 c.none_ ne1 ne2
  have kind : PySem.W.Looks (model X.prog X.w) t1.heap (typeOf (.ref e)) kl := fun _ _ _ _ same q => wpAny_typeOf_ref (same _ _ at1) (z1.1.symm ▸ q)
  have matched := PySem.W.exm_one (M := model X.prog X.w) c.now.kIn kind asked
  refine wpAny_handleBy_cons (codeAny_handlers_test ?_) (fun q => nomatch q)
  have named : ∀ {R : Value → Shared → Prop} {N : Value → Shared → Prop}, R kx t1 → wpAny (model X.prog X.w) (X.A.mark (some (.ref e))) (eval (.Name x np) X.env) R N t1 := by
    intro R N r
    have ⟨g1, g2, g3⟩ := nm
    rcases g3 with g3 | ⟨g3, g4, g5⟩
    · exact ld_glob (X := X.suite e ((e, o1) :: (X.pn ++ ps0))) I1 g1 g3 r g2
    · exact ld_blt (X := X.suite e ((e, o1) :: (X.pn ++ ps0))) I1 g1 g3 g4 r g5 g2
  apply named
  apply matched.here
  cases yes
  · exact c.pass hf tk (ifNo rfl)
  · apply codeAny_handlers_suite_as
    apply HandSPX.lands_againZ c.fly
    intro g fl up
    have c2 := c.again fl up
    have ⟨o2, v2, at2, z2, d2⟩ := fl.there
    have I2 := c2.now.suite at2 d2 c.none_ ne1 ne2
    refine store_ok (X := X.suite e ((e, o2) :: (X.pn ++ ps0))) (v := .ref e) I2 hN hi (.inl hln) rfl (fun t3 I3 => ?_) (.inr hln)
    have ⟨C, dd, isC, isD, on⟩ := ifYes rfl
    have body : PSs (X.suite e ((e, o2) :: (X.pn ++ ps0))) [.Assign [.Name y py] (.Name n p2) p3] _ := pss_one (ps_set (X := X.suite e ((e, o2) :: (X.pn ++ ps0))) (i := j) hN hj hly (pe_var (X := X.suite e ((e, o2) :: (X.pn ++ ps0))) (i := i) hi (.inl hln) hd1 hd2) hsw hfy)
    have ran := body.run [] t3 (st.set i (some (.ref e))) hp { nx := fun st4 hp4 => st4 = (st.set i (some (.ref e))).set j (some (.ref e)) ∧ hp4 = hp, rt := fun _ _ => False, bk := fun _ _ => False, ct := fun _ _ => False } I3 ⟨.ref e, List.getElem?_set_self hil, rfl, rfl⟩
    refine wpAny_mono ran (fun f t4 ended => ?_) fun _ _ none_ => none_.elim
    cases f with
    | next =>
      have ⟨st4, hp4, I4, q1, q2⟩ := ended
      subst q1 q2
      refine gone_ok (X := X.suite e ((e, o2) :: (X.pn ++ ps0))) I4 hN hi hln fun t5 I5 => ?_
      have ⟨at5, _, _, _, _⟩ := I5.pin (e, o2) (List.mem_append_left _ List.mem_cons_self)
      have J : Inv X ps0 _ hp4 t5 := I5.unsuite c.inv.ok
      have nP : ∀ p ∈ X.pn ++ ps0, p.1 ≠ e := fun p hp' q => by
        have ⟨at0, _⟩ := c.inv.pin p hp'
        rw [q] at at0
        exact c.new_ _ at0
      have nE : ∀ o, X.s_0.heap.get? e ≠ some o := fun o at0 => by
        have ⟨o', q⟩ := c.inv.base.there e o at0 (by rw [hex]; exact List.not_mem_nil)
        exact c.new_ _ q
      exact ⟨_, _, adopt J at5 (z2.1.trans isC) (z2.2.trans isD) d2 c.none_ ne1 nP nE, on e c.none_⟩
    | ret u => have ⟨_, _, _, _, _, q⟩ := ended; exact q.elim
    | brk => have ⟨_, _, _, q⟩ := ended; exact q.elim
    | cont => have ⟨_, _, _, q⟩ := ended; exact q.elim
theorem ps_try_keep {body : List Stmt} {x n y : Str} {kx : Value} {i j : Nat} {np py p2 p3 pc pos : Pos} {tb : WX → TS} (hs : X.stack = X.env :: X.outer) (hf : X.env.frame = some X.env.locals) (hN : X.N.Nodup) (hex : X.ex = []) (tk : Takes X Wout)
    (hb : ∀ (W : WX) (pn : List (Addr × Obj)) (xe : Value → Shared → Prop), Takes (X.tr pn xe) W → PassesOwn (model X.prog X.w) X.A X.env xe → PSs (X.tr pn xe) body (tb W)) (nm : Names X x kx) (hi : X.N[i]? = some n) (hln : X.env.kindOf n = some .local)
    (hj : X.N[j]? = some y) (hly : Loc X.env.scope y) (hfy : X.fn y = true ∨ X.env.scope.names.lookup y = some .local) (hd1 : (n == ("__debug__" : Str)) = false) (hd2 : (n == ("__classdict__" : Str)) = false) (hsw : swapsWith (.Name n p2) (some (.Name y py)) p3.line X.env = pure false) :
    PS X (.Try body [.ExceptHandler (some (.Name x np)) (some n) [.Assign [.Name y py] (.Name n p2) p3] pc] [] [] pos) (fun D st hp => tb (wKeep X.K kx i j Wout D) D st hp) := by
  constructor
  intro ps0 t st hp D I h
  have frames : X.A.frames = some (X.env :: X.outer) := I.ok.frames.trans (congrArg some hs)
  let hds : List ExceptHandler := [.ExceptHandler (some (.Name x np)) (some n) [.Assign [.Name y py] (.Name n p2) p3] pc]
  let onError : Value → Shared → Prop := fun v t1 => wpAny (model X.prog X.w) X.A (noteFrame v X.env) (fun _ t2 => wpAny (model X.prog X.w) X.A (setFlight v none) (fun _ t3 => wpAny (model X.prog X.w) X.A (handleBy v X.env hds) (SP X ps0 D) X.xe t3) X.xe t2) X.xe t1
  have caught : Takes (X.tr (X.pn ++ ps0) onError) (wKeep X.K kx i j Wout D) := by
    intro u t1 air
    have ⟨e, B, t0, ps1, st1, hp1, kl, dc, is, J, kept, slots, sky, none_, os, bare, w⟩ := air
    subst is
    have J0 : Inv X ps0 st1 hp1 t0 := J.ofTry I.ok
    have sky0 : Sky B (X.env :: X.outer) e (Zc kl dc) X.env.locals t1.heap := hs ▸ sky
    have hil : i < st1.length := by
      rw [J0.len]
      exact (List.getElem?_eq_some_iff.mp hi).1
    show wpAny (model X.prog X.w) X.A (noteFrame (.ref e) X.env) _ _ _
    apply Sky.land Zc.steady frames hf sky0
    intro g fl up
    exact Caught.keeps (D := D) (t1 := { t1 with heap := g }) ⟨J0, kept, slots.trans up, hs ▸ fl, none_, os, bare⟩ hs hf hN hex tk nm hi hln hj hly hfy hil hd1 hd2 hsw w
  apply wpAny_Try_except
  refine wpAny_mono ((hb _ (X.pn ++ ps0) onError caught PassesOwn.looking).run [] t st hp D (I.toTry _) h) (fun f t1 ended => ?_) fun _ _ is => is
  cases f with
  | ret u => have ⟨v, st1, hp1, J, rel, q⟩ := ended; exact ⟨v, st1, hp1, J.ofTry I.ok, rel, q⟩
  | next => have ⟨st1, hp1, J, q⟩ := ended; exact wpAny_execs_nil ⟨st1, hp1, J.ofTry I.ok, q⟩
  | brk => have ⟨st1, hp1, J, q⟩ := ended; exact ⟨st1, hp1, J.ofTry I.ok, q⟩
  | cont => have ⟨st1, hp1, J, q⟩ := ended; exact ⟨st1, hp1, J.ofTry I.ok, q⟩
end
/-! ### the mirror -/
def mTryK (isa : Isa) (kn : List Str) (b : SM) (x : Str) (i j : Nat) : SM := fun env S => match b env S with
  | .err c d env1 S1 => if c ∈ kn then (if isa c x then .nx ((env1.set j (some (.er c d))).set i none) S1 else .err c d env1 S1) else .bad
  | r => r
section
variable {T : Ct} {φ : List Addr} {H : Hp} {S : Hs}
/-- the names behind such a clause -/
theorem RE.kept {env : EnvD} {st : L2.St} {c : Str} {d : D} {v : V} {a dd : Addr} {i j : Nat} (R : RS T φ S H) (E : RE T φ H env st) (hij : i ≠ j) (na : H a = none) (hd : H dd = some (.xd (fV v))) (r : RV T φ H d v) :
    RS T φ S (upd H a (ExcT a (T.ca c) dd)) ∧ Up φ H φ (upd H a (ExcT a (T.ca c) dd)) ∧ RE T φ (upd H a (ExcT a (T.ca c) dd)) ((env.set j (some (.er c d))).set i none) (((st.set i (some (.ref a))).set j (some (.ref a))).set i none) := by
  obtain ⟨R1, u1⟩ := R.laid (o := ExcT a (T.ca c) dd) na
  have rer : RV T φ (upd H a (ExcT a (T.ca c) dd)) (.er c d) (.ref a) := .er upd_same (R.stay u1 hd rfl) (r.up R u1)
  have E1 := E.up R u1
  refine ⟨R1, u1, by simp [E1.1], fun k e h => ?_⟩
  by_cases hk : i = k
  · subst hk
    by_cases hl : i < (env.set j (some (.er c d))).length
    · rw [List.getElem?_set_self hl] at h; cases h
    · rw [List.getElem?_eq_none (by simpa using hl)] at h; cases h
  · rw [List.getElem?_set_ne hk] at h ⊢
    by_cases hkj : j = k
    · subst hkj
      by_cases hl : j < env.length
      · rw [List.getElem?_set_self hl] at h
        cases h
        exact ⟨_, List.getElem?_set_self (by rw [List.length_set, ← E1.1]; exact hl), .rv rer⟩
      · rw [List.getElem?_eq_none (by simpa using hl)] at h; cases h
    · rw [List.getElem?_set_ne hkj] at h
      obtain ⟨w, h1, h2⟩ := E1.2 k e h
      exact ⟨w, by rw [List.getElem?_set_ne hkj, List.getElem?_set_ne hk]; exact h1, h2⟩
end
theorem s_tryK {X : Cx} {T : Ct} {W : WX} {isa : Isa} {kn : List Str} {body : List Stmt} {x n y : Str} (i j : Nat) {np py p2 p3 pc pos : Pos} {mb : SM} (hs : X.stack = X.env :: X.outer) (hf : X.env.frame = some X.env.locals) (hN : X.N.Nodup) (hex : X.ex = []) (tk : Takes X W)
    (hb : ∀ (W : WX) (pn : List (Addr × Obj)) (xe : Value → Shared → Prop), Takes (X.tr pn xe) W → PassesOwn (model X.prog X.w) X.A X.env xe → PSs (X.tr pn xe) body (tS T W mb))
    (hg : Gl X x) (hm : X.mg x = some (.ref (T.ca x))) (hx : ∀ c ∈ kn, PySem.W.exmOne X.K (.ref (T.ca c)) (.ref (T.ca x)) = some (isa c x)) (hi : X.N[i]? = some n := by rfl) (hln : X.env.kindOf n = some .local := by rfl) (hj : X.N[j]? = some y := by rfl) (hij : i ≠ j := by decide)
    (hly : Loc X.env.scope y := by first | exact Or.inl rfl | exact Or.inr rfl) (hfy : X.fn y = true ∨ X.env.scope.names.lookup y = some .local := by first | exact .inl rfl | exact .inr rfl) (hd0 : (x == ("__debug__" : Str)) = false := by decide +kernel) (hd1 : (n == ("__debug__" : Str)) = false := by decide +kernel) (hd2 : (n == ("__classdict__" : Str)) = false := by decide +kernel)
    (hsw : swapsWith (.Name n p2) (some (.Name y py)) p3.line X.env = pure false := by rfl) :
    PS X (.Try body [.ExceptHandler (some (.Name x np)) (some n) [.Assign [.Name y py] (.Name n p2) p3] pc] [] [] pos) (tS T W (mTryK isa kn mb x i j)) :=
  weakS (ps_try_keep (tb := fun W => tS T W mb) hs hf hN hex tk hb ⟨hg, hd0, .inl hm⟩ hi hln hj hly hfy hd1 hd2 hsw) fun D0 st H ⟨φ, env, S, R, E, P⟩ => by
  refine ⟨φ, env, S, R, E, ?_⟩
  unfold mTryK at P
  cases e : mb env S with
  | err c d env1 S1 =>
    rw [e] at P
    by_cases hc : c ∈ kn
    · have P' : PostS T W φ H D0 (if c ∈ kn then (if isa c x then .nx ((env1.set j (some (.er c d))).set i none) S1 else .err c d env1 S1) else .bad) := P
      rw [if_pos hc] at P'
      intro φ1 H1 st1 dd v u R1 E1 r1 xd
      refine ⟨isa c x, hx c hc, fun yes => ?_, fun no => ?_⟩
      · rw [if_pos yes] at P'
        refine ⟨T.ca c, dd, rfl, rfl, fun a na => ?_⟩
        obtain ⟨R2, u2, E2⟩ := RE.kept (c := c) R1 E1 hij na xd r1
        exact P' φ1 _ _ (u.trans u2) R2 E2
      · rw [no, if_neg Bool.false_ne_true] at P'
        exact P' φ1 H1 st1 dd v u R1 E1 r1 xd
    · have P' : PostS T W φ H D0 (if c ∈ kn then (if isa c x then .nx ((env1.set j (some (.er c d))).set i none) S1 else .err c d env1 S1) else .bad) := P
      rw [if_neg hc] at P'
      exact False.elim P'
  | _ =>
    rw [e] at P
    exact P
/-! ### kept.value -/
def mVal (kn : List Str) (m : Ex) : Ex := fun env S => (m env S).bind fun d S1 => match d with
  | .er c d => if c ∈ kn then .ok d S1 else .bad
  | _ => .bad
/-- the reading of a kept error's field -/
def tXv (kn : List Str) (ca : Str → Addr) (te : TE) : TE := fun σ H Q => te σ H fun x H1 => ∃ a c dd v, x = .ref a ∧ c ∈ kn ∧ H1 a = some (ExcT a (ca c) dd) ∧ H1 dd = some (.xd (fV v)) ∧ Q v H1
theorem pe_xv {X : Cx} {kn : List Str} {ca : Str → Addr} {e : Expr} {te : TE} {pos : Pos} (F : ∀ c ∈ kn, XfC X.K (ca c)) (no : ∀ c ∈ kn, PySem.W.findIn X.K (.ref (ca c)) "value" = some none) (he : PE X e te) (hb : attributeBase e "value" X.env (eval e X.env) = eval e X.env := by rfl) :
    PE X (.Attribute e "value" pos) (tXv kn ca te) := by
  constructor
  intro ps t st hp Q I h
  refine attr_of hb (thn (he.run ps t st hp _ I h) fun u t1 got => ?_)
  have ⟨x, hp1, J, rel, a, c, dd, v, is, hc, tracked, own, q⟩ := got
  subst is
  cases (show u = Value.ref a from rel)
  have ⟨⟨oe, vs, at_, kl, di, fl⟩, _⟩ := J.hok a _ tracked
  have ⟨mA, ns, each⟩ := J.hok dd _ own
  have ⟨od, ho, look⟩ := lookIn_ns ns
  have has : List.lookup ("value" : Str) (fV v) = some v := by simp [fV, List.lookup]
  have ⟨u, hu, ru⟩ := RelO.some_of (v := v) (o := mA "value") (by rw [← has]; exact each "value")
  have inst : PySem.W.InstAt t1.heap a oe (ca c) (some od) := ⟨at_, kl, by unfold PySem.W.notCls; rw [fl] <;> rfl, by rw [di]; exact ho⟩
  exact HandSPX.exc_get J.kIn inst (F c hc).ga (F c hc).gg (F c hc).exC (PySem.W.findObj_own (F c hc).hdC (no c hc) rfl (by rw [look, hu])) (handed_of ru) ⟨v, hp1, J.tok _, ru, q⟩
theorem r_val {X : Cx} {T : Ct} {W : WX} {isa : Isa} {kn cl : List Str} {e : Expr} {m : Ex} {pos : Pos} (F : ErrK X.K T.ca isa kn cl) (he : PE X e (tE T W m)) (hb : attributeBase e "value" X.env (eval e X.env) = eval e X.env := by rfl) : PE X (.Attribute e "value" pos) (tE T W (mVal kn m)) :=
  weakE (pe_xv (kn := kn) (ca := T.ca) F.xf F.no he hb) fun σ H Q ⟨φ, env, S, R, E, P⟩ => tE_bind R E P fun d S1 φ1 H1 v u R1 r1 E1 P1 => by
    cases r1 with
    | @er c d a dd w h hd r =>
      simp only at P1
      split at P1
      · rename_i hc
        exact ⟨a, c, dd, w, rfl, hc, h, hd, P1 φ1 H1 _ u R1 r⟩
      · exact False.elim P1
    | _ => exact False.elim P1
end MR

/-! M17: a text as a key beside one tuple. -/
namespace MR
open PySem PySem.Spec L2 PyProof.Rows
section
variable {prog : Program} {w : World} {A : Around} {E : Value → Shared → Prop} {s : Shared} {d b : Addr} {o : Obj} {ep : Nat} {h0 ht : Int} {v0 v1 : Value} {x : Str} {t t1 : Tok} {ks : List NestedKey}
theorem tell_no {key : Value} {st : List Value} {Q : Bool → Shared → Prop} (hk : QuietAt prog w 8 s key) (hs : ∀ v ∈ st, QuietAt prog w 8 s v) (h : Q false s) : wpAny (model prog w) A (tableMayTell key st) Q E s := by
  unfold tableMayTell
  split
  · exact wpAny_pure h
  · refine wpAny_bind (hk _ _ _ ?_)
    simp only [if_false, Bool.not_true, Bool.false_eq_true]
    refine wpAny_bind (wpAny_forIn_list _ (fun rest r s' => s' = s ∧ r = (none, ()) ∧ ∀ v ∈ rest, v ∈ st) _ ?_ ?_ _ _ ⟨rfl, rfl, fun v hv => hv⟩)
    · intro y rest r s' ⟨e1, e2, hr⟩
      subst e1
      subst e2
      refine wpAny_bind (hs y (hr y (by simp)) _ _ _ ?_)
      simp only [if_false, Bool.not_true, Bool.false_eq_true]
      exact wpAny_pure ⟨rfl, rfl, fun v hv => hr v (by simp [hv])⟩
    · intro r s' ⟨e1, e2, _⟩
      subst e1
      subst e2
      exact wpAny_pure h
/-- the two entries -/
abbrev enT (h0 : Int) (b : Addr) (v0 : Value) : DictEntry := ⟨h0, .ref b, v0⟩
abbrev enS (ht : Int) (x : Str) (t : Tok) (v1 : Value) : DictEntry := ⟨ht, .str x t, v1⟩
theorem eq_ts (hk : NestedIs s.heap (.tup ks) (.ref b)) (hu : A.units < cLine) : SeqAt.EqAt A s (.ref b) (.str x t) false :=
  eqAt_key (.tup ks) (.text x) A s _ _ hk (.text x t) (by simp [NestedKey.depth]; omega)
theorem eq_st (hk : NestedIs s.heap (.tup ks) (.ref b)) (hu : A.units < cLine) : SeqAt.EqAt A s (.str x t) (.ref b) false :=
  eqAt_key (.text x) (.tup ks) A s _ _ (.text x t) hk (by simp [NestedKey.depth]; omega)
/-- beside one tuple, the text is not there -/
theorem find_no {Q : Option Nat → Shared → Prop} (hk : NestedIs s.heap (.tup ks) (.ref b)) (dk : (NestedKey.tup ks).depth ≤ 8) (hu : A.units < cLine)
    (ho : s.heap.get? d = some o) (hd : o.data = .dict #[enT h0 b v0] ep) (h : Q none s) : wpAny (model prog w) A (dictFind d (.str x t) ht) Q E s := by
  unfold dictFind
  refine wpAny_holding (wpAny_bind (wpAny_dictEntries ho hd ?_))
  dsimp only
  rw [if_neg (by simp [isExactStrKey])]
  by_cases hh : h0 = ht
  · subst hh
    have pl : placesWithHash (#[enT h0 b v0]).size (fun i => (#[enT h0 b v0])[i]?.map (·.hash)) h0 = [0] := by simp [placesWithHash, List.range_succ]
    have st : ([0] : List Nat).filterMap (fun i => (#[enT h0 b v0])[i]?.map (·.key)) = [.ref b] := by simp
    rw [pl, st]
    rw [if_neg (by simp [carriedByValue]), if_neg (by simp)]
    refine wpAny_bind (tell_no (.byValue rfl) (fun v hv => ?_) ?_)
    · simp at hv
      subst hv
      exact quiet_key _ _ _ _ hk dk
    · simp only [if_false, Bool.false_and, Bool.false_eq_true]
      refine wpAny_bind (wpAny_forIn_list _ (fun rest r s' => s' = s ∧ r = (none, none) ∧ (rest = [0] ∨ rest = [])) _ ?_ ?_ _ _ ⟨rfl, rfl, .inl rfl⟩)
      · intro y rest r s' ⟨e1, e2, hr⟩
        subst e1
        subst e2
        rcases hr with hr | hr
        · cases hr
          simp only [List.getElem?_toArray, List.getElem?_cons_zero]
          rw [if_pos (by simp)]
          refine wpAny_bind (wpAny_dictEpoch ho hd (wpAny_bind (eq_ts hk hu _ _ _ _ (wpAny_bind (wpAny_dictEpoch ho hd ?_)))))
          simp only [if_false, bne_self_eq_false, Bool.false_eq_true]
          exact wpAny_bind (wpAny_rule (wpAny_pure ⟨rfl, rfl, by simp⟩))
        · cases hr
      · intro r s' ⟨e1, e2, _⟩
        subst e1
        subst e2
        exact wpAny_pure h
  · have pl : placesWithHash (#[enT h0 b v0]).size (fun i => (#[enT h0 b v0])[i]?.map (·.hash)) ht = [] := by simp [placesWithHash, List.range_succ, hh]
    rw [pl]
    rw [if_pos (by simp [carriedByValue])]
    unfold dictWalkPlain
    refine wpAny_bind (wpAny_forIn_list _ (fun rest r s' => s' = s ∧ r = (none, ()) ∧ rest = []) _ ?_ ?_ _ _ ⟨rfl, rfl, rfl⟩)
    · intro y rest r s' ⟨_, _, hr⟩
      cases hr
    · intro r s' ⟨e1, e2, _⟩
      subst e1
      subst e2
      exact wpAny_pure h
/-- beside one tuple, the text stands second -/
theorem find_yes {Q : Option Nat → Shared → Prop} (hk : NestedIs s.heap (.tup ks) (.ref b)) (dk : (NestedKey.tup ks).depth ≤ 8) (hu : A.units < cLine)
    (ho : s.heap.get? d = some o) (hd : o.data = .dict #[enT h0 b v0, enS ht x t1 v1] ep) (h : Q (some 1) s) : wpAny (model prog w) A (dictFind d (.str x t) ht) Q E s := by
  unfold dictFind
  refine wpAny_holding (wpAny_bind (wpAny_dictEntries ho hd ?_))
  dsimp only
  rw [if_neg (by simp [isExactStrKey])]
  have e1 : SeqAt.EqAt A s (.str x t1) (.str x t) true := by
    have q := SeqAt.EqAt.str_str (A := A) (s := s) x t1 x t
    rw [beq_self_eq_true] at q
    exact q
  by_cases hh : h0 = ht
  · subst hh
    have pl : placesWithHash (#[enT h0 b v0, enS h0 x t1 v1]).size (fun i => (#[enT h0 b v0, enS h0 x t1 v1])[i]?.map (·.hash)) h0 = [0, 1] := by simp [placesWithHash, List.range_succ]
    have st : ([0, 1] : List Nat).filterMap (fun i => (#[enT h0 b v0, enS h0 x t1 v1])[i]?.map (·.key)) = [.ref b, .str x t1] := by simp
    rw [pl, st]
    rw [if_neg (by simp [carriedByValue]), if_neg (by simp)]
    refine wpAny_bind (tell_no (.byValue rfl) (fun v hv => ?_) ?_)
    · simp at hv
      rcases hv with hv | hv
      · subst hv
        exact quiet_key _ _ _ _ hk dk
      · subst hv
        exact .byValue rfl
    · simp only [if_false, Bool.false_and, Bool.false_eq_true]
      refine wpAny_bind (wpAny_forIn_list _ (fun rest r s' => s' = s ∧ ((r = (none, none) ∧ (rest = [0, 1] ∨ rest = [1])) ∨ (r = (none, some 1) ∧ rest = []))) _ ?_ ?_ _ _ ⟨rfl, .inl ⟨rfl, .inl rfl⟩⟩)
      · intro y rest r s' ⟨e2, hr⟩
        subst e2
        rcases hr with ⟨rfl, hr | hr⟩ | ⟨rfl, hr⟩
        · cases hr
          simp only [List.getElem?_toArray, List.getElem?_cons_zero]
          rw [if_pos (by simp)]
          refine wpAny_bind (wpAny_dictEpoch ho hd (wpAny_bind (eq_ts hk hu _ _ _ _ (wpAny_bind (wpAny_dictEpoch ho hd ?_)))))
          simp only [if_false, bne_self_eq_false, Bool.false_eq_true]
          exact wpAny_bind (wpAny_rule (wpAny_pure ⟨rfl, .inl ⟨rfl, by simp⟩⟩))
        · cases hr
          simp only [List.getElem?_toArray, List.getElem?_cons_succ, List.getElem?_cons_zero]
          rw [if_pos (by simp)]
          refine wpAny_bind (wpAny_dictEpoch ho hd (wpAny_bind (e1 _ _ _ _ (wpAny_bind (wpAny_dictEpoch ho hd ?_)))))
          simp only [bne_self_eq_false, Bool.false_eq_true, if_false, if_true, Option.isSome_none]
          refine wpAny_bind (wpAny_rule ?_); rw [if_neg (by simp)]
          exact wpAny_pure ⟨rfl, .inr ⟨rfl, by simp⟩⟩
        · cases hr
      · intro r s' ⟨e2, hr⟩
        subst e2
        rcases hr with ⟨_, hr | hr⟩ | ⟨rfl, _⟩
        · cases hr
        · cases hr
        · exact wpAny_pure h
  · have pl : placesWithHash (#[enT h0 b v0, enS ht x t1 v1]).size (fun i => (#[enT h0 b v0, enS ht x t1 v1])[i]?.map (·.hash)) ht = [1] := by simp [placesWithHash, List.range_succ, hh]
    have st : ([1] : List Nat).filterMap (fun i => (#[enT h0 b v0, enS ht x t1 v1])[i]?.map (·.key)) = [.str x t1] := by simp
    rw [pl, st]
    rw [if_pos (by simp [carriedByValue])]
    unfold dictWalkPlain
    refine wpAny_bind (wpAny_forIn_list _ (fun rest r s' => s' = s ∧ r = (none, ()) ∧ rest = [1]) _ ?_ ?_ _ _ ⟨rfl, rfl, rfl⟩)
    · intro y rest r s' ⟨e2, e3, hr⟩
      subst e2
      subst e3
      cases hr
      simp only [List.getElem?_toArray, List.getElem?_cons_succ, List.getElem?_cons_zero]
      rw [if_pos (by simp)]
      refine wpAny_bind (wpAny_dictEpoch ho hd (wpAny_bind (e1 _ _ _ _ (wpAny_bind (wpAny_dictEpoch ho hd ?_)))))
      simp only [bne_self_eq_false, Bool.false_eq_true, if_false, if_true]
      refine wpAny_bind (wpAny_rule (wpAny_pure ?_)); exact wpAny_pure h
    · intro r s' ⟨_, _, hr⟩
      cases hr
/-- the tuple's own place beside a text -/
theorem find_own {Q : Option Nat → Shared → Prop} (hk : NestedIs s.heap (.tup ks) (.ref b)) (dk : (NestedKey.tup ks).depth ≤ 8) (hu : A.units + 8 < cLine)
    (ho : s.heap.get? d = some o) (hd : o.data = .dict #[enT h0 b v0, enS ht x t1 v1] ep) (h : Q (some 0) s) : wpAny (model prog w) A (dictFind d (.ref b) h0) Q E s := by
  unfold dictFind
  refine wpAny_holding (wpAny_bind (wpAny_dictEntries ho hd ?_))
  dsimp only
  rw [if_neg (by simp [carriedByValue]), if_neg (by simp)]
  have e1 : SeqAt.EqAt A s (.ref b) (.ref b) true := SeqAt.EqAt.same _
  by_cases hh : h0 = ht
  · subst hh
    have pl : placesWithHash (#[enT h0 b v0, enS h0 x t1 v1]).size (fun i => (#[enT h0 b v0, enS h0 x t1 v1])[i]?.map (·.hash)) h0 = [0, 1] := by simp [placesWithHash, List.range_succ]
    have st : ([0, 1] : List Nat).filterMap (fun i => (#[enT h0 b v0, enS h0 x t1 v1])[i]?.map (·.key)) = [.ref b, .str x t1] := by simp
    rw [pl, st]
    rw [if_neg (by simp)]
    refine wpAny_bind (tell_no (quiet_key _ _ _ _ hk dk) (fun v hv => ?_) ?_)
    · simp at hv
      rcases hv with hv | hv
      · subst hv
        exact quiet_key _ _ _ _ hk dk
      · subst hv
        exact .byValue rfl
    · simp only [if_false, Bool.false_and, Bool.false_eq_true]
      refine wpAny_bind (wpAny_forIn_list _ (fun rest r s' => s' = s ∧ ((r = (none, none) ∧ rest = [0, 1]) ∨ (r = (none, some 0) ∧ (rest = [1] ∨ rest = [])))) _ ?_ ?_ _ _ ⟨rfl, .inl ⟨rfl, rfl⟩⟩)
      · intro y rest r s' ⟨e2, hr⟩
        subst e2
        rcases hr with ⟨rfl, hr⟩ | ⟨rfl, hr | hr⟩
        · cases hr
          simp only [List.getElem?_toArray, List.getElem?_cons_zero]
          rw [if_pos (by simp)]
          refine wpAny_bind (wpAny_dictEpoch ho hd (wpAny_bind (e1 _ _ _ _ (wpAny_bind (wpAny_dictEpoch ho hd ?_)))))
          simp only [bne_self_eq_false, Bool.false_eq_true, if_false, if_true, Option.isSome_none]
          refine wpAny_bind (wpAny_rule ?_); rw [if_neg (by simp)]
          exact wpAny_pure ⟨rfl, .inr ⟨rfl, by simp⟩⟩
        · cases hr
          simp only [List.getElem?_toArray, List.getElem?_cons_succ, List.getElem?_cons_zero]
          rw [if_pos (by simp)]
          refine wpAny_bind (wpAny_dictEpoch ho hd (wpAny_bind (eq_st hk (by omega) _ _ _ _ (wpAny_bind (wpAny_dictEpoch ho hd ?_)))))
          simp only [if_false, bne_self_eq_false, Bool.false_eq_true]
          exact wpAny_bind (wpAny_rule (wpAny_pure ⟨rfl, .inr ⟨rfl, by simp⟩⟩))
        · cases hr
      · intro r s' ⟨e2, hr⟩
        subst e2
        rcases hr with ⟨_, hr⟩ | ⟨rfl, _⟩
        · cases hr
        · exact wpAny_pure h
  · have hh' : ¬ ht = h0 := fun e => hh e.symm
    have pl : placesWithHash (#[enT h0 b v0, enS ht x t1 v1]).size (fun i => (#[enT h0 b v0, enS ht x t1 v1])[i]?.map (·.hash)) h0 = [0] := by simp [placesWithHash, List.range_succ, hh']
    have st : ([0] : List Nat).filterMap (fun i => (#[enT h0 b v0, enS ht x t1 v1])[i]?.map (·.key)) = [.ref b] := by simp
    rw [pl, st]
    rw [if_pos (by simp)]
    refine wpAny_bind (wpAny_pure ?_); simp only [if_false, Bool.false_and, Bool.false_eq_true]
    refine wpAny_bind (wpAny_forIn_list _ (fun rest r s' => s' = s ∧ r = (none, none) ∧ rest = [0]) _ ?_ ?_ _ _ ⟨rfl, rfl, rfl⟩)
    · intro y rest r s' ⟨e2, e3, hr⟩
      subst e2
      subst e3
      cases hr
      simp only [List.getElem?_toArray, List.getElem?_cons_zero]
      rw [if_pos (by simp)]
      refine wpAny_bind (wpAny_dictEpoch ho hd (wpAny_bind (e1 _ _ _ _ (wpAny_bind (wpAny_dictEpoch ho hd ?_)))))
      simp only [bne_self_eq_false, Bool.false_eq_true, if_false, if_true, Option.isSome_none]
      refine wpAny_bind (wpAny_rule ?_); rw [if_pos (by simp)]
      apply wpAny_pure; exact wpAny_pure h
    · intro r s' ⟨_, _, hr⟩
      cases hr
end
end MR

/-! M18: d[text] = v, d.pop(text) and d == d where d has at most one tuple key beside the text. -/
namespace MR
open PySem PySem.Spec L2 PyProof.Rows
section
variable {prog : Program} {w : World} {A : Around} {E : Value → Shared → Prop} {s : Shared} {d b : Addr} {o : Obj} {ep : Nat} {h0 : Int} {v0 v1 : Value} {x : Str} {t t1 : Tok} {ks : List NestedKey}
/-- the dict's entries, as they lie -/
def MixAt (h : Heap) (d : Addr) (es : Array DictEntry) : Prop := ∃ o ep, h.get? d = some o ∧ o.ExactDict ∧ o.data = .dict es ep
theorem MixAt.typeIs {es : Array DictEntry} (m : MixAt s.heap d es) : s.TypeIs (.ref d) "dict" := let ⟨o, _, ho, hc, _⟩ := m; ⟨o, ho, hc.1⟩
/-- no key, or one tuple -/
def OneT (h : Heap) (es : Array DictEntry) : Prop := es = #[] ∨ ∃ (ks : List NestedKey) (h0 : Int) (b : Addr) (v0 : Value), NestedIs h (.tup ks) (.ref b) ∧ (NestedKey.tup ks).depth ≤ 8 ∧ es = #[enT h0 b v0]
section
variable {es : Array DictEntry} {ht : Int}
theorem OneT.none {Q : Option Nat → Shared → Prop} (q : OneT s.heap es) (hu : A.units < cLine) (ho : s.heap.get? d = some o) (hd : o.data = .dict es ep) (h : Q none s) : wpAny (model prog w) A (dictFind d (.str x t) ht) Q E s := by
  rcases q with rfl | ⟨ks, h0, b, v0, hk, dk, rfl⟩
  · exact KTD.kt_dictFind_strs ho hd (by simp) (by simpa using h)
  · exact find_no hk dk hu ho hd h
theorem OneT.text {Q : Option Nat → Shared → Prop} (q : OneT s.heap es) (hu : A.units < cLine) (ho : s.heap.get? d = some o) (hd : o.data = .dict (es.push (enS ht x t1 v1)) ep) (h : Q (some es.size) s) : wpAny (model prog w) A (dictFind d (.str x t) ht) Q E s := by
  rcases q with rfl | ⟨ks, h0, b, v0, hk, dk, rfl⟩
  · exact KTD.kt_dictFind_strs ho hd (by simp [isExactStrKey]) (by simpa [Value.isStr] using h)
  · exact find_yes hk dk hu ho hd h
theorem OneT.each (q : OneT s.heap es) (hu : A.units + 8 < cLine) (ho : s.heap.get? d = some o) (hd : o.data = .dict (es.push (enS ht x t1 v1)) ep) (i : Nat) (e : DictEntry) (he : (es.push (enS ht x t1 v1))[i]? = some e)
    (E' : Value → Shared → Prop) (Q' : Option Nat → Shared → Prop) (h : Q' (some i) s) : wpAny (model prog w) A (dictFind d e.key e.hash) Q' E' s := by
  rcases q with rfl | ⟨ks, h0, b, v0, hk, dk, rfl⟩
  · match i, he with
    | 0, he =>
      cases he
      exact KTD.kt_dictFind_strs ho hd (by simp [isExactStrKey]) (by simpa [Value.isStr] using h)
    | i + 1, he => cases he
  · match i, he with
    | 0, he =>
      cases he
      exact find_own hk dk hu ho hd h
    | 1, he =>
      cases he
      exact find_yes hk dk (by omega) ho hd h
    | i + 2, he => cases he
theorem set_told {Q : Unit → Shared → Prop} (q : OneT s.heap es) (hu : A.units + 1 < cLine) (m : MixAt s.heap d es)
    (h : ∀ h' tk, MixAt h' d (es.push (enS (hashStr w x) x t v1)) → Heap.SameBut d s.heap h' → Q () { s with heap := h', toks := tk }) :
    wpAny (model prog w) A (setItem (.ref d) (.str x t) v1) Q E s := by
  have ty := m.typeIs
  obtain ⟨o, ep, ho, hc, hd⟩ := m
  have hz : es.size ≤ sizeLine := by
    rw [sizeLine_eq]
    rcases q with rfl | ⟨ks, h0, b, v0, hk, dk, rfl⟩
    · exact Nat.zero_le _
    · exact (by decide : 1 ≤ 16777216)
  unfold setItem
  refine wpAny_holding (wpAny_bind (wpAny_sequenceKey ty (by decide) ?_))
  refine wpAny_bind (wpAny_callSpecial?_slot (name := Str.ofString "__setitem__") ty slot_dict_setitem (wpAny_call_entry slot_dict_setitem ty entry_dict_setitem ?_ (args_dict_setitem _ _ _)))
  show wpAny _ _ (Builtin.Dict.notOrdered "__setitem__" ⟨[.ref d, .str x t, v1], []⟩ >>= _) _ _ s
  refine wpAny_bind (wpAny_notOrdered_dict ty ?_)
  show wpAny _ _ (dictSet d (.str x t) v1 >>= _) _ _ s
  unfold dictSet dictSetHashed
  refine wpAny_bind (wpAny_holding (wpAny_bind (wpAny_pyHash_str (wpAny_holding (wpAny_bind (OneT.none (s := { s with toks := s.toks + 1 }) q hu ho hd ?_))))))
  refine wpAny_bind (wpAny_rule (wpAny_updateDictKeys (hz := hz) (s := { s with toks := s.toks + 1 }) ho hd ?_))
  refine wpAny_pure ⟨.none, rfl, wpAny_pure (h _ _ ⟨_, ep + 1, Heap.get?_update_self _ ho (Obj.isFreed_of_dict (Obj.data_mapDictKeys hd _)), hc.mapDictKeys _, ?_⟩ (Heap.SameBut.update ..))⟩
  rw [Obj.data_mapDictKeys hd]
theorem pop_told : MeetsIn prog w (Builtin.«dict.pop» ⟨[.ref d, .str x t], []⟩) (fun A R s => ∃ es v1 t1, OneT s.heap es ∧ A.units + 1 < cLine ∧ MixAt s.heap d (es.push (enS (hashStr w x) x t1 v1)) ∧
      ∀ h' tk, MixAt h' d es → Heap.SameBut d s.heap h' → R (.ok (.ret v1)) { s with heap := h', toks := tk }) :=
  .of_wp fun A R s ⟨es, v1, t1, q, hu, m, h⟩ => by
    have ty := m.typeIs
    obtain ⟨o, ep, ho, hc, hdt⟩ := m
    have er : (es.push (enS (hashStr w x) x t1 v1)).eraseIdxIfInBounds es.size = es := by
      rcases q with rfl | ⟨ks, h0, b, v0, hk, dk, rfl⟩ <;> (apply Array.ext'; simp [Array.eraseIdxIfInBounds])
    have hz : (es.push (enS (hashStr w x) x t1 v1)).size ≤ sizeLine := by
      rw [sizeLine_eq]
      rcases q with rfl | ⟨ks, h0, b, v0, hk, dk, rfl⟩
      · exact (by decide : 1 ≤ 16777216)
      · exact (by decide : 2 ≤ 16777216)
    have ge : (es.push (enS (hashStr w x) x t1 v1))[es.size]? = some (enS (hashStr w x) x t1 v1) := by simp
    unfold Builtin.«dict.pop»
    refine wpAny_bind ?_
    unfold Builtin.Dict.keyAndDefault; refine wpAny_bind (wpAny_notOrdered_dict ty ?_)
    show wpAny _ _ (pure (d, Value.str x t, none)) _ _ s
    apply wpAny_pure
    have key : (keyPart (Value.str x t)).isSome = true := rfl
    simp only [key, if_true]
    refine wpAny_bind (wpAny_pure ?_); rw [if_neg (by simp)]
    unfold Builtin.Dict.takeOut
    refine wpAny_bind (wpAny_holding (wpAny_bind (wpAny_pyHash_str (wpAny_bind (OneT.text (s := { s with toks := s.toks + 1 }) q (by show A.units + 1 < cLine; exact hu) ho hdt ?_)))))
    refine wpAny_bind (wpAny_dictEntries (s := { s with toks := s.toks + 1 }) ho hdt ?_)
    rw [ge]
    refine wpAny_bind (wpAny_updateDictKeys (hz := hz) (hf := ?hf) (s := { s with toks := s.toks + 1 }) ho hdt (wpAny_pure ?_))
    case hf =>
      rw [er, Array.size_push]
      omega
    simp only [Option.isNone_some, if_false, Bool.false_eq_true]
    refine wpAny_bind (wpAny_letGo (wpAny_pure ⟨v1, rfl, h _ _ ⟨_, ep + 1, Heap.get?_update_self _ ho (Obj.isFreed_of_dict (Obj.data_mapDictKeys hdt _)), hc.mapDictKeys _, ?_⟩ (Heap.SameBut.update ..)⟩))
    rw [Obj.data_mapDictKeys hdt, er]
end
/-- the same dict on both sides: each entry is found where it lies -/
theorem pairs_self {nm : String} {es : Array DictEntry} {Q : Bool → Shared → Prop} (hs : (d == sysModules) = false) (m : MixAt s.heap d es)
    (hf : ∀ (i : Nat) (e : DictEntry), es[i]? = some e → ∀ (E' : Value → Shared → Prop) (Q' : Option Nat → Shared → Prop), Q' (some i) s → wpAny (model prog w) A (dictFind d e.key e.hash) Q' E' s)
    (hv : ∀ (i : Nat) (e : DictEntry), es[i]? = some e → SeqAt.EqAt A s e.val e.val true) (h : Q true s) : wpAny (model prog w) A (Builtin.Dict.samePairs nm d d) Q E s := by
  obtain ⟨o, ep, ho, hc, hd⟩ := m
  unfold Builtin.Dict.samePairs; unfold Builtin.Dict.showsAll; rw [if_neg (show ¬ (d == sysModules) = true by rw [hs]; exact Bool.false_ne_true)]
  refine wpAny_bind (wpAny_pure (wpAny_bind (wpAny_pure (wpAny_bind (wpAny_dictEntries ho hd ?_)))))
  dsimp only
  refine wpAny_bind (wpAny_dictEntries ho hd ?_); rw [if_neg (by simp)]
  refine wpAny_bind (wpAny_dictEpoch ho hd (wpAny_bind ?_))
  rw [Std.Legacy.Range.forIn_eq_forIn_range']; refine wpAny_forIn_list _ (fun rest q s' => s' = s ∧ q = (none, ()) ∧ ∀ i ∈ rest, i < es.size) _ ?_ ?_ _ _ ⟨rfl, rfl, fun i hi => by simp [Std.Legacy.Range.size] at hi; exact hi⟩
  · intro i rest q s' ⟨e1, e2, hr⟩
    subst e1
    subst e2
    have hl := hr i (by simp)
    have hi : es[i]? = some es[i] := Array.getElem?_eq_getElem hl
    refine wpAny_bind (wpAny_dictEntries ho hd ?_); rw [hi]
    refine wpAny_bind (wpAny_holding (wpAny_bind (hf i _ hi _ _ (wpAny_bind (wpAny_dictEntries ho hd ?_)))))
    rw [hi]
    refine wpAny_holding (hv i _ hi _ _ _ _ ?_)
    rw [if_neg (by decide)]
    refine wpAny_bind (wpAny_dictEpoch ho hd ?_)
    rw [if_neg (by simp)]
    exact wpAny_pure ⟨rfl, rfl, fun j hj => hr j (by simp [hj])⟩
  · intro q s' ⟨e1, e2, _⟩
    subst e1
    subst e2
    exact wpAny_pure h
/-- d == d, d != d -/
theorem eq_self {es : Array DictEntry} {Q : Value → Shared → Prop} (hs : (d == sysModules) = false) (m : MixAt s.heap d es) (hu : A.units < cLine)
    (hf : ∀ (i : Nat) (e : DictEntry), es[i]? = some e → ∀ (E' : Value → Shared → Prop) (Q' : Option Nat → Shared → Prop), Q' (some i) s → wpAny (model prog w) A.in1 (dictFind d e.key e.hash) Q' E' s)
    (hv : ∀ (i : Nat) (e : DictEntry), es[i]? = some e → SeqAt.EqAt A.in1 s e.val e.val true) (h : Q (.bool true) s) : wpAny (model prog w) A (compareOp .Eq (.ref d) (.ref d)) Q E s := by
  have ty := m.typeIs
  refine wpAny_richCompare_same_room (op := .Eq) ty ty PySem.F.slot_dict_eq (wpAny_call_entry PySem.F.slot_dict_eq ty PySem.F.entry_dict_eq ?_ (PySem.F.args_dict_eq_2 _ _)) hu
  show wpAny _ _ (Builtin.Dict.dictSlotArgs "__eq__" ⟨[.ref d, .ref d], []⟩ >>= _) _ _ s
  refine wpAny_bind ?_
  unfold Builtin.Dict.dictSlotArgs; refine wpAny_bind (wpAny_notOrdered_dict ty ?_)
  show wpAny _ _ (pure (Value.ref d, Value.ref d)) _ _ s
  apply wpAny_pure
  refine wpAny_bind (wpAny_isInstance (T := "dict") ty PySem.F.sub_dict_dict ?_); simp only [if_false, Bool.not_true, Bool.false_eq_true]
  refine wpAny_bind (wpAny_pure (wpAny_bind (wpAny_pure (wpAny_bind (pairs_self hs m hf hv (wpAny_pure ⟨_, rfl, (fun z => nomatch z), ?_⟩))))))
  exact h
theorem ne_self {es : Array DictEntry} {Q : Value → Shared → Prop} (hs : (d == sysModules) = false) (m : MixAt s.heap d es) (hu : A.units < cLine)
    (hf : ∀ (i : Nat) (e : DictEntry), es[i]? = some e → ∀ (E' : Value → Shared → Prop) (Q' : Option Nat → Shared → Prop), Q' (some i) s → wpAny (model prog w) A.in1 (dictFind d e.key e.hash) Q' E' s)
    (hv : ∀ (i : Nat) (e : DictEntry), es[i]? = some e → SeqAt.EqAt A.in1 s e.val e.val true) (h : Q (.bool false) s) : wpAny (model prog w) A (compareOp .NotEq (.ref d) (.ref d)) Q E s := by
  have ty := m.typeIs
  refine wpAny_richCompare_same_room (op := .NotEq) ty ty PySem.F.slot_dict_ne (wpAny_call_entry PySem.F.slot_dict_ne ty PySem.F.entry_dict_ne ?_ (PySem.F.args_dict_ne_2 _ _)) hu
  show wpAny _ _ (Builtin.Dict.dictSlotArgs "__ne__" ⟨[.ref d, .ref d], []⟩ >>= _) _ _ s
  refine wpAny_bind ?_
  unfold Builtin.Dict.dictSlotArgs; refine wpAny_bind (wpAny_notOrdered_dict ty ?_)
  show wpAny _ _ (pure (Value.ref d, Value.ref d)) _ _ s
  apply wpAny_pure
  refine wpAny_bind (wpAny_isInstance (T := "dict") ty PySem.F.sub_dict_dict ?_); simp only [if_false, Bool.not_true, Bool.false_eq_true]
  refine wpAny_bind (wpAny_pure (wpAny_bind (wpAny_pure (wpAny_bind (pairs_self hs m hf hv (wpAny_pure ⟨_, rfl, (fun z => nomatch z), ?_⟩))))))
  exact h
end
end MR

/-! M19: dicts with at most one tuple key: displays, walks, places, == of itself, the text 'told' put in and taken out. -/
namespace MR
open PySem PySem.Spec L2 PyProof.Rows
/-! ### a key as a nested one -/
def nkey : Key → NestedKey
  | .inl i => .num i
  | .inr x => .text x
theorem nall_of {h : Heap} : ∀ {ks : List Key} {us : List Value}, Vals (ks.map kV) us → NestedAll h (ks.map nkey) us
  | [], us, r => by
    cases r
    exact .nil
  | .inl i :: ks, us, r => by
    cases r with
    | cons a t =>
      obtain ⟨tk, rfl⟩ := a
      exact .cons (.int i tk) (nall_of t)
  | .inr x :: ks, us, r => by
    cases r with
    | cons a t =>
      obtain ⟨tk, rfl⟩ := a
      exact .cons (.text x tk) (nall_of t)
theorem flat_depth : ∀ ks : List Key, NestedKey.depthAll (ks.map nkey) = 0
  | [] => by simp [NestedKey.depthAll]
  | .inl i :: ks => by simp [NestedKey.depthAll, nkey, NestedKey.depth, flat_depth ks]
  | .inr x :: ks => by simp [NestedKey.depthAll, nkey, NestedKey.depth, flat_depth ks]
section
variable {T : Ct} {P : Program} {w : World} {H H' : Hp} {h : Heap} {a b : Addr} {vs : List (List Key × V)} {es : Array DictEntry}
theorem nested_of {k : List Key} (ok : HOk P w H h) (e : H b = some (.tup (k.map kV))) : NestedIs h (.tup (k.map nkey)) (.ref b) := by
  obtain ⟨_, its, r, o, h1, h2, n, h3⟩ := (show ObjOk P w H h b (.tup (k.map kV)) from ok b _ e)
  exact .tup h1 h2 h3 (by simpa using nall_of r)
theorem OddE.one (ok : HOk P w H h) (q : OddE T H vs es) : OneT h es := by
  rcases q with ⟨_, rfl⟩ | ⟨k, v, b, u, P', rfl, _, hb, rfl⟩
  · exact .inl rfl
  · exact .inr ⟨k.map nkey, _, b, u, nested_of ok hb, by simp [NestedKey.depth, flat_depth], rfl⟩
/-- a dict of at most one tuple key, as it lies -/
theorem odd_of (ok : HOk P w H h) (hw : T.w = w) (e : H a = some (.dT vs)) (hl : vs.length ≤ 1) : (a == sysModules) = false ∧ ∃ es, MixAt h a es ∧ OddE T H vs es := by
  obtain ⟨z, hs, xs, r, o, es, ep, ho, hx, hdt, he, his, hn⟩ := dt_of ok e
  refine ⟨hs, es, ⟨o, ep, ho, hx, hdt⟩, ?_⟩
  cases r with
  | nil => exact .inl ⟨rfl, Array.ext' he⟩
  | @cons p q ps qs r t =>
    cases t with
    | nil =>
      obtain ⟨k, v⟩ := p
      obtain ⟨k', b, u⟩ := q
      obtain ⟨e1, hb, ru⟩ := r
      have e2 : k = k' := e1
      subst e2
      exact .inr ⟨k, v, b, u, P, rfl, ru, hb, by subst hw; exact Array.ext' he⟩
    | cons r' t' => simp at hl
/-- and back -/
theorem dT_of (hw : T.w = w) (hs : (a == sysModules) = false) (m : MixAt h a es) (q : OddE T H vs es) (ne : ∀ b ys, H b = some (.tup ys) → H' b = some (.tup ys)) : ObjOk P w H' h a (.dT vs) := by
  obtain ⟨o, ep, ho, hx, hd⟩ := m
  rcases q with ⟨rfl, rfl⟩ | ⟨k, v, b, u, P', rfl, ru, hb, rfl⟩
  · exact ⟨Nat.zero_le _, hs, [], .nil, o, #[], ep, ho, hx, hd, rfl, List.nodup_nil⟩
  · refine ⟨by rw [sizeLine_eq]; exact (by decide : 1 ≤ 16777216), hs, [(k, b, u)], .cons ⟨rfl, ne b _ hb, ru⟩ .nil, o, _, ep, ho, hx, hd, ?_, by simp⟩
    subst hw
    rfl
end
/-! ### d['told'] = None -/
def rPutT (T : Ct) : TSet := fun o i v H Q => ∃ p vs, o = .ref p ∧ i = .str told ∧ v = .non ∧ H p = some (.dT vs) ∧ vs.length ≤ 1 ∧
  ∀ es t, (p == sysModules) = false → OddE T H vs es → Q (upd H p (OddO p (es.push ⟨hashStr T.w told, .str told t, .none⟩)))
theorem odd_ok {P : Program} {w : World} {H : Hp} {h : Heap} {p : Addr} {es : Array DictEntry} (m : MixAt h p es) : ObjOk P w H h p (OddO p es) := by
  obtain ⟨o, ep, ho, hx, hd⟩ := m
  exact ⟨⟨o, ep, ho, hx, hd⟩, ⟨o, ho⟩, fun h1 h2 ⟨o, ep, x, r⟩ k => ⟨o, ep, k o x, r⟩⟩
theorem set_putT {X : Cx} {T : Ct} (hw : T.w = X.w) (hu : Deepy X) : PSet X (rPutT T) := by
  intro pins s σ H o i v ov iv u Q I ro ri rv h
  obtain ⟨p, vs, rfl, rfl, rfl, hp, hl, q⟩ := h
  cases ro
  obtain ⟨t, rfl⟩ := ri
  cases rv
  obtain ⟨hs, es, m, qe⟩ := odd_of (T := T) I.hok hw hp hl
  unfold Deepy at hu
  refine set_told (qe.one I.hok) (by omega) m fun h' tk m' sb => ?_
  rw [← hw] at m'
  have there : ∃ q, h'.get? p = some q := let ⟨q, _, hq, _⟩ := m'; ⟨q, hq⟩
  exact ⟨_, d_write I (by rw [hp]; exact True.intro) sb there (odd_ok m'), q es t hs qe⟩
def putTD (o i v : D) (S : Hs) : Option Hs := match o, i, v with
  | .ref n, .str z, .non => if z = told then (match S.get n with
    | some (.dt kvs) => if kvs.length ≤ 1 then some (S.put n (.odd kvs)) else none
    | _ => none) else none
  | _, _, _ => none
def mPutT (mo mi mv : Ex) : SM := fun env S => (mv env S).toS env fun v S1 => (mo env S1).toS env fun o S2 => (mi env S2).toS env fun i S3 => match putTD o i v S3 with
  | some S4 => .nx env S4
  | none => .bad
section
variable {X : Cx} {T : Ct} {W : WX} {pos : Pos}
theorem s_putT {o i v : Expr} {mo mi mv : Ex} {tpos : Pos} (hu : Deepy X) (ho : PE X o (tE T W mo)) (hi : PE X i (tE T W mi)) (hv : PE X v (tE T W mv)) (hw : T.w = X.w := by rfl)
    (ha : ∀ v, assign (.Subscript o i tpos) X.env v = (do
      let ov ← holding [v] (eval o X.env)
      let iv ← holding [v, ov] (eval i X.env)
      standAt tpos
      holding [v, ov, iv] (setItem ov iv v)
      release [v, ov, iv] []) := by intro _; rfl) (hs : swapsWithSole [.Subscript o i tpos] v pos.line X.env = pure false := by rfl) (hw2 : swappedStores [.Subscript o i tpos] v X.env = pure none := by rfl)
    (h1 : (assignEach [.Subscript o i tpos] X.env).map (·.2) = [assign (.Subscript o i tpos) X.env] := by rfl) : PS X (.Assign [.Subscript o i tpos] v pos) (tS T W (mPutT mo mi mv)) :=
  weakS (ps_asg hv (pg_sub ho hi (set_putT (T := T) hw hu) ha) hs hw2 h1) fun E σ H ⟨φ, env, S, R, Ev, P⟩ =>
    tE_st R Ev P fun dv S1 φ1 H1 vv u1 R1 r1 E1 P1 => tE_st R1 E1 P1 fun od S2 φ2 H2 ov u2 R2 r2 E2 P2 => tE_st R2 E2 P2 fun id S3 φ3 H3 iv u3 R3 r3 E3 P3 => by
      have rv := (r1.up R1 u2).up R2 u3
      have ro := r2.up R2 u3
      unfold putTD at P3
      split at P3
      · rename_i S4 h4
        split at h4
        · rename_i n z
          split at h4
          · rename_i hz
            subst hz
            split at h4
            · rename_i kvs hx
              split at h4
              · rename_i hl
                cases h4
                cases ro with
                | @ref _ a q =>
                  cases r3
                  cases rv
                  cases R3.cell n _ a hx q with
                  | @dt _ vs _ h r =>
                    refine ⟨a, vs, rfl, rfl, rfl, h, by rw [← r.1]; exact hl, fun es t hs qe => ?_⟩
                    obtain ⟨R4, U4⟩ := R3.put (o := OddO a (es.push ⟨hashStr T.w told, .str told t, .none⟩)) (c := .odd kvs) hx q (fun o' u' _ e => by rw [h] at e; cases e) fun φ' H' u y => .odd hs y (qe.up R3 u) (r.up R3 u)
                    exact P3 _ _ _ U4 R4 (E3.up R3 U4)
              · cases h4
            · cases h4
          · cases h4
        · cases h4
      · exact False.elim P3
end
/-! ### d.pop('told') -/
def tPopT (T : Ct) (to : TE) (t : TA) : TE := fun σ H Q => to σ H fun x H1 => ∃ (p : Addr) (es : Array DictEntry) (tk : Tok), x = .ref p ∧ H1 p = some (OddO p (es.push ⟨hashStr T.w told, .str told tk, .none⟩)) ∧
  t σ H1 fun xs H2 => xs = [.str told] ∧ ∃ (vs : List (List Key × V)) (es : Array DictEntry) (t2 : Tok), H2 p = some (OddO p (es.push ⟨hashStr T.w told, .str told t2, .none⟩)) ∧ (p == sysModules) = false ∧ OddE T H2 vs es ∧ Q .non (upd H2 p (.dT vs))
def popTG (x : D) (ds : List D) (S : Hs) : Res D := match x, ds with
  | .ref n, [.str z] => if z = told then (match S.get n with
    | some (.odd kvs) => .ok .non (S.put n (.dt kvs))
    | _ => .bad) else .bad
  | _, _ => .bad
def isOdd (x : D) (S : Hs) : Bool := match x with
  | .ref n => match S.get n with
    | some (.odd _) => true
    | _ => false
  | _ => false
def mPopT (m : Ex) (ms : Exs) : Ex := fun env S => (m env S).bind fun x S1 => if isOdd x S1 then (ms env S1).bind fun xs S2 => popTG x xs S2 else .bad
section
variable {X : Cx} {T : Ct} {W : WX} {o e : Expr} {to : TE} {t : TA} {apos cpos : Pos} {m : Ex} {ms : Exs}
theorem pe_popT (hw : T.w = X.w) (hu : Deepy X) (ho : PE X o to) (ha : PA X [e] t)
    (hbase : attributeBase o "pop" X.env (eval o X.env) = eval o X.env)
    (hfew : ((backTo cpos (starEach [e] X.env)).all (fun x => !x.1) && (backToKw cpos (keywordEach [] X.env)).all (fun x => x.1.isSome)
      && decide ([e].length + ([] : List Keyword).length + (if ([] : List Keyword).isEmpty then 0 else 1) < 30)) = true)
    (hline : (apos.endLine == cpos.line) = true) (hs : starEach [e] X.env = (false, eval e X.env) :: starEach [] X.env) (hpl : (backTo cpos (starEach [] X.env)).any (·.1) = false) :
    PE X (.Call (.Attribute o "pop" apos) [e] [] cpos) (tPopT T to t) := by
  refine ⟨fun pins s σ H Q I h => ?_⟩
  refine wpAny_Call_method_late hbase hfew hline rfl (thn (ho.run pins s σ H _ I h) fun v s1 ⟨x, H1, I1, r1, p, es, tk, ex, hp, q1⟩ => ?_)
  subst ex
  cases r1
  obtain ⟨⟨od, ep, hod, hx, hd⟩, _, _⟩ := (show ObjOk X.prog X.w H1 s1.heap p (OddO p _) from I1.hok p _ hp)
  refine ⟨"dict", "dict.pop", PySem.F.plainAttrs_dict, PySem.F.slot_dict_pop, PySem.F.type_dict_pop, ⟨od, hod, hx.1⟩, fun a e => ?_, ?_⟩
  · cases e
    exact ⟨od, hod, hx.2.1⟩
  · have run := ha.run cpos pins s1 σ H1 _ I1 q1
    rw [hs] at run ⊢
    refine Calls.callWith_builtin (by show (false || (backTo cpos (starEach [] X.env)).any (·.1)) = false; rw [hpl] <;> rfl) (Calls.evalArgs_plain ?_)
    refine thn run fun us s2 ⟨xs, H2, I2, r2, ex, vs, es2, t2, hp2, hsys, qe, q2⟩ => ?_
    subst ex
    obtain ⟨u1, rfl, ru⟩ := vals1 r2
    obtain ⟨t3, rfl⟩ := ru
    have mx : MixAt s2.heap p _ := (show ObjOk X.prog X.w H2 s2.heap p (OddO p _) from I2.hok p _ hp2).1
    unfold Deepy at hu
    rw [hw] at mx
    refine call_meetsIn PySem.F.slot_dict_pop mx.typeIs PySem.F.entry_dict_pop (PySem.F.args_dict_pop_2 _ _) pop_told ⟨es2, .none, t2, qe.one I2.hok, by first | omega | (show X.A.units + 1 + 1 < cLine; omega), mx, fun h' tk m' sb => ?_⟩
    have there : ∃ q, h'.get? p = some q := let ⟨q, _, hq, _⟩ := m'; ⟨q, hq⟩
    exact ⟨.non, _, d_write I2 (by rw [hp2]; exact True.intro) sb there (dT_of hw hsys m' qe fun b ys hb => by rw [upd_ne (fun e => by rw [e, hp2] at hb; cases hb)]; exact hb), rfl, q2⟩
theorem r_popT (hu : Deepy X) (ho : PE X o (tE T W m)) (ha : PA X [e] (tA T W ms)) (hw : T.w = X.w := by rfl)
    (hbase : attributeBase o "pop" X.env (eval o X.env) = eval o X.env := by rfl)
    (hfew : ((backTo cpos (starEach [e] X.env)).all (fun x => !x.1) && (backToKw cpos (keywordEach [] X.env)).all (fun x => x.1.isSome)
      && decide ([e].length + ([] : List Keyword).length + (if ([] : List Keyword).isEmpty then 0 else 1) < 30)) = true := by rfl)
    (hline : (apos.endLine == cpos.line) = true := by rfl) (hs : starEach [e] X.env = (false, eval e X.env) :: starEach [] X.env := by rfl) (hpl : (backTo cpos (starEach [] X.env)).any (·.1) = false := by rfl) :
    PE X (.Call (.Attribute o "pop" apos) [e] [] cpos) (tE T W (mPopT m ms)) :=
  weakE (pe_popT (T := T) hw hu ho ha hbase hfew hline hs hpl) fun σ H Q ⟨φ, env, S, R, E, P⟩ => tE_bind R E P fun x S1 φ1 H1 v u1 R1 r1 E1 P1 => by
    split at P1
    · rename_i hi
      unfold isOdd at hi
      split at hi
      · rename_i n
        split at hi
        · rename_i kvs hx
          cases r1 with
          | @ref _ a q =>
            cases R1.cell n _ a hx q with
            | odd hs h qe r =>
              refine ⟨a, _, _, rfl, h, tA_bind R1 E1 P1 fun ds S2 φ2 H2 ws u2 R2 r2 E2 P2 => ?_⟩
              unfold popTG at P2
              split at P2
              · rename_i n' z en
                cases en
                split at P2
                · rename_i hz
                  subst hz
                  split at P2
                  · rename_i kvs2 hx2
                    obtain ⟨u, rfl, ru⟩ := r2.one
                    cases ru
                    have q2 := u2.at_ q
                    cases R2.cell n _ a hx2 q2 with
                    | odd hs2 h2 qe2 r2' =>
                      obtain ⟨R3, U3⟩ := R2.put (o := .dT _) (c := .dt kvs2) hx2 q2 (fun o' u' f e => by rw [h2] at e; cases e) fun φ' H' u y => .dt y (r2'.up R2 u)
                      exact ⟨rfl, _, _, _, h2, hs2, qe2, P2 _ _ _ ((u1.trans u2).trans U3) R3 .non⟩
                  · exact False.elim P2
                · exact False.elim P2
              · exact False.elim P2
        · cases hi
      · cases hi
    · exact False.elim P1
end
end MR

/-! M20: dicts with tuple keys: walks under a lock, places, keys as a list, made of pairs, displays, == of itself. -/
namespace MR
open PySem PySem.Spec L2 PyProof.Rows
/-! ### given back -/
section
variable {T : Ct} {φ : List Addr} {S : Hs} {H : Hp} {p : Addr} {od : Obj} {ws : List (List Key × V)}
theorem RV.unl (hp : H p = some (.frz od (.dT ws))) {d : D} {v : V} (r : RV T φ H d v) : RV T φ (upd H p (.dT ws)) d v := by
  have ne : ∀ {a : Addr} {o : HO}, H a = some o → (∀ od ws, o ≠ .frz od (.dT ws)) → upd H p (.dT ws) a = some o := fun {a o} h n => by
    rw [upd_ne (fun e => by rw [e, hp] at h; exact n _ _ (Option.some.inj h).symm)]
    exact h
  induction r with
  | non => exact .non
  | bl b => exact .bl b
  | int i => exact .int i
  | str s => exact .str s
  | tup h l r ih =>
    refine .tup ?_ l ih
    rcases h with h | h
    · exact .inl (ne h fun _ _ e => nomatch e)
    · exact .inr h
  | ref h => exact .ref h
  | ty n => exact .ty n
  | cls c => exact .cls c
  | fz h l r ih =>
    refine .fz ?_ l ih
    rcases h with ⟨o, h⟩ | h
    · exact .inl ⟨o, ne h fun _ _ e => by cases e⟩
    · exact .inr h
  | er h hd r ih => exact .er (ne h fun _ _ e => by unfold ExcT at e; cases e) (ne hd fun _ _ e => nomatch e) ih
  | key h => exact .key (ne h fun _ _ e => nomatch e)
theorem RVs.unl (hp : H p = some (.frz od (.dT ws))) {ds : List D} {vs : List V} (r : RVs T φ H ds vs) : RVs T φ (upd H p (.dT ws)) ds vs := ⟨r.1, fun i d v a b => (r.2 i d v a b).unl hp⟩
theorem RKs.unl (hp : H p = some (.frz od (.dT ws))) {ds : List (Key × D)} {vs : List (Key × V)} (r : RKs T φ H ds vs) : RKs T φ (upd H p (.dT ws)) ds vs := ⟨r.1, fun i d v a b => ⟨(r.2 i d v a b).1, (r.2 i d v a b).2.unl hp⟩⟩
theorem RTs.unl (hp : H p = some (.frz od (.dT ws))) {ds : List (List Key × D)} {vs : List (List Key × V)} (r : RTs T φ H ds vs) : RTs T φ (upd H p (.dT ws)) ds vs := ⟨r.1, fun i d v a b => ⟨(r.2 i d v a b).1, (r.2 i d v a b).2.unl hp⟩⟩
theorem OddE.unl (hp : H p = some (.frz od (.dT ws))) {vs : List (List Key × V)} {es : Array DictEntry} (q : OddE T H vs es) : OddE T (upd H p (.dT ws)) vs es := by
  rcases q with q | ⟨k, v, b, u, P, h1, h2, h3, h4⟩
  · exact .inl q
  · exact .inr ⟨k, v, b, u, P, h1, h2, by rw [upd_ne (fun e => by rw [e, hp] at h3; cases h3)]; exact h3, h4⟩
theorem RS.unl (R : RS T φ S H) {n : Nat} {kvs : List (List Key × D)} (h0 : S.get n = some (.dtf kvs)) (hn : φ[n]? = some p) (hp : H p = some (.frz od (.dT ws))) : RS T φ (S.put n (.dt kvs)) (upd H p (.dT ws)) := by
  refine ⟨R.wf.put n _, R.len, R.nd, fun m c a h1 h2 => ?_⟩
  by_cases hm : m = n
  · subst hm
    rw [Hs.get_put h0] at h1
    cases h1
    rw [hn] at h2
    cases h2
    cases R.cell m _ p h0 hn with
    | dtf h r =>
      rw [hp] at h
      cases h
      exact .dt upd_same (r.unl hp)
  · rw [Hs.get_put_ne (Hs.get_lt h0) hm] at h1
    have na : a ≠ p := fun e => by
      subst e
      obtain ⟨l1, e1⟩ := List.getElem?_eq_some_iff.mp h2
      obtain ⟨l2, e2⟩ := List.getElem?_eq_some_iff.mp hn
      exact hm ((List.getElem_inj R.nd).mp (e1.trans e2.symm))
    cases R.cell m c a h1 h2 with
    | lst h r => exact .lst (by rw [upd_ne na]; exact h) (r.unl hp)
    | fro h r => exact .fro (by rw [upd_ne na]; exact h) (r.unl hp)
    | dic h r => exact .dic (by rw [upd_ne na]; exact h) (r.unl hp)
    | dt h r => exact .dt (by rw [upd_ne na]; exact h) (r.unl hp)
    | dtf h r => exact .dtf (by rw [upd_ne na]; exact h) (r.unl hp)
    | odd hs h q r => exact .odd hs (by rw [upd_ne na]; exact h) (q.unl hp) (r.unl hp)
end
/-- the dict at i is locked while m runs -/
def mLock (i : Nat) (m : Ex) : Ex := fun env S => match env[i]? with
  | some (some (.ref n)) => (match S.get n with
    | some (.dt kvs) => (match m env (S.put n (.dtf kvs)) with
      | .ok d S1 => (match S1.get n with
        | some (.dtf kvs1) => .ok d (S1.put n (.dt kvs1))
        | _ => .bad)
      | _ => .bad)
    | _ => .bad)
  | _ => .bad
theorem r_lock {X : Cx} {T : Ct} {W : WX} {e : Expr} {m : Ex} (i : Nat) (he : PE X e (tE T W m)) : PE X e (tE T W (mLock i m)) :=
  weakE (pe_lock he) fun σ H Q ⟨φ, env, S, R, E, P⟩ => by
    unfold mLock at P
    split at P
    · rename_i n hn
      obtain ⟨v, hv, rx⟩ := E.2 i _ hn
      cases rx with
      | rv r =>
        cases r with
        | @ref _ p hp =>
          split at P
          · rename_i kvs hk
            split at P
            · rename_i d S1 hm
              split at P
              · rename_i kvs1 hk1
                cases R.cell n _ p hk hp with
                | @dt _ vs _ h r =>
                  refine ⟨p, .dT vs, h, trivial, fun od => ?_⟩
                  obtain ⟨R1, U1⟩ := R.put (o := .frz od (.dT vs)) (c := .dtf kvs) hk hp (fun o' u' _ e => by rw [h] at e; cases e) fun φ' H' u z => .dtf z (r.up R u)
                  refine ⟨φ, env, _, R1, E.up R U1, ?_⟩
                  rw [hm]
                  intro φ2 H2 w u2 R2 r2
                  have hp2 := u2.at_ hp
                  have hf : H2 p = some (.frz od (.dT vs)) := u2.frz _ _ _ rfl upd_same
                  have U : Up φ H φ2 (upd H2 p (.dT vs)) := by
                    obtain ⟨ext, e1, e2⟩ := u2.pre
                    refine ⟨⟨ext, e1, fun a ha => ?_⟩, fun a o ha hn => ?_, fun a o ha => ?_, fun a o u f ha => ?_⟩
                    · have q := e2 a ha
                      by_cases e : a = p
                      · rw [e, upd_same] at q
                        cases q
                      · rw [upd_ne e] at q
                        exact q
                    · have ne : a ≠ p := fun e => hn (e ▸ List.mem_of_getElem? hp)
                      rw [upd_ne ne]
                      exact u2.fr a o (by rw [upd_ne ne]; exact ha) hn
                    · by_cases e : a = p
                      · exact ⟨_, by rw [e]; exact upd_same⟩
                      · obtain ⟨o', h'⟩ := u2.dom a o (by rw [upd_ne e]; exact ha)
                        exact ⟨o', by rw [upd_ne e]; exact h'⟩
                    · have ne : a ≠ p := fun e => by rw [e, h] at ha; cases ha
                      rw [upd_ne ne]
                      exact u2.frz a o u f (by rw [upd_ne ne]; exact ha)
                  exact ⟨hf, P φ2 _ w U (R2.unl hk1 hp2 hf) (r2.unl hf)⟩
              · exact False.elim P
            · exact False.elim P
          · exact False.elim P
    · exact False.elim P
/-! ### the keys, one by one -/
def mKeysT (m : Ex) : ExI := fun env S => (m env S).bind fun d S1 => match d with
  | .ref n => match S1.get n with
    | some (.dtf kvs) => .ok (.keysT (kvs.map (·.1))) S1
    | _ => .bad
  | _ => .bad
theorem RTs.keys {T : Ct} {φ : List Addr} {H : Hp} {ds : List (List Key × D)} {vs : List (List Key × V)} (r : RTs T φ H ds vs) : vs.map (·.1) = ds.map (·.1) := by
  apply List.ext_getElem?
  intro i
  rw [List.getElem?_map, List.getElem?_map]
  cases e1 : ds[i]? with
  | none =>
    have e2 : vs[i]? = none := List.getElem?_eq_none (r.1 ▸ List.getElem?_eq_none_iff.mp e1)
    rw [e2] <;> rfl
  | some p =>
    have hl : i < vs.length := r.1 ▸ (List.getElem?_eq_some_iff.mp e1).1
    have e2 := List.getElem?_eq_getElem hl
    rw [e2]
    exact congrArg some (r.2 i p _ e1 e2).1.symm
section
variable {X : Cx} {T : Ct} {W : WX} {tg e a b o i : Expr} {m ma mb : Ex} {ms : Exs} {p pos : Pos}
theorem i_keysT (h : PE X e (tE T W m)) : PI X tg e (tI T W (mKeysT m)) := weakI (pi_keys h) fun σ H Q ⟨φ, env, S, R, E, P⟩ =>
  tE_bind R E P fun d S1 φ1 H1 v u R1 r1 E1 P1 => by
    cases r1 with
    | @ref n c q =>
      simp only at P1
      split at P1
      · rename_i kvs hx
        cases R1.cell n _ c hx q with
        | @dtf _ vs _ o hk r => exact ⟨c, o, rfl, .inr ⟨vs, hk, P1 φ1 H1 _ u R1 (.keysT hk r.keys)⟩⟩
      · exact False.elim P1
    | _ => exact False.elim P1
/-! ### d[k], list(d) -/
def kvT (S : Hs) (n : Nat) : Option (List (List Key × D)) := match S.get n with
  | some (.dt kvs) => some kvs
  | some (.dtf kvs) => some kvs
  | _ => none
theorem RS.kvT {φ : List Addr} {S : Hs} {H : Hp} (R : RS T φ S H) {n : Nat} {c : Addr} {kvs : List (List Key × D)} (h : φ[n]? = some c) (e : MR.kvT S n = some kvs) : ∃ vs, Rd H c (.dT vs) ∧ RTs T φ H kvs vs := by
  unfold MR.kvT at e
  split at e
  · rename_i ks hx
    cases e
    cases R.cell n _ c hx h with
    | dt q r => exact ⟨_, .inl q, r⟩
  · rename_i ks hx
    cases e
    cases R.cell n _ c hx h with
    | dtf q r => exact ⟨_, .inr ⟨_, q⟩, r⟩
  · cases e
def valT (kvs : List (List Key × D)) (k : List Key) : Option D := (kvs.find? fun kv => decide (kv.1 = k)).map (·.2)
theorem valT_of {φ : List Addr} {H : Hp} {k : List Key} {d : D} : ∀ {kvs : List (List Key × D)} {vs : List (List Key × V)}, RTs T φ H kvs vs → valT kvs k = some d → ∃ v, valV vs k = some v ∧ RV T φ H d v
  | [], vs, r, h => by cases h
  | p :: kvs, [], r, h => nomatch r.1
  | p :: kvs, q :: vs, r, h => by
    obtain ⟨e, r0⟩ := r.2 0 p q rfl rfl
    unfold valT at h
    rw [List.find?_cons] at h
    by_cases hk : p.1 = k
    · rw [decide_eq_true hk] at h
      cases h
      exact ⟨q.2, by unfold valV; simp [List.find?_cons, e.symm.trans hk], r0⟩
    · rw [decide_eq_false hk] at h
      obtain ⟨v, h1, h2⟩ := valT_of (kvs := kvs) (vs := vs) ⟨Nat.succ.inj r.1, fun i x y a b => r.2 (i + 1) x y a b⟩ h
      have nk : ¬ q.1 = k := fun z => hk (e.trans z)
      exact ⟨v, by unfold valV at h1 ⊢; simpa [List.find?_cons, nk] using h1, h2⟩
def dgetTD (x y : D) (S : Hs) : Res D := match x, y with
  | .ref n, .key k => match kvT S n with
    | some kvs => match valT kvs k with
      | some d => .ok d S
      | none => .bad
    | none => .bad
  | _, _ => .bad
theorem r_dgetT (hu : Deepy X) (ha : PE X a (tE T W ma)) (hb : PE X b (tE T W mb)) (hs : NoSl b := by exact fun _ _ => rfl) : PE X (.Subscript a b pos) (tE T W (mOp2 dgetTD ma mb)) :=
  weakE (pe_dget (by unfold Deepy at hu; omega) ha hb hs) fun σ H Q ⟨φ, env, S, R, E, P⟩ => tE_bind R E P fun x S1 φ1 H1 v u1 R1 r1 E1 P1 => tE_bind R1 E1 P1 fun y S2 φ2 H2 w u2 R2 r2 E2 P2 => by
    unfold dgetTD at P2
    split at P2
    · rename_i n k
      split at P2
      · rename_i kvs hx
        split at P2
        · rename_i d hd
          cases r1.up R1 u2 with
          | @ref _ c q =>
            cases r2 with
            | @key _ b hb =>
              obtain ⟨vs, hr, rt⟩ := R2.kvT q hx
              obtain ⟨vv, hv, rv⟩ := valT_of rt hd
              exact ⟨c, vv, rfl, .inr ⟨vs, k, b, hr, rfl, hb, hv.symm⟩, P2 φ2 H2 _ (u1.trans u2) R2 rv⟩
        · exact False.elim P2
      · exact False.elim P2
    · exact False.elim P2
def listTF (ds : List D) (S : Hs) : Res D := match ds with
  | [.ref n] => match kvT S n with
    | some kvs => .ok (.ref S.n) (S.new (.lst (kvs.map fun kv => .tup (kv.1.map kD))))
    | none => .bad
  | _ => .bad
theorem listT_no : NoErL listTF := fun ds S c d S' h => by
  unfold listTF at h
  repeat' (first | cases h | split at h)
theorem isKeys_rv {φ : List Addr} {H : Hp} : ∀ {kvs : List (List Key × D)} {vs : List (List Key × V)} {bs : List Addr}, vs.map (·.1) = kvs.map (·.1) → IsKeys H vs bs → RVs T φ H (kvs.map fun kv => D.tup (kv.1.map kD)) (bs.map V.ref)
  | [], [], _, _, q => by
    cases q
    exact .nil
  | [], _ :: _, _, e, _ => nomatch e
  | _ :: _, [], _, e, _ => nomatch e
  | p :: kvs, q :: vs, _, e, hq => by
    injection e with e1 e2
    cases hq with
    | @cons _ b _ bs h t =>
      have r := kDs_rv (T := T) (φ := φ) (H := H) p.1
      have e3 : q.1 = p.1 := e1
      exact .cons (.tup (.inl (by rw [← e3]; exact h)) r.1 r.2) (isKeys_rv e2 t)
theorem listT_M : CallM T (fun xs H Q => ∃ d kvs, xs = [V.ref d] ∧ Rd H d (.dT kvs) ∧ ∀ p bs, H p = none → IsKeys H kvs bs → Q (.ref p) (upd H p (.lst (bs.map V.ref)))) listTF := by
  intro φ S H ds vs Q R r P
  unfold listTF at P
  split at P
  · rename_i n
    obtain ⟨v, rfl, r1⟩ := r.one
    cases r1 with
    | @ref _ c q =>
      split at P
      · rename_i kvs hx
        obtain ⟨ws, hk, rk⟩ := R.kvT q hx
        exact ⟨c, ws, rfl, hk, fun p bs hp hb => okE.newLst R (isKeys_rv rk.keys hb) P p hp⟩
      · exact False.elim P
  · exact False.elim P
theorem r_listT (hc : X.calm = true) (hm : X.mg "list" = none) (ha : PA X [e] (tA T W ms)) (hg : Gl X "list" := by rfl) (he : starEach [e] X.env = (false, eval e X.env) :: starEach [] X.env := by rfl) (hpl : (backTo pos (starEach [] X.env)).any (·.1) = false := by rfl) : PE X (.Call (.Name "list" p) [e] [] pos) (tE T W (mCall listTF ms)) :=
  r_callTy (call_list_dT hc) listT_M listT_no hg hm (by decide +kernel) ha (by decide) (by decide) he hpl
end
/-! ### dict([pair]) -/
def PairsT (K : PySem.W.Frag) (H : Hp) (us : List V) (kvs : List (List Key × V)) : Prop := (us = [] ∧ kvs = []) ∨ ∃ p b k v, us = [.ref p] ∧ SqT K H p [.ref b, v] ∧ H b = some (.tup (k.map kV)) ∧ kvs = [(k, v)]
def rDictT (K : PySem.W.Frag) : List V → Hp → VK → Prop := fun xs H Q => ∃ a us kvs, xs = [.ref a] ∧ H a = some (.lst us) ∧ PairsT K H us kvs ∧ ∀ q, H q = none → Q (.ref q) (upd H q (.dT kvs))
theorem call_dictT {X : Cx} (hc : X.calm = true) (hu : Deepy X) : CallR X (.type "dict") (rDictT X.K) := by
  intro ps0 s σ H xs us Q I rel ⟨a, ws, kvs, e1, ha, hk, q⟩
  subst e1
  obtain ⟨u, e2, r1⟩ := vals1 rel
  subst e2
  cases r1
  unfold Deepy at hu
  have big := I.big
  have sys : (s.heap.objs.size == sysModules) = false := beq_eq_false_iff_ne.mpr (Nat.ne_of_gt big)
  obtain ⟨_, its, n, rv, hg⟩ := (show ObjOk X.prog X.w H s.heap a (.lst ws) from I.hok a _ ha)
  rcases hk with ⟨rfl, rfl⟩ | ⟨p, b, k, v, rfl, hp, hb, rfl⟩
  · cases rv
    refine call_dict_pairsH (knd := tupleKind (mixKind X.prog X.w)) (ps := []) (PairArg.list a #[] (fun _ => 0) []) (I.ok.hd hc) (by show X.A.units + 1 + 1 < cLine; omega) ⟨⟨_, n, hg, rfl, rfl, rfl⟩, rfl, fun j k v e => by simp at e⟩ ⟨rfl, fun i key v e => by simp [PairRel] at e⟩ (fun h' _ x hx => nomatch hx) (Nat.zero_le _) fun h' tk dd keep => ?_
    obtain ⟨o, es, ep, ho, hx, hdt, he, his, hn⟩ := dd
    exact ⟨.ref s.heap.objs.size, _, I.laid (t' := tk) (o := .dT []) (fun b o e => keep b o (by simp) e) (Nat.le_refl _) ⟨Nat.zero_le _, sys, _, .nil, o, es, ep, ho, hx, hdt, he, hn⟩, rfl, q _ (I.hok.fresh (Nat.le_refl _))⟩
  · obtain ⟨u, rfl, ru⟩ := Vals.one rv
    cases ru
    obtain ⟨it2, rv2, at2, _⟩ := I.tuple hp
    cases rv2 with
    | cons x1 y1 =>
      cases x1
      obtain ⟨u2, rfl, ru2⟩ := Vals.one y1
      have hkey := key_of I.hok hb
      refine call_dict_pairsH (knd := tupleKind (mixKind X.prog X.w)) (ps := [(k, b, u2)]) (PairArg.list a #[.ref p] (fun _ => p) [(.ref b, u2)]) (I.ok.hd hc) (by show X.A.units + 1 + 1 < cLine; omega)
        ⟨⟨_, n, hg, rfl, rfl, rfl⟩, rfl, fun j k v e => ?_⟩ ⟨rfl, fun i key v e => ?_⟩ (fun h' kp x hx => ?_) (by rw [sizeLine_eq]; exact (by decide : 1 ≤ 16777216)) fun h' tk dd keep => ?_
      · match j, e with
        | 0, e =>
          cases e
          exact ⟨rfl, .inl at2⟩
        | j + 1, e => simp at e
      · match i, e with
        | 0, e =>
          cases e
          exact ⟨k, b, rfl, rfl⟩
        | i + 1, e => simp [PairRel] at e
      · cases List.mem_singleton.mp hx
        exact tupleKind_stays.stays (fun c o vs m e _ => kp c o (Nat.ne_of_lt (Heap.lt_size e)) (by simp) e) hkey
      · obtain ⟨o, es, ep, ho, hx, hdt, he, his, hn⟩ := dd
        have nb : b ≠ s.heap.objs.size := fun e => by rw [e, I.hok.fresh (Nat.le_refl _)] at hb; cases hb
        exact ⟨.ref s.heap.objs.size, _, I.laid (t' := tk) (o := .dT [(k, v)]) (fun b o e => keep b o (by simp) e) (Nat.le_refl _) ⟨by rw [sizeLine_eq]; exact (by decide : 1 ≤ 16777216), sys, _, .cons ⟨rfl, by rw [upd_ne nb]; exact hb, ru2⟩ .nil, o, es, ep, ho, hx, hdt, he, hn⟩, rfl, q _ (I.hok.fresh (Nat.le_refl _))⟩
section
variable {T : Ct} {φ : List Addr} {H : Hp} {S : Hs} {Q : VK}
theorem okE.newDT {ds : List (List Key × D)} {vs : List (List Key × V)} (R : RS T φ S H) (r : RTs T φ H ds vs) (P : okE T φ H Q (.ref S.n) (S.new (.dt ds))) : ∀ p, H p = none → Q (.ref p) (upd H p (.dT vs)) := fun p hp => by
  obtain ⟨R', U⟩ := R.new (o := .dT vs) (c := .dt ds) hp fun φ' H' u h => .dt h (r.up R u)
  exact P _ _ _ U R' (.ref (by rw [List.getElem?_append_right (by rw [R.len]; exact Nat.le_refl _), R.len]; simp))
theorem RTs.nil : RTs T φ H [] [] := ⟨rfl, fun i d v a _ => by simp at a⟩
theorem RTs.one {k : List Key} {d : D} {v : V} (r : RV T φ H d v) : RTs T φ H [(k, d)] [(k, v)] := ⟨rfl, fun i x y a b => by
  cases i with
  | zero =>
    simp at a b
    subst a b
    exact ⟨rfl, r⟩
  | succ i => simp at a⟩
end
def dictTF (ds : List D) (S : Hs) : Res D := match ds with
  | [.ref n] => match S.get n with
    | some (.lst []) => .ok (.ref S.n) (S.new (.dt []))
    | some (.lst [.tup [.key k, d]]) => .ok (.ref S.n) (S.new (.dt [(k, d)]))
    | _ => .bad
  | _ => .bad
theorem dictT_no : NoErL dictTF := fun ds S c d S' h => by
  unfold dictTF at h
  repeat' (first | cases h | split at h)
theorem dictT_M {T : Ct} : CallM T (rDictT T.K) dictTF := by
  intro φ S H ds vs Q R r P
  unfold dictTF at P
  split at P
  · rename_i n
    obtain ⟨v, rfl, r1⟩ := r.one
    cases r1 with
    | @ref _ a q =>
      split at P
      · rename_i hx
        obtain ⟨us, h, r'⟩ := R.lst q hx
        have e := r'.inv_nil
        subst e
        exact ⟨a, [], [], rfl, h, .inl ⟨rfl, rfl⟩, okE.newDT R .nil P⟩
      · rename_i k d hx
        obtain ⟨us, h, r'⟩ := R.lst q hx
        obtain ⟨u, rfl, ru⟩ := r'.one
        cases ru with
        | @tup _ p ws ht l rr =>
          obtain ⟨x, y, rfl, rx, ry⟩ := (show RVs T φ H _ _ from ⟨l, rr⟩).two
          cases rx with
          | @key _ b hb => exact ⟨a, _, _, rfl, h, .inr ⟨p, b, k, y, rfl, ht.sq, hb, rfl⟩, okE.newDT R (.one ry) P⟩
      · exact False.elim P
  · exact False.elim P
section
variable {X : Cx} {T : Ct} {W : WX} {pos p : Pos} {e a b : Expr} {ma mb : Ex} {ms : Exs}
theorem r_dictT (hc : X.calm = true) (hu : Deepy X) (hm : X.mg "dict" = none) (ha : PA X [e] (tA T W ms)) (hK : T.K = X.K := by rfl) (hg : Gl X "dict" := by rfl) (he : starEach [e] X.env = (false, eval e X.env) :: starEach [] X.env := by rfl) (hpl : (backTo pos (starEach [] X.env)).any (·.1) = false := by rfl) : PE X (.Call (.Name "dict" p) [e] [] pos) (tE T W (mCall dictTF ms)) :=
  r_callTy (r := rDictT T.K) (by rw [hK]; exact call_dictT hc hu) dictT_M dictT_no hg hm (by decide +kernel) ha (by decide) (by decide) he hpl
/-! ### displays -/
def mDT0 : Ex := fun _ S => .ok (.ref S.n) (S.new (.dt []))
theorem r_dictT0 : PE X (.Dict [] [] pos) (tE T W mDT0) := weakE pe_dnewT fun σ H Q ⟨φ, env, S, R, E, P⟩ => okE.newDT R .nil P
def tDispT (te tv : TE) : TE := fun σ H Q => ∀ p, H p = none → te σ (upd H p (.dT [])) fun x H1 => tv σ H1 fun y H2 => H2 p = some (.dT []) ∧ ∃ b k, x = .ref b ∧ H2 b = some (.tup (k.map kV)) ∧ Q (.ref p) (upd H2 p (.dT [(k, y)]))
theorem pe_dispT {ke ve : Expr} {te tv : TE} (hu : Deepy X) (hk : PE X ke te) (hv : PE X ve tv) : PE X (.Dict [some ke] [ve] pos) (tDispT te tv) := by
  refine ⟨fun pins s σ H Q I q => ?_⟩
  have fresh := I.hok.fresh (Nat.le_refl s.heap.objs.size)
  have I1 := I.laid (t' := s.toks) (a := s.heap.objs.size) (o := .dT []) (h' := s.heap.push { cls := .type "dict", data := .dict #[] }) (fun _ _ z => Heap.get?_push_of_some _ z) (Nat.le_refl _) (dt_empty s.heap I.big)
  have room : (tupleKind (mixKind X.prog X.w)).room X.A := by
    show X.A.units < cLine
    unfold Deepy at hu
    omega
  rw [arm_eval_Dict, zip_pairTrees [some ke] [ve] X.env pos rfl rfl, dictDisplay_pairs (pairTrees [some ke] [ve] X.env pos) (by intro z; have := congrArg List.length z; rw [pairTrees_length _ _ _ _ rfl rfl] at this; cases this) (by rw [pairTrees_length _ _ _ _ rfl rfl]; exact (by decide : 1 < 17))]
  refine wpAny_bind (wpAny_standAt (wpAny_bind (wpAny_subDictH (knd := tupleKind (mixKind X.prog X.w)) room (by rw [pairTrees_length _ _ _ _ rfl rfl]; exact (by decide : 1 ≤ 15)) ?_)))
  refine pairTrees_cons_walk (thn (hk.run pins _ σ _ _ I1 (q _ fresh)) fun u s1 ⟨x, H1, I2, rx, q1⟩ => thn (hv.run pins s1 σ H1 _ I2 q1) fun u2 s2 ⟨y, H2, I3, ry, hp, b, k, ex, hb, q2⟩ => pairTrees_nil_walk ?_)
  subst ex
  cases rx
  obtain ⟨z, hs, xs, r, dd⟩ := dt_of I3.hok hp
  cases r
  refine ⟨[(k, b, u2)], ⟨rfl, rfl, key_of I3.hok hb, trivial⟩, dd, fun h' tk d2 sb => wpAny_pure ⟨.ref s.heap.objs.size, _, ?_, rfl, q2⟩⟩
  obtain ⟨o, es, ep, ho, hx, hdt, he, his, hn⟩ := d2
  have nb : b ≠ s.heap.objs.size := fun e => by rw [e, hp] at hb; cases hb
  exact d_write I3 (by rw [hp]; exact True.intro) sb ⟨o, ho⟩ ⟨by rw [sizeLine_eq]; exact (by decide : 1 ≤ 16777216), hs, _, .cons ⟨rfl, by rw [upd_ne nb]; exact hb, ry⟩ .nil, o, es, ep, ho, hx, hdt, he, hn⟩
def mDT1 (z : Str) : Ex := fun _ S => .ok (.ref S.n) (S.new (.dt [([.inr z], .non)]))
theorem r_dictT1 {ke ve : Expr} {tp : Pos} {x1} {z : Str} (hu : Deepy X) (hk : PE X ke (tC (.str z))) (hv : PE X ve (tC .non)) (hs : starEach [ke] X.env = (false, eval ke X.env) :: starEach [] X.env := by rfl) : PE X (.Dict [some (.Tuple [ke] x1 tp)] [ve] pos) (tE T W (mDT1 z)) :=
  weakE (pe_dispT hu (pe_tup (pa_cons hk pa_nil hs)) hv) fun σ H Q ⟨φ, env, S, R, E, P⟩ => fun p hp => by
    refine ⟨by rw [sizeLine_eq]; exact (by decide : 1 ≤ 16777216), fun b hb => ?_⟩
    have nb : b ≠ p := fun e => by rw [e, upd_same] at hb; cases hb
    rw [upd_ne nb] at hb
    refine ⟨by rw [upd_ne nb.symm]; exact upd_same, b, [.inr z], rfl, upd_same, ?_⟩
    obtain ⟨R1, U1⟩ := R.laid (o := .tup [.str z]) hb
    have hp1 : upd H b (.tup [.str z]) p = none := by rw [upd_ne nb.symm]; exact hp
    have q := okE.newDT (ds := [([.inr z], .non)]) R1 (.one .non) (okE.up U1 P) p hp1
    have e : upd (upd (upd H p (.dT [])) b (.tup [.str z])) p (.dT [([.inr z], .non)]) = upd (upd H b (.tup [.str z])) p (.dT [([.inr z], .non)]) := by
      funext c
      by_cases h1 : c = p
      · rw [h1, upd_same, upd_same]
      · by_cases h2 : c = b
        · rw [upd_ne h1, upd_ne h1, h2, upd_same, upd_same]
        · rw [upd_ne h1, upd_ne h1, upd_ne h2, upd_ne h2, upd_ne h1]
    rw [e]
    exact q
end
/-! ### == of a dict with itself -/
def SelfH (T : Ct) (H : Hp) (a : Addr) : Prop := (∃ vs, H a = some (.dT vs)) ∨ ∃ (es : Array DictEntry) (vs : List (List Key × V)) (t : Tok), (a == sysModules) = false ∧ H a = some (OddO a (es.push ⟨hashStr T.w told, .str told t, .none⟩)) ∧ OddE T H vs es
theorem self_of {X : Cx} {T : Ct} {pins : List (Addr × Obj)} {σ : L2.St} {H : Hp} {s : Shared} {a : Addr} (hu : Deepy X) (I : Inv X pins σ H s) (h : SelfH T H a) : (a == sysModules) = false ∧ ∃ es, MixAt s.heap a es ∧
    ∀ (i : Nat) (e : DictEntry), es[i]? = some e → ∀ (E' : Value → Shared → Prop) (Q' : Option Nat → Shared → Prop), Q' (some i) s → wpAny (model X.prog X.w) X.A.in1 (dictFind a e.key e.hash) Q' E' s := by
  unfold Deepy at hu
  rcases h with ⟨vs, h⟩ | ⟨es, vs, t, hs, h, qe⟩
  · obtain ⟨z, hs, xs, r, o, es, ep, ho, hx, hdt, he, his, hn⟩ := dt_of I.hok h
    refine ⟨hs, es, ⟨o, ep, ho, hx, hdt⟩, fun i e hi E' Q' hq => ?_⟩
    rw [entry_at he i] at hi
    obtain ⟨x, hxi, rfl⟩ := Option.map_eq_some_iff.mp hi
    refine wpAny_dictFind_heap (knd := tupleKind (mixKind X.prog X.w)) (k := x.1) (a := x.2.1) (by show X.A.units + 1 < cLine; omega) (his x (List.mem_of_getElem? hxi)) ho hdt he his hn (fun no => (no i x.2 hxi).elim) fun j p hj => ?_
    have e1 : (xs.map (·.1))[i]? = some x.1 := by rw [List.getElem?_map, hxi]; rfl
    have e2 : (xs.map (·.1))[j]? = some x.1 := by rw [List.getElem?_map, hj]; rfl
    obtain ⟨l1, f1⟩ := List.getElem?_eq_some_iff.mp e1
    obtain ⟨l2, f2⟩ := List.getElem?_eq_some_iff.mp e2
    have ij : j = i := (List.getElem_inj hn).mp (f2.trans f1.symm)
    rw [ij]
    exact hq
  · obtain ⟨⟨o, ep, ho, hx, hd⟩, _, _⟩ := (show ObjOk X.prog X.w H s.heap a (OddO a _) from I.hok a _ h)
    exact ⟨hs, _, ⟨o, ep, ho, hx, hd⟩, fun i e hi E' Q' hq => OneT.each (qe.one I.hok) (by show X.A.units + 1 + 8 < cLine; omega) ho hd i e hi E' Q' hq⟩
def rEqS (T : Ct) : R2 := fun x y H Q => ∃ a, x = .ref a ∧ y = .ref a ∧ SelfH T H a ∧ Q (.bl true) H
def rNeS (T : Ct) : R2 := fun x y H Q => ∃ a, x = .ref a ∧ y = .ref a ∧ SelfH T H a ∧ Q (.bl false) H
theorem op_eqS {X : Cx} {T : Ct} (hu : Deepy X) : OpR X (compareOp .Eq) (rEqS T) := by
  intro pins s σ H x y v u Q I rx ry ⟨a, e1, e2, h, q⟩
  subst e1 e2
  cases rx
  cases ry
  obtain ⟨hs, es, m, f⟩ := self_of hu I h
  unfold Deepy at hu
  exact eq_self hs m (by omega) f (fun i e _ => SeqAt.EqAt.same _) ⟨.bl true, H, I, rfl, q⟩
theorem op_neS {X : Cx} {T : Ct} (hu : Deepy X) : OpR X (compareOp .NotEq) (rNeS T) := by
  intro pins s σ H x y v u Q I rx ry ⟨a, e1, e2, h, q⟩
  subst e1 e2
  cases rx
  cases ry
  obtain ⟨hs, es, m, f⟩ := self_of hu I h
  unfold Deepy at hu
  exact ne_self hs m (by omega) f (fun i e _ => SeqAt.EqAt.same _) ⟨.bl false, H, I, rfl, q⟩
def selfD (x y : D) (S : Hs) : Bool := match x, y with
  | .ref n, .ref m => n == m && (match S.get n with
    | some (.dt _) => true
    | some (.odd _) => true
    | _ => false)
  | _, _ => false
def eqX (x y : D) (S : Hs) : Res D := if selfD x y S then .ok (.bl true) S else eqD x y S
def neX (x y : D) (S : Hs) : Res D := if selfD x y S then .ok (.bl false) S else neD x y S
theorem eqX_no : NoEr eqX := fun x y S c d S' h => by
  unfold eqX at h
  split at h
  · cases h
  · exact eq_no x y S c d S' h
theorem neX_no : NoEr neX := fun x y S c d S' h => by
  unfold neX at h
  split at h
  · cases h
  · exact ne_no x y S c d S' h
theorem selfD_of {T : Ct} {φ : List Addr} {S : Hs} {H : Hp} {x y : D} {v u : V} (R : RS T φ S H) (vx : RV T φ H x v) (vy : RV T φ H y u) (h : selfD x y S = true) : ∃ a, v = .ref a ∧ u = .ref a ∧ SelfH T H a := by
  unfold selfD at h
  split at h
  · rename_i n m
    obtain ⟨e, h⟩ := Bool.and_eq_true_iff.mp h
    have e := eq_of_beq e
    subst e
    cases vx with
    | @ref _ a q =>
      cases vy with
      | @ref _ b q2 =>
        rw [q] at q2
        cases q2
        refine ⟨a, rfl, rfl, ?_⟩
        split at h
        · rename_i kvs hx
          cases R.cell n _ a hx q with
          | dt h r => exact .inl ⟨_, h⟩
        · rename_i kvs hx
          cases R.cell n _ a hx q with
          | odd hs h qe r => exact .inr ⟨_, _, _, hs, h, qe⟩
        · simp at h
  · cases h
theorem eqX_M {T : Ct} : OpM T (fun x y H Q => rEqS T x y H Q ∨ rEqD T.K x y H Q) eqX := by
  intro φ S H x y v u Q er R vx vy ne P
  unfold eqX at P
  split at P
  · rename_i h
    obtain ⟨a, e1, e2, q⟩ := selfD_of R vx vy h
    exact .inl ⟨a, e1, e2, q, P.now R (.bl _)⟩
  · exact .inr (eq_M R vx vy ne P)
theorem neX_M {T : Ct} : OpM T (fun x y H Q => rNeS T x y H Q ∨ rNeD T.K x y H Q) neX := by
  intro φ S H x y v u Q er R vx vy ne P
  unfold neX at P
  split at P
  · rename_i h
    obtain ⟨a, e1, e2, q⟩ := selfD_of R vx vy h
    exact .inl ⟨a, e1, e2, q, P.now R (.bl _)⟩
  · exact .inr (ne_M R vx vy ne P)
section
variable {X : Cx} {T : Ct} {W : WX} {pos : Pos} {a b : Expr} {ma mb : Ex}
theorem eqX_op (hu : Deepy X) (hK : T.K = X.K) : OpR X (compareOp .Eq) (fun x y H Q => rEqS T x y H Q ∨ rEqD T.K x y H Q) := by
  rw [hK]
  exact (op_eqS hu).or (op_eqD (by unfold Deepy at hu; omega))
theorem neX_op (hu : Deepy X) (hK : T.K = X.K) : OpR X (compareOp .NotEq) (fun x y H Q => rNeS T x y H Q ∨ rNeD T.K x y H Q) := by
  rw [hK]
  exact (op_neS hu).or (op_neD (by unfold Deepy at hu; omega))
theorem r_eqX (hu : Deepy X) (ha : PE X a (tE T W ma)) (hb : PE X b (tE T W mb)) (hK : T.K = X.K := by rfl) : PE X (.Compare a [.Eq] [b] pos) (tE T W (mOp2 eqX ma mb)) := r_cmp (eqX_op hu hK) eqX_M eqX_no ha hb (nomark _)
theorem t_eqX (hu : Deepy X) (ha : PE X a (tE T W ma)) (hb : PE X b (tE T W mb)) (hK : T.K = X.K := by rfl) : PT X (.Compare a [.Eq] [b] pos) (tT T W (mOp2 eqX ma mb)) := t_cmp (eqX_op hu hK) eqX_M eqX_no ha hb (nomark _)
theorem r_neX (hu : Deepy X) (ha : PE X a (tE T W ma)) (hb : PE X b (tE T W mb)) (hK : T.K = X.K := by rfl) : PE X (.Compare a [.NotEq] [b] pos) (tE T W (mOp2 neX ma mb)) := r_cmp (neX_op hu hK) neX_M neX_no ha hb (nomark _)
theorem t_neX (hu : Deepy X) (ha : PE X a (tE T W ma)) (hb : PE X b (tE T W mb)) (hK : T.K = X.K := by rfl) : PT X (.Compare a [.NotEq] [b] pos) (tT T W (mOp2 neX ma mb)) := t_cmp (neX_op hu hK) neX_M neX_no ha hb (nomark _)
end
end MR

namespace K80
open PySem PySem.Spec L2 MR
open PyProof.Rows (envOfC)
def top (i : Nat) : Stmt := PySem.Challenge.pw_withinbooks_k80_whole_mended_books.main.body.getD i (.Pass ⟨0, 0, 0, 0⟩)
abbrev s_is_spelt : Stmt := top 6
abbrev s_is_book : Stmt := top 8
abbrev s_check_book : Stmt := top 9
abbrev s_is_step : Stmt := top 13
abbrev s_mended : Stmt := top 14
abbrev s_mended_by : Stmt := top 15
abbrev s__law_purse : Stmt := top 17
abbrev s__law_mixed : Stmt := top 18
abbrev s__law_draw : Stmt := top 19
abbrev s__law_purses : Stmt := top 20
abbrev s__law_one_of : Stmt := top 21
abbrev s__law_same : Stmt := top 22
abbrev s__law_exact : Stmt := top 23
abbrev s__law_word : Stmt := top 24
abbrev s__law_words : Stmt := top 25
abbrev s__law_is : Stmt := top 26
abbrev s__law_made : Stmt := top 27
abbrev s__law_are_steps : Stmt := top 28
abbrev s__law_drawn_steps : Stmt := top 29
abbrev s__law_bent : Stmt := top 30
abbrev s__law_is_word : Stmt := top 31
abbrev s__law_due : Stmt := top 32
abbrev s__law_steps_right : Stmt := top 33
abbrev s_law : Stmt := top 34
abbrev Tt (w : World) (K : PySem.W.Frag) (ca : Str → Addr) : Ct := ⟨K, ca, [], w⟩
def kn : List Str := ["InvalidMending", "InvalidBook"]
def cl : List Str := ["PurseError", "InvalidBook", "InvalidMending"]
def isa : Isa := fun c x => decide (c = x) || decide (x = "PurseError")
/-- what the top of the program has written -/
structure Bas (P : Program) (K : PySem.W.Frag) (mg : Str → Option Value) (ca : Str → Addr) (fa : Nat → Addr) (fd : Nat → FuncData) : Prop where
  n_all : mg "all" = none
  n_bool : mg "bool" = none
  n_dict : mg "dict" = none
  n_int : mg "int" = none
  n_isinstance : mg "isinstance" = none
  n_len : mg "len" = none
  n_list : mg "list" = none
  n_max : mg "max" = none
  n_min : mg "min" = none
  n_range : mg "range" = none
  n_str : mg "str" = none
  n_sum : mg "sum" = none
  n_tuple : mg "tuple" = none
  n_zip : mg "zip" = none
  c_PurseError : mg "PurseError" = some (.ref (ca "PurseError"))
  c_InvalidBook : mg "InvalidBook" = some (.ref (ca "InvalidBook"))
  c_InvalidMending : mg "InvalidMending" = some (.ref (ca "InvalidMending"))
  e_InvalidBook : ∃ fI, PySem.ErX.ErrTxt P K mg "InvalidBook" (ca "InvalidBook") fI
  e_InvalidMending : ∃ fI, PySem.ErX.ErrTxt P K mg "InvalidMending" (ca "InvalidMending") fI
  ex_InvalidMending : ∀ c ∈ kn, PySem.W.exmOne K (.ref (ca c)) (.ref (ca "InvalidMending")) = some (isa c "InvalidMending")
  ek : ErrK K ca isa kn cl
  k_LETTERS : ∃ t, mg "LETTERS" = some (.str "abcdefghijklmnopqrstuvwxyz" t)
  k_KEEP : ∃ (q : Addr) (o : Obj) (its : Array Value) (n : Nat), mg "KEEP" = some (.ref q) ∧ K.lookup q = some o ∧ o.cls = .type "tuple" ∧ o.data = .seq its n ∧ its.size ≤ sizeLine ∧ Vals ((["keep"] : List Str).map V.str) its.toList
  k_LEAVE : ∃ (q : Addr) (o : Obj) (its : Array Value) (n : Nat), mg "LEAVE" = some (.ref q) ∧ K.lookup q = some o ∧ o.cls = .type "tuple" ∧ o.data = .seq its n ∧ its.size ≤ sizeLine ∧ Vals ((["leave"] : List Str).map V.str) its.toList
  d_is_spelt : FunD K "is_spelt" "is_spelt" (defArgs s_is_spelt) (defBody s_is_spelt) (defScope s_is_spelt) [] [] (fa 0) (fd 0)
  g_is_spelt : mg "is_spelt" = some (.ref (fa 0))
  d_is_book : FunD K "is_book" "is_book" (defArgs s_is_book) (defBody s_is_book) (defScope s_is_book) [] [] (fa 1) (fd 1)
  g_is_book : mg "is_book" = some (.ref (fa 1))
  d_check_book : FunD K "check_book" "check_book" (defArgs s_check_book) (defBody s_check_book) (defScope s_check_book) [] [] (fa 2) (fd 2)
  g_check_book : mg "check_book" = some (.ref (fa 2))
  d_is_step : FunD K "is_step" "is_step" (defArgs s_is_step) (defBody s_is_step) (defScope s_is_step) [] [] (fa 3) (fd 3)
  g_is_step : mg "is_step" = some (.ref (fa 3))
  d_mended : FunD K "mended" "mended" (defArgs s_mended) (defBody s_mended) (defScope s_mended) [] [] (fa 4) (fd 4)
  g_mended : mg "mended" = some (.ref (fa 4))
  d_mended_by : FunD K "mended_by" "mended_by" (defArgs s_mended_by) (defBody s_mended_by) (defScope s_mended_by) [] [] (fa 5) (fd 5)
  g_mended_by : mg "mended_by" = some (.ref (fa 5))
  d__law_purse : FunD K "_law_purse" "_law_purse" (defArgs s__law_purse) (defBody s__law_purse) (defScope s__law_purse) [] [] (fa 6) (fd 6)
  g__law_purse : mg "_law_purse" = some (.ref (fa 6))
  d__law_mixed : FunD K "_law_mixed" "_law_mixed" (defArgs s__law_mixed) (defBody s__law_mixed) (defScope s__law_mixed) [] [] (fa 7) (fd 7)
  g__law_mixed : mg "_law_mixed" = some (.ref (fa 7))
  d__law_draw : FunD K "_law_draw" "_law_draw" (defArgs s__law_draw) (defBody s__law_draw) (defScope s__law_draw) [] [] (fa 8) (fd 8)
  g__law_draw : mg "_law_draw" = some (.ref (fa 8))
  d__law_purses : FunD K "_law_purses" "_law_purses" (defArgs s__law_purses) (defBody s__law_purses) (defScope s__law_purses) [] [] (fa 9) (fd 9)
  g__law_purses : mg "_law_purses" = some (.ref (fa 9))
  d__law_one_of : FunD K "_law_one_of" "_law_one_of" (defArgs s__law_one_of) (defBody s__law_one_of) (defScope s__law_one_of) [] [] (fa 10) (fd 10)
  g__law_one_of : mg "_law_one_of" = some (.ref (fa 10))
  d__law_same : FunD K "_law_same" "_law_same" (defArgs s__law_same) (defBody s__law_same) (defScope s__law_same) [] [] (fa 11) (fd 11)
  g__law_same : mg "_law_same" = some (.ref (fa 11))
  d__law_exact : FunD K "_law_exact" "_law_exact" (defArgs s__law_exact) (defBody s__law_exact) (defScope s__law_exact) [] [] (fa 12) (fd 12)
  g__law_exact : mg "_law_exact" = some (.ref (fa 12))
  d__law_word : FunD K "_law_word" "_law_word" (defArgs s__law_word) (defBody s__law_word) (defScope s__law_word) [] [] (fa 13) (fd 13)
  g__law_word : mg "_law_word" = some (.ref (fa 13))
  d__law_words : FunD K "_law_words" "_law_words" (defArgs s__law_words) (defBody s__law_words) (defScope s__law_words) [] [] (fa 14) (fd 14)
  g__law_words : mg "_law_words" = some (.ref (fa 14))
  d__law_is : FunD K "_law_is" "_law_is" (defArgs s__law_is) (defBody s__law_is) (defScope s__law_is) [] [] (fa 15) (fd 15)
  g__law_is : mg "_law_is" = some (.ref (fa 15))
  d__law_made : FunD K "_law_made" "_law_made" (defArgs s__law_made) (defBody s__law_made) (defScope s__law_made) [] [] (fa 16) (fd 16)
  g__law_made : mg "_law_made" = some (.ref (fa 16))
  d__law_are_steps : FunD K "_law_are_steps" "_law_are_steps" (defArgs s__law_are_steps) (defBody s__law_are_steps) (defScope s__law_are_steps) [] [] (fa 17) (fd 17)
  g__law_are_steps : mg "_law_are_steps" = some (.ref (fa 17))
  d__law_drawn_steps : FunD K "_law_drawn_steps" "_law_drawn_steps" (defArgs s__law_drawn_steps) (defBody s__law_drawn_steps) (defScope s__law_drawn_steps) [] [] (fa 18) (fd 18)
  g__law_drawn_steps : mg "_law_drawn_steps" = some (.ref (fa 18))
  d__law_bent : FunD K "_law_bent" "_law_bent" (defArgs s__law_bent) (defBody s__law_bent) (defScope s__law_bent) [] [] (fa 19) (fd 19)
  g__law_bent : mg "_law_bent" = some (.ref (fa 19))
  d__law_is_word : FunD K "_law_is_word" "_law_is_word" (defArgs s__law_is_word) (defBody s__law_is_word) (defScope s__law_is_word) [] [] (fa 20) (fd 20)
  g__law_is_word : mg "_law_is_word" = some (.ref (fa 20))
  d__law_due : FunD K "_law_due" "_law_due" (defArgs s__law_due) (defBody s__law_due) (defScope s__law_due) [] [] (fa 21) (fd 21)
  g__law_due : mg "_law_due" = some (.ref (fa 21))
  d__law_steps_right : FunD K "_law_steps_right" "_law_steps_right" (defArgs s__law_steps_right) (defBody s__law_steps_right) (defScope s__law_steps_right) [] [] (fa 22) (fd 22)
  g__law_steps_right : mg "_law_steps_right" = some (.ref (fa 22))
  d_law : FunD K "law" "law" (defArgs s_law) (defBody s_law) (defScope s_law) [] [] (fa 23) (fd 23)
  g_law : mg "law" = some (.ref (fa 23))
end K80

namespace K80
open PySem PySem.Spec L2 MR
open PyProof.Rows (envOfC)
section
variable {P : Program} {w : World} {K : PySem.W.Frag} {mg : Str → Option Value} {base : Heap} {ca : Str → Addr} {fa : Nat → Addr} {fd : Nat → FuncData}
/-! ### is_spelt -/
theorem sc_is_spelt : FnScope ["value", "letter"] ["value"] (defScope s_is_spelt) := ⟨rfl, rfl, rfl, by decide +kernel, rfl, by decide +kernel, by decide +kernel⟩
def FB_is_spelt : SM := mSeq (mIfS (mOr (mNot (mCall isiF (mCons (mV 0) (mCons (mC (.ty "str")) (mNil))))) (mNot (mChain ltD ltD (mC (.int 0)) (mCall lenF (mCons (mV 0) (mNil))) (mC (.int 9))))) (mRet (mC (.bl false))) (mNx)) (mSeq (mFor (mIter (mV 0)) (bName 1) (mIfS (mOp2 notinD (mV 1) (mC (.str "abcdefghijklmnopqrstuvwxyz"))) (mRet (mC (.bl false))) (mNx))) (mRet (mC (.bl true))))
def F_is_spelt : Fn := runB 1 2 FB_is_spelt
theorem bi_is_spelt (B : Bas P K mg ca fa fd) : Binds K (fd 0) ["value"] [] := B.d_is_spelt.bindsN (ps := ["value"]) fun _ _ _ _ _ _ us hl => match us, hl with | [_], _ => rfl
theorem ok_is_spelt (B : Bas P K mg ca fa fd) : Def P w K mg base (Tt w K ca) 2 "is_spelt" (fa 0) (fd 0) ["value"] F_is_spelt := by
  obtain ⟨t_LETTERS, h_LETTERS⟩ := B.k_LETTERS
  exact ⟨fn_ok (k := 1) (Tt w K ca) B.d_is_spelt sc_is_spelt fun cdv A outer s H E hr tk pw => (s_cons (s_if (PW.pt (w_or (t_not (t_val (r_isi B.n_isinstance (a_cons (r_var 0) (a_cons (r_ty rfl B.n_str (by decide +kernel) (by decide +kernel) (by decide +kernel)) a_nil))))) (w_one (t_not (t_ltlt r_int (r_len B.n_len (a_cons (r_var 0) a_nil)) r_int))))) (s_one (s_ret r_bl)) s_nil) (s_cons (s_for pw rfl (i_any (r_var 0)) (pg_name (i := 1) sc_is_spelt.nd rfl (by first | exact Or.inl rfl | exact Or.inr rfl)) tg_name (s_one (s_if (t_notin (deepy_of hr) (r_var 1) (r_gStr rfl h_LETTERS (by decide +kernel))) (s_one (s_ret r_bl)) s_nil))) (s_one (s_ret r_bl)))), B.g_is_spelt, B.d_is_spelt.kp⟩
/-! ### is_book -/
theorem sc_is_book : FnScope ["value", "job"] ["value"] (defScope s_is_book) := ⟨rfl, rfl, rfl, by decide +kernel, rfl, by decide +kernel, by decide +kernel⟩
def FB_is_book : SM := mRet (mAnd (mCall isiF (mCons (mV 0) (mCons (mC (.ty "list")) (mNil)))) (mCall allF (mCons (mLc (mIter (mV 0)) (bName 1) (mTrue) (mOwn (pur F_is_spelt) [] (mCons (mV 1) (mNil))) [1]) (mNil))))
def F_is_book : Fn := runB 1 2 FB_is_book
theorem bi_is_book (B : Bas P K mg ca fa fd) : Binds K (fd 1) ["value"] [] := B.d_is_book.bindsN (ps := ["value"]) fun _ _ _ _ _ _ us hl => match us, hl with | [_], _ => rfl
theorem ok_is_book (B : Bas P K mg ca fa fd) : Def P w K mg base (Tt w K ca) 3 "is_book" (fa 1) (fd 1) ["value"] F_is_book := by
  exact ⟨fn_ok (k := 2) (Tt w K ca) B.d_is_book sc_is_book fun cdv A outer s H E hr tk pw => (s_one (s_ret (r_and (r_isi B.n_isinstance (a_cons (r_var 0) (a_cons (r_ty rfl B.n_list (by decide +kernel) (by decide +kernel) (by decide +kernel)) a_nil))) (r_one (r_all rfl B.n_all (a_cons (r_lc (own := [("job", 1)]) rfl sc_is_book.nd (show BlkOk ["value", "job"] (defScope s_is_book) _ [("job", 1)] from ⟨rfl, by decide +kernel, by decide +kernel, by decide +kernel, by decide +kernel⟩) (i_any (r_var 0)) tg_name (bName_in (by decide)) (fun _ _ _ _ _ => (pg_name (i := 1) sc_is_book.nd rfl (by first | exact Or.inl rfl | exact Or.inr rfl))) (fun _ _ _ _ _ => ts_nil) (fun _ _ _ _ _ => (r_call (pur_def (ok_is_spelt B)) (hr.mono (by decide)) (bi_is_spelt B) takes_none5 (a_cons (r_var 1) a_nil)))) a_nil)))))), B.g_is_book, B.d_is_book.kp⟩
/-! ### check_book -/
theorem sc_check_book : FnScope ["value"] ["value"] (defScope s_check_book) := ⟨rfl, rfl, rfl, by decide +kernel, rfl, by decide +kernel, by decide +kernel⟩
def FB_check_book : SM := mIfS (mNot (mOwn (pur F_is_book) [] (mCons (mV 0) (mNil)))) (mRaise "InvalidBook" (mV 0)) (mNx)
def F_check_book : Fn := runB 1 1 FB_check_book
theorem bi_check_book (B : Bas P K mg ca fa fd) : Binds K (fd 2) ["value"] [] := B.d_check_book.bindsN (ps := ["value"]) fun _ _ _ _ _ _ us hl => match us, hl with | [_], _ => rfl
theorem ok_check_book (B : Bas P K mg ca fa fd) : Def P w K mg base (Tt w K ca) 4 "check_book" (fa 2) (fd 2) ["value"] F_check_book := by
  obtain ⟨fI_InvalidBook, e_InvalidBook⟩ := B.e_InvalidBook
  exact ⟨fn_ok (k := 3) (Tt w K ca) B.d_check_book sc_check_book fun cdv A outer s H E hr tk pw => (s_one (s_if (t_not (t_val (r_call (pur_def (ok_is_book B)) (hr.mono (by decide)) (bi_is_book B) tk (a_cons (r_var 0) a_nil)))) (s_one (s_raise rfl e_InvalidBook rfl (hr.mono (by decide) : Room 1 _) tk (r_var 0) rfl (by decide +kernel))) s_nil)), B.g_check_book, B.d_check_book.kp⟩
/-! ### is_step -/
theorem sc_is_step : FnScope ["value"] ["value"] (defScope s_is_step) := ⟨rfl, rfl, rfl, by decide +kernel, rfl, by decide +kernel, by decide +kernel⟩
def FB_is_step : SM := mSeq (mIfS (mOr (mNot (mCall isiF (mCons (mV 0) (mCons (mC (.ty "tuple")) (mNil))))) (mOr (mOp2 notinD (mCall lenF (mCons (mV 0) (mNil))) (mTup (mCons (mC (.int 1)) (mCons (mC (.int 2)) (mNil))))) (mNot (mCall isiF (mCons (mOp2 ixD (mV 0) (mC (.int 0))) (mCons (mC (.ty "str")) (mNil))))))) (mRet (mC (.bl false))) (mNx)) (mSeq (mIfS (mOp2 eqD (mCall lenF (mCons (mV 0) (mNil))) (mC (.int 1))) (mRet (mOp2 inTD (mV 0) (mTup (mCons (mC (.tup ((["keep"] : List Str).map D.str))) (mCons (mC (.tup ((["leave"] : List Str).map D.str))) (mNil)))))) (mNx)) (mRet (mAnd (mOp2 inD (mOp2 ixD (mV 0) (mC (.int 0))) (mTup (mCons (mC (.str "exchange")) (mCons (mC (.str "put")) (mNil))))) (mOwn (pur F_is_spelt) [] (mCons (mOp2 ixD (mV 0) (mC (.int 1))) (mNil))))))
def F_is_step : Fn := runB 1 1 FB_is_step
theorem bi_is_step (B : Bas P K mg ca fa fd) : Binds K (fd 3) ["value"] [] := B.d_is_step.bindsN (ps := ["value"]) fun _ _ _ _ _ _ us hl => match us, hl with | [_], _ => rfl
theorem ok_is_step (B : Bas P K mg ca fa fd) : Def P w K mg base (Tt w K ca) 3 "is_step" (fa 3) (fd 3) ["value"] F_is_step := by
  obtain ⟨q_KEEP, o_KEEP, i_KEEP, n_KEEP, h_KEEP⟩ := B.k_KEEP
  obtain ⟨q_LEAVE, o_LEAVE, i_LEAVE, n_LEAVE, h_LEAVE⟩ := B.k_LEAVE
  exact ⟨fn_ok (k := 2) (Tt w K ca) B.d_is_step sc_is_step fun cdv A outer s H E hr tk pw => (s_cons (s_if (PW.pt (w_or (t_not (t_val (r_isi B.n_isinstance (a_cons (r_var 0) (a_cons (r_ty rfl B.n_tuple (by decide +kernel) (by decide +kernel) (by decide +kernel)) a_nil))))) (w_or (t_notin (deepy_of hr) (r_len B.n_len (a_cons (r_var 0) a_nil)) (r_tup (a_cons r_int (a_cons r_int a_nil)))) (w_one (t_not (t_val (r_isi B.n_isinstance (a_cons (r_ix (r_var 0) r_int) (a_cons (r_ty rfl B.n_str (by decide +kernel) (by decide +kernel) (by decide +kernel)) a_nil))))))))) (s_one (s_ret r_bl)) s_nil) (s_cons (s_if (t_eq (deepy_of hr) (r_len B.n_len (a_cons (r_var 0) a_nil)) r_int) (s_one (s_ret (r_inT (deepy_of hr) (r_var 0) (r_tup (a_cons (r_gTup (zs := (["keep"] : List Str)) rfl h_KEEP.1 h_KEEP.2.1 h_KEEP.2.2.1 h_KEEP.2.2.2.1 h_KEEP.2.2.2.2.1 h_KEEP.2.2.2.2.2) (a_cons (r_gTup (zs := (["leave"] : List Str)) rfl h_LEAVE.1 h_LEAVE.2.1 h_LEAVE.2.2.1 h_LEAVE.2.2.2.1 h_LEAVE.2.2.2.2.1 h_LEAVE.2.2.2.2.2) a_nil)))))) s_nil) (s_one (s_ret (r_and (r_in (deepy_of hr) (r_ix (r_var 0) r_int) (r_tup (a_cons r_str (a_cons r_str a_nil)))) (r_one (r_call (pur_def (ok_is_spelt B)) (hr.mono (by decide)) (bi_is_spelt B) tk (a_cons (r_ix (r_var 0) r_int) a_nil)))))))), B.g_is_step, B.d_is_step.kp⟩
/-! ### mended -/
theorem sc_mended : FnScope ["book", "value", "step", "found", "at"] ["book", "value"] (defScope s_mended) := ⟨rfl, rfl, rfl, by decide +kernel, rfl, by decide +kernel, by decide +kernel⟩
def FB_mended : SM := mSeq (mIfS (mOr (mNot (mCall isiF (mCons (mV 1) (mCons (mC (.ty "list")) (mNil))))) (mNot (mCall allF (mCons (mLc (mIter (mV 1)) (bName 2) (mTrue) (mOwn (pur F_is_step) [] (mCons (mV 2) (mNil))) [2]) (mNil))))) (mRet (mC .non)) (mNx)) (mSeq (mPar 3 4 (mCons (mLst (mNil)) (mCons (mC (.int 0)) (mNil)))) (mSeq (mFor (mIter (mV 1)) (bName 2) (mSeq (mIfS (mOp2 neD (mOp2 ixD (mV 2) (mC (.int 0))) (mC (.str "put"))) (mSeq (mIfS (mOr (mOp2 eqD (mV 4) (mCall lenF (mCons (mV 0) (mNil)))) (mOp2 eqD (mV 2) (mTup (mCons (mC (.str "exchange")) (mCons (mOp2 ixD (mV 0) (mV 4)) (mNil)))))) (mRet (mC .non)) (mNx)) (mAugI 4 (mC (.int 1)))) (mNx)) (mIfS (mOp2 inD (mOp2 ixD (mV 2) (mC (.int 0))) (mTup (mCons (mC (.str "exchange")) (mCons (mC (.str "put")) (mNil))))) (mExp (mMeth "list" appendG (mV 3) (mCons (mOp2 ixD (mV 2) (mC (.int 1))) (mNil)))) (mIfS (mOp2 eqD (mV 2) (mC (.tup ((["keep"] : List Str).map D.str)))) (mExp (mMeth "list" appendG (mV 3) (mCons (mOp2 ixD (mV 0) (mOp2 subD (mV 4) (mC (.int 1)))) (mNil)))) (mNx))))) (mRet (mIf (mOp2 eqD (mV 4) (mCall lenF (mCons (mV 0) (mNil)))) (mV 3) (mC .non)))))
def F_mended : Fn := runB 2 5 FB_mended
theorem bi_mended (B : Bas P K mg ca fa fd) : Binds K (fd 4) ["book", "value"] [] := B.d_mended.bindsN (ps := ["book", "value"]) fun _ _ _ _ _ _ us hl => match us, hl with | [_, _], _ => rfl
theorem ok_mended (B : Bas P K mg ca fa fd) : Def P w K mg base (Tt w K ca) 4 "mended" (fa 4) (fd 4) ["book", "value"] F_mended := by
  obtain ⟨q_KEEP, o_KEEP, i_KEEP, n_KEEP, h_KEEP⟩ := B.k_KEEP
  exact ⟨fn_ok (k := 3) (Tt w K ca) B.d_mended sc_mended fun cdv A outer s H E hr tk pw => (s_cons (s_if (PW.pt (w_or (t_not (t_val (r_isi B.n_isinstance (a_cons (r_var 1) (a_cons (r_ty rfl B.n_list (by decide +kernel) (by decide +kernel) (by decide +kernel)) a_nil))))) (w_one (t_not (t_val (r_all rfl B.n_all (a_cons (r_lc (own := [("step", 2)]) rfl sc_mended.nd (show BlkOk ["book", "value", "step", "found", "at"] (defScope s_mended) _ [("step", 2)] from ⟨rfl, by decide +kernel, by decide +kernel, by decide +kernel, by decide +kernel⟩) (i_any (r_var 1)) tg_name (bName_in (by decide)) (fun _ _ _ _ _ => (pg_name (i := 2) sc_mended.nd rfl (by first | exact Or.inl rfl | exact Or.inr rfl))) (fun _ _ _ _ _ => ts_nil) (fun _ _ _ _ _ => (r_call (pur_def (ok_is_step B)) (hr.mono (by decide)) (bi_is_step B) takes_none5 (a_cons (r_var 2) a_nil)))) a_nil))))))) (s_one (s_ret r_non)) s_nil) (s_cons (s_par 3 4 rfl sc_mended.nd (a_cons (r_lst a_nil) (a_cons r_int a_nil))) (s_cons (s_for pw rfl (i_any (r_var 1)) (pg_name (i := 2) sc_mended.nd rfl (by first | exact Or.inl rfl | exact Or.inr rfl)) tg_name (s_cons (s_if (t_ne (deepy_of hr) (r_ix (r_var 2) r_int) r_str) (s_cons (s_if (PW.pt (w_or (t_eq (deepy_of hr) (r_var 4) (r_len B.n_len (a_cons (r_var 0) a_nil))) (w_one (t_eq (deepy_of hr) (r_var 2) (r_tup (a_cons r_str (a_cons (r_ix (r_var 0) (r_var 4)) a_nil))))))) (s_one (s_ret r_non)) s_nil) (s_one (s_augI 4 sc_mended.nd r_int))) s_nil) (s_one (s_if (t_in (deepy_of hr) (r_ix (r_var 2) r_int) (r_tup (a_cons r_str (a_cons r_str a_nil)))) (s_one (s_exp (r_append (r_var 3) (a_cons (r_ix (r_var 2) r_int) a_nil)))) (s_one (s_if (t_eq (deepy_of hr) (r_var 2) (r_gTup (zs := (["keep"] : List Str)) rfl h_KEEP.1 h_KEEP.2.1 h_KEEP.2.2.1 h_KEEP.2.2.2.1 h_KEEP.2.2.2.2.1 h_KEEP.2.2.2.2.2)) (s_one (s_exp (r_append (r_var 3) (a_cons (r_ix (r_var 0) (r_sub (r_var 4) r_int)) a_nil)))) s_nil)))))) (s_one (s_ret (r_if (t_eq (deepy_of hr) (r_var 4) (r_len B.n_len (a_cons (r_var 0) a_nil))) (r_var 3) r_non)))))), B.g_mended, B.d_mended.kp⟩
/-! ### mended_by -/
theorem sc_mended_by : FnScope ["book", "mending", "found"] ["book", "mending"] (defScope s_mended_by) := ⟨rfl, rfl, rfl, by decide +kernel, rfl, by decide +kernel, by decide +kernel⟩
def FB_mended_by : SM := mSeq (mExp (mOwn (pur F_check_book) [] (mCons (mV 0) (mNil)))) (mSeq (mSet 2 (mOwn (pur F_mended) [] (mCons (mV 0) (mCons (mV 1) (mNil))))) (mSeq (mIfS (mOp2 isD (mV 2) (mC .non)) (mRaise "InvalidMending" (mV 1)) (mNx)) (mRet (mV 2))))
def F_mended_by : Fn := runB 2 3 FB_mended_by
theorem bi_mended_by (B : Bas P K mg ca fa fd) : Binds K (fd 5) ["book", "mending"] [] := B.d_mended_by.bindsN (ps := ["book", "mending"]) fun _ _ _ _ _ _ us hl => match us, hl with | [_, _], _ => rfl
theorem ok_mended_by (B : Bas P K mg ca fa fd) : Def P w K mg base (Tt w K ca) 5 "mended_by" (fa 5) (fd 5) ["book", "mending"] F_mended_by := by
  obtain ⟨fI_InvalidMending, e_InvalidMending⟩ := B.e_InvalidMending
  exact ⟨fn_ok (k := 4) (Tt w K ca) B.d_mended_by sc_mended_by fun cdv A outer s H E hr tk pw => (s_cons (s_exp (r_call (pur_def (ok_check_book B)) (hr.mono (by decide)) (bi_check_book B) tk (a_cons (r_var 0) a_nil))) (s_cons (s_set 2 sc_mended_by.nd (r_call (pur_def (ok_mended B)) (hr.mono (by decide)) (bi_mended B) tk (a_cons (r_var 0) (a_cons (r_var 1) a_nil)))) (s_cons (s_if (t_is (r_var 2) r_non) (s_one (s_raise rfl e_InvalidMending rfl (hr.mono (by decide) : Room 1 _) tk (r_var 1) rfl (by decide +kernel))) s_nil) (s_one (s_ret (r_var 2)))))), B.g_mended_by, B.d_mended_by.kp⟩
end
end K80

namespace K80
open PySem PySem.Spec L2 MR
open PyProof.Rows (envOfC)
section
variable {P : Program} {w : World} {K : PySem.W.Frag} {mg : Str → Option Value} {base : Heap} {ca : Str → Addr} {fa : Nat → Addr} {fd : Nat → FuncData}
/-! ### _law_purse -/
theorem sc__law_purse : FnScope ["_law_script", "_law_at", "_law_seed"] ["_law_script", "_law_at"] (defScope s__law_purse) := ⟨rfl, rfl, rfl, by decide +kernel, rfl, by decide +kernel, by decide +kernel⟩
def FB__law_purse : SM := mSeq (mSet 2 (mCall sumF (mCons (mSlice (mV 0) (mPart (mV 1)) (mPart (mOp2 addD (mV 1) (mC (.int 1))))) (mNil)))) (mRet (mLst (mCons (mOp2 modD (mCall intF (mCons (mCall maxF (mCons (mOp2 subD (mV 2) (mOp2 powD (mC (.int 10)) (mC (.int 18)))) (mCons (mC (.int 0)) (mNil)))) (mNil))) (mOp2 powD (mOp2 powD (mC (.int 10)) (mC (.int 60))) (mC (.int 8)))) (mCons (mOp2 modD (mCall intF (mCons (mV 2) (mNil))) (mC (.int 2147483629))) (mCons (mC (.int 0)) (mCons (mV 1) (mNil)))))))
def F__law_purse : Fn := runB 2 3 FB__law_purse
theorem bi__law_purse (B : Bas P K mg ca fa fd) : Binds K (fd 6) ["_law_script", "_law_at"] [] := B.d__law_purse.bindsN (ps := ["_law_script", "_law_at"]) fun _ _ _ _ _ _ us hl => match us, hl with | [_, _], _ => rfl
theorem ok__law_purse (B : Bas P K mg ca fa fd) : Def P w K mg base (Tt w K ca) 2 "_law_purse" (fa 6) (fd 6) ["_law_script", "_law_at"] F__law_purse := by
  exact ⟨fn_ok (k := 1) (Tt w K ca) B.d__law_purse sc__law_purse fun cdv A outer s H E hr tk pw => (s_cons (s_set 2 sc__law_purse.nd (r_sum rfl B.n_sum (a_cons (r_slice (r_var 0) (o_some (r_var 1)) (o_some (r_add (r_var 1) r_int))) a_nil))) (s_one (s_ret (r_lst (a_cons (r_mod (r_intc B.n_int (a_cons (r_max rfl B.n_max (a_cons (r_sub (r_var 2) (r_pow r_int r_int)) (a_cons r_int a_nil))) a_nil)) (r_pow (r_pow r_int r_int) r_int)) (a_cons (r_mod (r_intc B.n_int (a_cons (r_var 2) a_nil)) r_int) (a_cons r_int (a_cons (r_var 1) a_nil)))))))), B.g__law_purse, B.d__law_purse.kp⟩
/-! ### _law_mixed -/
theorem sc__law_mixed : FnScope ["_law_seed", "_law_turn", "_law_at", "_law_mixed_here"] ["_law_seed", "_law_turn", "_law_at"] (defScope s__law_mixed) := ⟨rfl, rfl, rfl, by decide +kernel, rfl, by decide +kernel, by decide +kernel⟩
def FB__law_mixed : SM := mSeq (mSet 3 (mOp2 addD (mOp2 mulD (mV 0) (mC (.int 69069))) (mOp2 mulD (mOp2 mulD (mC (.int 104729)) (mV 1)) (mV 1)))) (mSeq (mSet 3 (mOp2 modD (mCall intF (mCons (mOp2 addD (mOp2 addD (mV 3) (mOp2 mulD (mC (.int 7919)) (mV 2))) (mV 1)) (mNil))) (mC (.int 2147483647)))) (mSeq (mSet 3 (mOp2 modD (mCall intF (mCons (mOp2 addD (mOp2 mulD (mV 3) (mV 3)) (mC (.int 40503))) (mNil))) (mC (.int 2147483629)))) (mRet (mOp2 modD (mCall intF (mCons (mOp2 mulD (mV 3) (mC (.int 48271))) (mNil))) (mC (.int 2147483587))))))
def F__law_mixed : Fn := runB 3 4 FB__law_mixed
theorem bi__law_mixed (B : Bas P K mg ca fa fd) : Binds K (fd 7) ["_law_seed", "_law_turn", "_law_at"] [] := B.d__law_mixed.bindsN (ps := ["_law_seed", "_law_turn", "_law_at"]) fun _ _ _ _ _ _ us hl => match us, hl with | [_, _, _], _ => rfl
theorem ok__law_mixed (B : Bas P K mg ca fa fd) : Def P w K mg base (Tt w K ca) 2 "_law_mixed" (fa 7) (fd 7) ["_law_seed", "_law_turn", "_law_at"] F__law_mixed := by
  exact ⟨fn_ok (k := 1) (Tt w K ca) B.d__law_mixed sc__law_mixed fun cdv A outer s H E hr tk pw => (s_cons (s_set 3 sc__law_mixed.nd (r_add (r_mul (r_var 0) r_int) (r_mul (r_mul r_int (r_var 1)) (r_var 1)))) (s_cons (s_set 3 sc__law_mixed.nd (r_mod (r_intc B.n_int (a_cons (r_add (r_add (r_var 3) (r_mul r_int (r_var 2))) (r_var 1)) a_nil)) r_int)) (s_cons (s_set 3 sc__law_mixed.nd (r_mod (r_intc B.n_int (a_cons (r_add (r_mul (r_var 3) (r_var 3)) r_int) a_nil)) r_int)) (s_one (s_ret (r_mod (r_intc B.n_int (a_cons (r_mul (r_var 3) r_int) a_nil)) r_int)))))), B.g__law_mixed, B.d__law_mixed.kp⟩
/-! ### _law_draw -/
theorem sc__law_draw : FnScope ["_law_purse_here", "_law_many", "_law_found", "_law_piece", "_law_drawn"] ["_law_purse_here", "_law_many"] (defScope s__law_draw) := ⟨rfl, rfl, rfl, by decide +kernel, rfl, by decide +kernel, by decide +kernel⟩
def FB__law_draw : SM := mSeq (mIfS (mOp2 gtD (mOp2 ixD (mV 0) (mC (.int 0))) (mC (.int 0))) (mSeq (mSet 4 (mOp2 modD (mCall intF (mCons (mOp2 ixD (mV 0) (mC (.int 0))) (mNil))) (mV 1))) (mSeq (mPut (mV 0) (mC (.int 0)) (mOp2 fdivD (mOp2 ixD (mV 0) (mC (.int 0))) (mV 1))) (mRet (mV 4)))) (mNx)) (mSeq (mSet 2 (mC (.int 0))) (mSeq (mFor (mRange1 (mCons (mOp2 addD (mC (.int 1)) (mOp2 fdivD (mBits (mV 1)) (mC (.int 28)))) (mNil))) (bName 3) (mSeq (mPut (mV 0) (mC (.int 2)) (mOp2 addD (mOp2 ixD (mV 0) (mC (.int 2))) (mC (.int 1)))) (mSet 2 (mOp2 addD (mOp2 mulD (mV 2) (mC (.int 2147483587))) (mOwn (pur F__law_mixed) [] (mCons (mOp2 ixD (mV 0) (mC (.int 1))) (mCons (mOp2 ixD (mV 0) (mC (.int 2))) (mCons (mOp2 ixD (mV 0) (mC (.int 3))) (mNil))))))))) (mRet (mOp2 modD (mCall intF (mCons (mV 2) (mNil))) (mV 1)))))
def F__law_draw : Fn := runB 2 5 FB__law_draw
theorem bi__law_draw (B : Bas P K mg ca fa fd) : Binds K (fd 8) ["_law_purse_here", "_law_many"] [] := B.d__law_draw.bindsN (ps := ["_law_purse_here", "_law_many"]) fun _ _ _ _ _ _ us hl => match us, hl with | [_, _], _ => rfl
theorem ok__law_draw (B : Bas P K mg ca fa fd) : Def P w K mg base (Tt w K ca) 3 "_law_draw" (fa 8) (fd 8) ["_law_purse_here", "_law_many"] F__law_draw := by
  exact ⟨fn_ok (k := 2) (Tt w K ca) B.d__law_draw sc__law_draw fun cdv A outer s H E hr tk pw => (s_cons (s_if (t_gt (r_ix (r_var 0) r_int) r_int) (s_cons (s_set 4 sc__law_draw.nd (r_mod (r_intc B.n_int (a_cons (r_ix (r_var 0) r_int) a_nil)) (r_var 1))) (s_cons (s_put (r_var 0) r_int (r_fdiv (r_ix (r_var 0) r_int) (r_var 1))) (s_one (s_ret (r_var 4))))) s_nil) (s_cons (s_set 2 sc__law_draw.nd r_int) (s_cons (s_for pw rfl (i_range1 B.n_range (a_cons (r_add r_int (r_fdiv (r_bits (r_var 1)) r_int)) a_nil)) (pg_name (i := 3) sc__law_draw.nd rfl (by first | exact Or.inl rfl | exact Or.inr rfl)) tg_name (s_cons (s_put (r_var 0) r_int (r_add (r_ix (r_var 0) r_int) r_int)) (s_one (s_set 2 sc__law_draw.nd (r_add (r_mul (r_var 2) r_int) (r_call (pur_def (ok__law_mixed B)) (hr.mono (by decide)) (bi__law_mixed B) tk (a_cons (r_ix (r_var 0) r_int) (a_cons (r_ix (r_var 0) r_int) (a_cons (r_ix (r_var 0) r_int) a_nil))))))))) (s_one (s_ret (r_mod (r_intc B.n_int (a_cons (r_var 2) a_nil)) (r_var 1))))))), B.g__law_draw, B.d__law_draw.kp⟩
/-! ### _law_purses -/
theorem sc__law_purses : FnScope ["_law_script", "_law_few", "_law_at"] ["_law_script", "_law_few"] (defScope s__law_purses) := ⟨rfl, rfl, rfl, by decide +kernel, rfl, by decide +kernel, by decide +kernel⟩
def FB__law_purses : SM := mRet (mLc (mRange1 (mCons (mCall maxF (mCons (mC (.int 1)) (mCons (mCall minF (mCons (mV 1) (mCons (mCall lenF (mCons (mV 0) (mNil))) (mNil)))) (mNil)))) (mNil))) (bName 2) (mTrue) (mOwn (pur F__law_purse) [] (mCons (mV 0) (mCons (mV 2) (mNil)))) [2])
def F__law_purses : Fn := runB 2 3 FB__law_purses
theorem bi__law_purses (B : Bas P K mg ca fa fd) : Binds K (fd 9) ["_law_script", "_law_few"] [] := B.d__law_purses.bindsN (ps := ["_law_script", "_law_few"]) fun _ _ _ _ _ _ us hl => match us, hl with | [_, _], _ => rfl
theorem ok__law_purses (B : Bas P K mg ca fa fd) : Def P w K mg base (Tt w K ca) 3 "_law_purses" (fa 9) (fd 9) ["_law_script", "_law_few"] F__law_purses := by
  exact ⟨fn_ok (k := 2) (Tt w K ca) B.d__law_purses sc__law_purses fun cdv A outer s H E hr tk pw => (s_one (s_ret (r_lc (own := [("_law_at", 2)]) rfl sc__law_purses.nd (show BlkOk ["_law_script", "_law_few", "_law_at"] (defScope s__law_purses) _ [("_law_at", 2)] from ⟨rfl, by decide +kernel, by decide +kernel, by decide +kernel, by decide +kernel⟩) (i_range1 B.n_range (a_cons (r_max rfl B.n_max (a_cons r_int (a_cons (r_min rfl B.n_min (a_cons (r_var 1) (a_cons (r_len B.n_len (a_cons (r_var 0) a_nil)) a_nil))) a_nil))) a_nil)) tg_name (bName_in (by decide)) (fun _ _ _ _ _ => (pg_name (i := 2) sc__law_purses.nd rfl (by first | exact Or.inl rfl | exact Or.inr rfl))) (fun _ _ _ _ _ => ts_nil) (fun _ _ _ _ _ => (r_call (pur_def (ok__law_purse B)) (hr.mono (by decide)) (bi__law_purse B) takes_none5 (a_cons (r_var 0) (a_cons (r_var 2) a_nil))))))), B.g__law_purses, B.d__law_purses.kp⟩
/-! ### _law_one_of -/
theorem sc__law_one_of : FnScope ["_law_purse_here", "_law_some"] ["_law_purse_here", "_law_some"] (defScope s__law_one_of) := ⟨rfl, rfl, rfl, by decide +kernel, rfl, by decide +kernel, by decide +kernel⟩
def FB__law_one_of : SM := mRet (mOp2 ixD (mV 1) (mOwn (pur F__law_draw) [] (mCons (mV 0) (mCons (mCall lenF (mCons (mV 1) (mNil))) (mNil)))))
def F__law_one_of : Fn := runB 2 2 FB__law_one_of
theorem bi__law_one_of (B : Bas P K mg ca fa fd) : Binds K (fd 10) ["_law_purse_here", "_law_some"] [] := B.d__law_one_of.bindsN (ps := ["_law_purse_here", "_law_some"]) fun _ _ _ _ _ _ us hl => match us, hl with | [_, _], _ => rfl
theorem ok__law_one_of (B : Bas P K mg ca fa fd) : Def P w K mg base (Tt w K ca) 4 "_law_one_of" (fa 10) (fd 10) ["_law_purse_here", "_law_some"] F__law_one_of := by
  exact ⟨fn_ok (k := 3) (Tt w K ca) B.d__law_one_of sc__law_one_of fun cdv A outer s H E hr tk pw => (s_one (s_ret (r_ix (r_var 1) (r_call (pur_def (ok__law_draw B)) (hr.mono (by decide)) (bi__law_draw B) tk (a_cons (r_var 0) (a_cons (r_len B.n_len (a_cons (r_var 1) a_nil)) a_nil)))))), B.g__law_one_of, B.d__law_one_of.kp⟩
/-! ### _law_same -/
theorem sc__law_same : FnScope ["_law_thing", "_law_item", "_law_key"] ["_law_thing"] (defScope s__law_same) := ⟨rfl, rfl, rfl, by decide +kernel, rfl, by decide +kernel, by decide +kernel⟩
def FB__law_same (F : Fn) : SM := mSeq (mIfS (mCall isiF (mCons (mV 0) (mCons (mC (.ty "dict")) (mNil)))) (mRet (mCall dictTF (mCons (mLock 0 (mLc (mKeysT (mV 0)) (bName 2) (mTrue) (mTup (mCons (mV 2) (mCons (mOwn (pur F) [] (mCons (mOp2 dgetTD (mV 0) (mV 2)) (mNil))) (mNil)))) [2])) (mNil)))) (mNx)) (mSeq (mIfS (mCall isiF (mCons (mV 0) (mCons (mC (.ty "list")) (mNil)))) (mRet (mLc (mIter (mV 0)) (bName 1) (mTrue) (mOwn (pur F) [] (mCons (mV 1) (mNil))) [1])) (mNx)) (mRet (mIf (mCall isiF (mCons (mV 0) (mCons (mC (.ty "tuple")) (mNil)))) (mCall tupleF (mCons (mLc (mIter (mV 0)) (bName 1) (mTrue) (mOwn (pur F) [] (mCons (mV 1) (mNil))) [1]) (mNil))) (mV 0))))
def F__law_same : Nat → Fn
  | 0 => fun _ _ => .bad
  | n + 1 => runB 1 3 (FB__law_same (F__law_same n))
theorem bi__law_same (B : Bas P K mg ca fa fd) : Binds K (fd 11) ["_law_thing"] [] := B.d__law_same.bindsN (ps := ["_law_thing"]) fun _ _ _ _ _ _ us hl => match us, hl with | [_], _ => rfl
theorem ok__law_same (B : Bas P K mg ca fa fd) : ∀ n : Nat, Def P w K mg base (Tt w K ca) (n + 2) "_law_same" (fa 11) (fd 11) ["_law_thing"] (F__law_same n)
  | 0 => ⟨B.d__law_same.ok (k := 1) sc__law_same (fun _ _ _ _ h => (spM_bad h).elim) (fun _ _ _ _ _ _ _ _ _ h => (spM_bad h).elim), B.g__law_same, B.d__law_same.kp⟩
  | n + 1 => by
    have IH := ok__law_same B n
    exact ⟨fn_ok (k := n + 2) (Tt w K ca) B.d__law_same sc__law_same fun cdv A outer s H E hr tk pw => (s_cons (s_if (t_val (r_isi B.n_isinstance (a_cons (r_var 0) (a_cons (r_ty rfl B.n_dict (by decide +kernel) (by decide +kernel) (by decide +kernel)) a_nil)))) (s_one (s_ret (r_dictT rfl (deepy_of hr) B.n_dict (a_cons (r_lock 0 (r_lc (own := [("_law_key", 2)]) rfl sc__law_same.nd (show BlkOk ["_law_thing", "_law_item", "_law_key"] (defScope s__law_same) _ [("_law_key", 2)] from ⟨rfl, by decide +kernel, by decide +kernel, by decide +kernel, by decide +kernel⟩) (i_keysT (r_var 0)) tg_name (bName_in (by decide)) (fun _ _ _ _ _ => (pg_name (i := 2) sc__law_same.nd rfl (by first | exact Or.inl rfl | exact Or.inr rfl))) (fun _ _ _ _ _ => ts_nil) (fun _ _ _ _ _ => (r_tup (a_cons (r_var 2) (a_cons (r_call (pur_def IH) (hr.mono (by omega)) (bi__law_same B) takes_none5 (a_cons (r_dgetT (deepy_of hr) (r_var 0) (r_var 2)) a_nil)) a_nil)))))) a_nil)))) s_nil) (s_cons (s_if (t_val (r_isi B.n_isinstance (a_cons (r_var 0) (a_cons (r_ty rfl B.n_list (by decide +kernel) (by decide +kernel) (by decide +kernel)) a_nil)))) (s_one (s_ret (r_lc (own := [("_law_item", 1)]) rfl sc__law_same.nd (show BlkOk ["_law_thing", "_law_item", "_law_key"] (defScope s__law_same) _ [("_law_item", 1)] from ⟨rfl, by decide +kernel, by decide +kernel, by decide +kernel, by decide +kernel⟩) (i_any (r_var 0)) tg_name (bName_in (by decide)) (fun _ _ _ _ _ => (pg_name (i := 1) sc__law_same.nd rfl (by first | exact Or.inl rfl | exact Or.inr rfl))) (fun _ _ _ _ _ => ts_nil) (fun _ _ _ _ _ => (r_call (pur_def IH) (hr.mono (by omega)) (bi__law_same B) takes_none5 (a_cons (r_var 1) a_nil)))))) s_nil) (s_one (s_ret (r_if (t_val (r_isi B.n_isinstance (a_cons (r_var 0) (a_cons (r_ty rfl B.n_tuple (by decide +kernel) (by decide +kernel) (by decide +kernel)) a_nil)))) (r_tuple B.n_tuple (a_cons (r_lc (own := [("_law_item", 1)]) rfl sc__law_same.nd (show BlkOk ["_law_thing", "_law_item", "_law_key"] (defScope s__law_same) _ [("_law_item", 1)] from ⟨rfl, by decide +kernel, by decide +kernel, by decide +kernel, by decide +kernel⟩) (i_any (r_var 0)) tg_name (bName_in (by decide)) (fun _ _ _ _ _ => (pg_name (i := 1) sc__law_same.nd rfl (by first | exact Or.inl rfl | exact Or.inr rfl))) (fun _ _ _ _ _ => ts_nil) (fun _ _ _ _ _ => (r_call (pur_def IH) (hr.mono (by omega)) (bi__law_same B) takes_none5 (a_cons (r_var 1) a_nil)))) a_nil)) (r_var 0)))))), B.g__law_same, B.d__law_same.kp⟩
/-! ### _law_exact -/
theorem sc__law_exact : FnScope ["_law_one", "_law_other", "_law_alike", "_law_key", "_law_a", "_law_b"] ["_law_one", "_law_other"] (defScope s__law_exact) := ⟨rfl, rfl, rfl, by decide +kernel, rfl, by decide +kernel, by decide +kernel⟩
def FB__law_exact (F : Fn) : SM := mSeq (mIfS (mCall isiF (mCons (mV 0) (mCons (mTup (mCons (mC (.ty "list")) (mCons (mC (.ty "tuple")) (mNil)))) (mNil)))) (mSeq (mSet 2 (mAnd (mOp2 eqD (mCall isiF (mCons (mV 1) (mCons (mC (.ty "list")) (mNil)))) (mCall isiF (mCons (mV 0) (mCons (mC (.ty "list")) (mNil))))) (mOp2 eqD (mCall isiF (mCons (mV 1) (mCons (mC (.ty "tuple")) (mNil)))) (mCall isiF (mCons (mV 0) (mCons (mC (.ty "tuple")) (mNil))))))) (mRet (mAnd (mV 2) (mAnd (mOp2 eqD (mCall lenF (mCons (mV 0) (mNil))) (mCall lenF (mCons (mV 1) (mNil)))) (mCall allF (mCons (mLc (mZip (mCons (mV 0) (mCons (mV 1) (mNil)))) (bTup [4, 5]) (mTrue) (mOwn (pur F) [] (mCons (mV 4) (mCons (mV 5) (mNil)))) [4, 5]) (mNil))))))) (mNx)) (mSeq (mIfS (mCall isiF (mCons (mV 0) (mCons (mC (.ty "dict")) (mNil)))) (mSeq (mSet 2 (mAnd (mCall isiF (mCons (mV 1) (mCons (mC (.ty "dict")) (mNil)))) (mOwn (pur F) [] (mCons (mCall listTF (mCons (mV 0) (mNil))) (mCons (mCall listTF (mCons (mV 1) (mNil))) (mNil)))))) (mRet (mAnd (mV 2) (mCall allF (mCons (mLock 0 (mLc (mKeysT (mV 0)) (bName 3) (mTrue) (mOwn (pur F) [] (mCons (mOp2 dgetTD (mV 0) (mV 3)) (mCons (mOp2 dgetTD (mV 1) (mV 3)) (mNil)))) [3])) (mNil)))))) (mNx)) (mRet (mAnd (mOp2 eqD (mCall isiF (mCons (mV 0) (mCons (mC (.ty "bool")) (mNil)))) (mCall isiF (mCons (mV 1) (mCons (mC (.ty "bool")) (mNil))))) (mOp2 eqD (mV 0) (mV 1)))))
def F__law_exact : Nat → Fn
  | 0 => fun _ _ => .bad
  | n + 1 => runB 2 6 (FB__law_exact (F__law_exact n))
theorem bi__law_exact (B : Bas P K mg ca fa fd) : Binds K (fd 12) ["_law_one", "_law_other"] [] := B.d__law_exact.bindsN (ps := ["_law_one", "_law_other"]) fun _ _ _ _ _ _ us hl => match us, hl with | [_, _], _ => rfl
theorem ok__law_exact (B : Bas P K mg ca fa fd) : ∀ n : Nat, Def P w K mg base (Tt w K ca) (n + 2) "_law_exact" (fa 12) (fd 12) ["_law_one", "_law_other"] (F__law_exact n)
  | 0 => ⟨B.d__law_exact.ok (k := 1) sc__law_exact (fun _ _ _ _ h => (spM_bad h).elim) (fun _ _ _ _ _ _ _ _ _ h => (spM_bad h).elim), B.g__law_exact, B.d__law_exact.kp⟩
  | n + 1 => by
    have IH := ok__law_exact B n
    exact ⟨fn_ok (k := n + 2) (Tt w K ca) B.d__law_exact sc__law_exact fun cdv A outer s H E hr tk pw => (s_cons (s_if (t_val (r_isi B.n_isinstance (a_cons (r_var 0) (a_cons (r_tup (a_cons (r_ty rfl B.n_list (by decide +kernel) (by decide +kernel) (by decide +kernel)) (a_cons (r_ty rfl B.n_tuple (by decide +kernel) (by decide +kernel) (by decide +kernel)) a_nil))) a_nil)))) (s_cons (s_set 2 sc__law_exact.nd (r_and (r_eq (deepy_of hr) (r_isi B.n_isinstance (a_cons (r_var 1) (a_cons (r_ty rfl B.n_list (by decide +kernel) (by decide +kernel) (by decide +kernel)) a_nil))) (r_isi B.n_isinstance (a_cons (r_var 0) (a_cons (r_ty rfl B.n_list (by decide +kernel) (by decide +kernel) (by decide +kernel)) a_nil)))) (r_one (r_eq (deepy_of hr) (r_isi B.n_isinstance (a_cons (r_var 1) (a_cons (r_ty rfl B.n_tuple (by decide +kernel) (by decide +kernel) (by decide +kernel)) a_nil))) (r_isi B.n_isinstance (a_cons (r_var 0) (a_cons (r_ty rfl B.n_tuple (by decide +kernel) (by decide +kernel) (by decide +kernel)) a_nil))))))) (s_one (s_ret (r_and (r_var 2) (r_and (r_eq (deepy_of hr) (r_len B.n_len (a_cons (r_var 0) a_nil)) (r_len B.n_len (a_cons (r_var 1) a_nil))) (r_one (r_all rfl B.n_all (a_cons (r_lc (own := [("_law_a", 4), ("_law_b", 5)]) rfl sc__law_exact.nd (show BlkOk ["_law_one", "_law_other", "_law_alike", "_law_key", "_law_a", "_law_b"] (defScope s__law_exact) _ [("_law_a", 4), ("_law_b", 5)] from ⟨rfl, by decide +kernel, by decide +kernel, by decide +kernel, by decide +kernel⟩) (i_zip B.n_zip (a_cons (r_var 0) (a_cons (r_var 1) a_nil))) (tg_tup (is := [4, 5])) (bTup_in (by decide)) (fun _ _ _ _ _ => (pg_tup rfl (pgs_cons (pg_name (i := 4) sc__law_exact.nd rfl (by first | exact Or.inl rfl | exact Or.inr rfl)) (pgs_cons (pg_name (i := 5) sc__law_exact.nd rfl (by first | exact Or.inl rfl | exact Or.inr rfl)) pgs_nil)))) (fun _ _ _ _ _ => ts_nil) (fun _ _ _ _ _ => (r_call (pur_def IH) (hr.mono (by omega)) (bi__law_exact B) takes_none5 (a_cons (r_var 4) (a_cons (r_var 5) a_nil))))) a_nil)))))))) s_nil) (s_cons (s_if (t_val (r_isi B.n_isinstance (a_cons (r_var 0) (a_cons (r_ty rfl B.n_dict (by decide +kernel) (by decide +kernel) (by decide +kernel)) a_nil)))) (s_cons (s_set 2 sc__law_exact.nd (r_and (r_isi B.n_isinstance (a_cons (r_var 1) (a_cons (r_ty rfl B.n_dict (by decide +kernel) (by decide +kernel) (by decide +kernel)) a_nil))) (r_one (r_call (pur_def IH) (hr.mono (by omega)) (bi__law_exact B) tk (a_cons (r_listT rfl B.n_list (a_cons (r_var 0) a_nil)) (a_cons (r_listT rfl B.n_list (a_cons (r_var 1) a_nil)) a_nil)))))) (s_one (s_ret (r_and (r_var 2) (r_one (r_all rfl B.n_all (a_cons (r_lock 0 (r_lc (own := [("_law_key", 3)]) rfl sc__law_exact.nd (show BlkOk ["_law_one", "_law_other", "_law_alike", "_law_key", "_law_a", "_law_b"] (defScope s__law_exact) _ [("_law_key", 3)] from ⟨rfl, by decide +kernel, by decide +kernel, by decide +kernel, by decide +kernel⟩) (i_keysT (r_var 0)) tg_name (bName_in (by decide)) (fun _ _ _ _ _ => (pg_name (i := 3) sc__law_exact.nd rfl (by first | exact Or.inl rfl | exact Or.inr rfl))) (fun _ _ _ _ _ => ts_nil) (fun _ _ _ _ _ => (r_call (pur_def IH) (hr.mono (by omega)) (bi__law_exact B) takes_none5 (a_cons (r_dgetT (deepy_of hr) (r_var 0) (r_var 3)) (a_cons (r_dgetT (deepy_of hr) (r_var 1) (r_var 3)) a_nil)))))) a_nil))))))) s_nil) (s_one (s_ret (r_and (r_eq (deepy_of hr) (r_isi B.n_isinstance (a_cons (r_var 0) (a_cons (r_ty rfl B.n_bool (by decide +kernel) (by decide +kernel) (by decide +kernel)) a_nil))) (r_isi B.n_isinstance (a_cons (r_var 1) (a_cons (r_ty rfl B.n_bool (by decide +kernel) (by decide +kernel) (by decide +kernel)) a_nil)))) (r_one (r_eq (deepy_of hr) (r_var 0) (r_var 1)))))))), B.g__law_exact, B.d__law_exact.kp⟩
/-! ### _law_word -/
theorem sc__law_word : FnScope ["_law_purse_here", "_law_size", "_law_turn"] ["_law_purse_here"] (defScope s__law_word) := ⟨rfl, rfl, rfl, by decide +kernel, rfl, by decide +kernel, by decide +kernel⟩
def FB__law_word : SM := mSeq (mSet 1 (mOp2 addD (mC (.int 1)) (mOwn (pur F__law_draw) [] (mCons (mV 0) (mCons (mIf (mOp2 eqD (mOwn (pur F__law_draw) [] (mCons (mV 0) (mCons (mC (.int 3)) (mNil)))) (mC (.int 0))) (mC (.int 8)) (mC (.int 3))) (mNil)))))) (mRet (mMeth "str" joinG (mC (.str "")) (mCons (mLc (mRange1 (mCons (mV 1) (mNil))) (bName 2) (mTrue) (mOp2 ixD (mC (.str "abcdefghijklmnopqrstuvwxyz")) (mOwn (pur F__law_draw) [] (mCons (mV 0) (mCons (mC (.int 26)) (mNil))))) [2]) (mNil))))
def F__law_word : Fn := runB 1 3 FB__law_word
theorem bi__law_word (B : Bas P K mg ca fa fd) : Binds K (fd 13) ["_law_purse_here"] [] := B.d__law_word.bindsN (ps := ["_law_purse_here"]) fun _ _ _ _ _ _ us hl => match us, hl with | [_], _ => rfl
theorem ok__law_word (B : Bas P K mg ca fa fd) : Def P w K mg base (Tt w K ca) 4 "_law_word" (fa 13) (fd 13) ["_law_purse_here"] F__law_word := by
  exact ⟨fn_ok (k := 3) (Tt w K ca) B.d__law_word sc__law_word fun cdv A outer s H E hr tk pw => (s_cons (s_set 1 sc__law_word.nd (r_add r_int (r_call (pur_def (ok__law_draw B)) (hr.mono (by decide)) (bi__law_draw B) tk (a_cons (r_var 0) (a_cons (r_if (t_eq (deepy_of hr) (r_call (pur_def (ok__law_draw B)) (hr.mono (by decide)) (bi__law_draw B) tk (a_cons (r_var 0) (a_cons r_int a_nil))) r_int) r_int r_int) a_nil))))) (s_one (s_ret (r_join r_str (a_cons (r_lc (own := [("_law_turn", 2)]) rfl sc__law_word.nd (show BlkOk ["_law_purse_here", "_law_size", "_law_turn"] (defScope s__law_word) _ [("_law_turn", 2)] from ⟨rfl, by decide +kernel, by decide +kernel, by decide +kernel, by decide +kernel⟩) (i_range1 B.n_range (a_cons (r_var 1) a_nil)) tg_name (bName_in (by decide)) (fun _ _ _ _ _ => (pg_name (i := 2) sc__law_word.nd rfl (by first | exact Or.inl rfl | exact Or.inr rfl))) (fun _ _ _ _ _ => ts_nil) (fun _ _ _ _ _ => (r_ix r_str (r_call (pur_def (ok__law_draw B)) (hr.mono (by decide)) (bi__law_draw B) takes_none5 (a_cons (r_var 0) (a_cons r_int a_nil)))))) a_nil))))), B.g__law_word, B.d__law_word.kp⟩
/-! ### _law_words -/
theorem sc__law_words : FnScope ["_law_purse_here", "_law_many", "_law_turn", "_law_base", "_law_near", "_law_spot", "_law_found", "_law_word_here", "_law_letter"] ["_law_purse_here", "_law_many"] (defScope s__law_words) := ⟨rfl, rfl, rfl, by decide +kernel, rfl, by decide +kernel, by decide +kernel⟩
def FB__law_words : SM := mSeq (mPar 3 4 (mCons (mOwn (pur F__law_word) [] (mCons (mV 0) (mNil))) (mCons (mOp2 eqD (mOwn (pur F__law_draw) [] (mCons (mV 0) (mCons (mC (.int 3)) (mNil)))) (mC (.int 0))) (mNil)))) (mSeq (mAsg (bTup [5, 6]) (mTup (mCons (mOwn (pur F__law_draw) [] (mCons (mV 0) (mCons (mCall lenF (mCons (mV 3) (mNil))) (mNil)))) (mCons (mLst (mNil)) (mNil))))) (mSeq (mFor (mRange1 (mCons (mV 1) (mNil))) (bName 2) (mSeq (mSet 7 (mOp2 addD (mOp2 addD (mSlice (mV 3) mNoPart (mPart (mV 5))) (mOp2 ixD (mC (.str "abcdefghijklmnopqrstuvwxyz")) (mOwn (pur F__law_draw) [] (mCons (mV 0) (mCons (mC (.int 26)) (mNil)))))) (mSlice (mV 3) (mPart (mOp2 addD (mV 5) (mC (.int 1)))) mNoPart))) (mSeq (mIfS (mNot (mV 4)) (mSet 7 (mOwn (pur F__law_word) [] (mCons (mV 0) (mNil)))) (mNx)) (mSeq (mIfS (mOp2 inD (mV 7) (mV 6)) (mSet 7 (mOp2 ixD (mLc (mIter (mCall listSF (mCons (mC (.str "abcdefghijklmnopqrstuvwxyz")) (mNil)))) (bName 8) (mOp2 notinD (mV 8) (mV 6)) (mV 8) [8]) (mC (.int 0)))) (mNx)) (mExp (mMeth "list" appendG (mV 6) (mCons (mV 7) (mNil)))))))) (mRet (mV 6))))
def F__law_words : Fn := runB 2 9 FB__law_words
theorem bi__law_words (B : Bas P K mg ca fa fd) : Binds K (fd 14) ["_law_purse_here", "_law_many"] [] := B.d__law_words.bindsN (ps := ["_law_purse_here", "_law_many"]) fun _ _ _ _ _ _ us hl => match us, hl with | [_, _], _ => rfl
theorem ok__law_words (B : Bas P K mg ca fa fd) : Def P w K mg base (Tt w K ca) 5 "_law_words" (fa 14) (fd 14) ["_law_purse_here", "_law_many"] F__law_words := by
  exact ⟨fn_ok (k := 4) (Tt w K ca) B.d__law_words sc__law_words fun cdv A outer s H E hr tk pw => (s_cons (s_par 3 4 rfl sc__law_words.nd (a_cons (r_call (pur_def (ok__law_word B)) (hr.mono (by decide)) (bi__law_word B) tk (a_cons (r_var 0) a_nil)) (a_cons (r_eq (deepy_of hr) (r_call (pur_def (ok__law_draw B)) (hr.mono (by decide)) (bi__law_draw B) tk (a_cons (r_var 0) (a_cons r_int a_nil))) r_int) a_nil))) (s_cons (s_asg (r_tup (a_cons (r_call (pur_def (ok__law_draw B)) (hr.mono (by decide)) (bi__law_draw B) tk (a_cons (r_var 0) (a_cons (r_len B.n_len (a_cons (r_var 3) a_nil)) a_nil))) (a_cons (r_lst a_nil) a_nil))) (pg_tup rfl (pgs_cons (pg_name (i := 5) sc__law_words.nd rfl (by first | exact Or.inl rfl | exact Or.inr rfl)) (pgs_cons (pg_name (i := 6) sc__law_words.nd rfl (by first | exact Or.inl rfl | exact Or.inr rfl)) pgs_nil))) (tg_tup (is := [5, 6]))) (s_cons (s_for pw rfl (i_range1 B.n_range (a_cons (r_var 1) a_nil)) (pg_name (i := 2) sc__law_words.nd rfl (by first | exact Or.inl rfl | exact Or.inr rfl)) tg_name (s_cons (s_set 7 sc__law_words.nd (r_add (r_add (r_slice (r_var 3) o_none (o_some (r_var 5))) (r_ix r_str (r_call (pur_def (ok__law_draw B)) (hr.mono (by decide)) (bi__law_draw B) tk (a_cons (r_var 0) (a_cons r_int a_nil))))) (r_slice (r_var 3) (o_some (r_add (r_var 5) r_int)) o_none))) (s_cons (s_if (t_not (t_val (r_var 4))) (s_one (s_set 7 sc__law_words.nd (r_call (pur_def (ok__law_word B)) (hr.mono (by decide)) (bi__law_word B) tk (a_cons (r_var 0) a_nil)))) s_nil) (s_cons (s_if (t_in (deepy_of hr) (r_var 7) (r_var 6)) (s_one (s_set 7 sc__law_words.nd (r_ix (r_lc (own := [("_law_letter", 8)]) rfl sc__law_words.nd (show BlkOk ["_law_purse_here", "_law_many", "_law_turn", "_law_base", "_law_near", "_law_spot", "_law_found", "_law_word_here", "_law_letter"] (defScope s__law_words) _ [("_law_letter", 8)] from ⟨rfl, by decide +kernel, by decide +kernel, by decide +kernel, by decide +kernel⟩) (i_any (r_listS rfl B.n_list (a_cons r_str a_nil))) tg_name (bName_in (by decide)) (fun _ _ _ _ _ => (pg_name (i := 8) sc__law_words.nd rfl (by first | exact Or.inl rfl | exact Or.inr rfl))) (fun _ _ _ _ _ => (ts_one (t_notin (deepy_of hr) (r_var 8) (r_var 6)))) (fun _ _ _ _ _ => (r_var 8))) r_int))) s_nil) (s_one (s_exp (r_append (r_var 6) (a_cons (r_var 7) a_nil)))))))) (s_one (s_ret (r_var 6)))))), B.g__law_words, B.d__law_words.kp⟩
end
end K80

namespace K80
open PySem PySem.Spec L2 MR
open PyProof.Rows (envOfC)
section
variable {P : Program} {w : World} {K : PySem.W.Frag} {mg : Str → Option Value} {base : Heap} {ca : Str → Addr} {fa : Nat → Addr} {fd : Nat → FuncData}
/-! ### _law_is -/
theorem sc__law_is : FnScope ["_law_told", "_law_word_here", "_law_thing", "_law_same_here"] ["_law_told", "_law_word_here", "_law_thing"] (defScope s__law_is) := ⟨rfl, rfl, rfl, by decide +kernel, rfl, by decide +kernel, by decide +kernel⟩
def FB__law_is : SM := mSeq (mIfS (mOr (mOp2 neD (mOp2 ixD (mV 0) (mC (.int 0))) (mV 1)) (mOr (mOp2 neD (mCall isiF (mCons (mOp2 ixD (mV 0) (mC (.int 1))) (mCons (mC (.ty "bool")) (mNil)))) (mCall isiF (mCons (mV 2) (mCons (mC (.ty "bool")) (mNil))))) (mOp2 neX (mOp2 ixD (mV 0) (mC (.int 1))) (mV 2)))) (mRet (mC (.bl false))) (mNx)) (mSeq (mIfS (mCall isiF (mCons (mV 2) (mCons (mC (.ty "list")) (mNil)))) (mSeq (mExp (mMeth "list" appendG (mV 2) (mCons (mC (.str "told")) (mNil)))) (mSeq (mSet 3 (mOp2 eqX (mOp2 ixD (mV 0) (mC (.int 1))) (mV 2))) (mSeq (mExp (mMeth "list" popG (mV 2) mNil)) (mRet (mV 3))))) (mNx)) (mSeq (mIfS (mCall isiF (mCons (mV 2) (mCons (mC (.ty "dict")) (mNil)))) (mSeq (mPutT (mV 2) (mC (.str "told")) (mC .non)) (mSeq (mSet 3 (mOp2 eqX (mOp2 ixD (mV 0) (mC (.int 1))) (mV 2))) (mSeq (mExp (mPopT (mV 2) (mCons (mC (.str "told")) (mNil)))) (mRet (mV 3))))) (mNx)) (mRet (mC (.bl true)))))
def F__law_is : Fn := runB 3 4 FB__law_is
theorem bi__law_is (B : Bas P K mg ca fa fd) : Binds K (fd 15) ["_law_told", "_law_word_here", "_law_thing"] [] := B.d__law_is.bindsN (ps := ["_law_told", "_law_word_here", "_law_thing"]) fun _ _ _ _ _ _ us hl => match us, hl with | [_, _, _], _ => rfl
theorem ok__law_is (B : Bas P K mg ca fa fd) : Def P w K mg base (Tt w K ca) 2 "_law_is" (fa 15) (fd 15) ["_law_told", "_law_word_here", "_law_thing"] F__law_is := by
  exact ⟨fn_ok (k := 1) (Tt w K ca) B.d__law_is sc__law_is fun cdv A outer s H E hr tk pw => (s_cons (s_if (PW.pt (w_or (t_ne (deepy_of hr) (r_ix (r_var 0) r_int) (r_var 1)) (w_or (t_ne (deepy_of hr) (r_isi B.n_isinstance (a_cons (r_ix (r_var 0) r_int) (a_cons (r_ty rfl B.n_bool (by decide +kernel) (by decide +kernel) (by decide +kernel)) a_nil))) (r_isi B.n_isinstance (a_cons (r_var 2) (a_cons (r_ty rfl B.n_bool (by decide +kernel) (by decide +kernel) (by decide +kernel)) a_nil)))) (w_one (t_neX (deepy_of hr) (r_ix (r_var 0) r_int) (r_var 2)))))) (s_one (s_ret r_bl)) s_nil) (s_cons (s_if (t_val (r_isi B.n_isinstance (a_cons (r_var 2) (a_cons (r_ty rfl B.n_list (by decide +kernel) (by decide +kernel) (by decide +kernel)) a_nil)))) (s_cons (s_exp (r_append (r_var 2) (a_cons r_str a_nil))) (s_cons (s_set 3 sc__law_is.nd (r_eqX (deepy_of hr) (r_ix (r_var 0) r_int) (r_var 2))) (s_cons (s_exp (r_pop0 (r_var 2))) (s_one (s_ret (r_var 3)))))) s_nil) (s_cons (s_if (t_val (r_isi B.n_isinstance (a_cons (r_var 2) (a_cons (r_ty rfl B.n_dict (by decide +kernel) (by decide +kernel) (by decide +kernel)) a_nil)))) (s_cons (s_putT (deepy_of hr) (r_var 2) r_str r_non) (s_cons (s_set 3 sc__law_is.nd (r_eqX (deepy_of hr) (r_ix (r_var 0) r_int) (r_var 2))) (s_cons (s_exp (r_popT (deepy_of hr) (r_var 2) (a_cons r_str a_nil))) (s_one (s_ret (r_var 3)))))) s_nil) (s_one (s_ret r_bl))))), B.g__law_is, B.d__law_is.kp⟩
/-! ### _law_made -/
theorem sc__law_made : FnScope ["_law_book", "_law_steps", "_law_step", "_law_made_here", "_law_at"] ["_law_book", "_law_steps"] (defScope s__law_made) := ⟨rfl, rfl, rfl, by decide +kernel, rfl, by decide +kernel, by decide +kernel⟩
def FB__law_made : SM := mSeq (mPar 3 4 (mCons (mLst (mNil)) (mCons (mC (.int 0)) (mNil)))) (mSeq (mFor (mIter (mV 1)) (bName 2) (mSeq (mIfS (mOp2 inD (mOp2 ixD (mV 2) (mC (.int 0))) (mTup (mCons (mC (.str "exchange")) (mCons (mC (.str "put")) (mNil))))) (mExp (mMeth "list" appendG (mV 3) (mCons (mOp2 ixD (mV 2) (mC (.int 1))) (mNil)))) (mNx)) (mIfS (mOp2 neD (mOp2 ixD (mV 2) (mC (.int 0))) (mC (.str "put"))) (mSeq (mIfS (mOr (mOp2 eqD (mV 4) (mCall lenF (mCons (mV 0) (mNil)))) (mOp2 eqD (mV 2) (mTup (mCons (mC (.str "exchange")) (mCons (mOp2 ixD (mV 0) (mV 4)) (mNil)))))) (mRet (mC .non)) (mNx)) (mSeq (mSet 3 (mOp2 addD (mV 3) (mOp2 mulD (mLst (mCons (mOp2 ixD (mV 0) (mV 4)) (mNil))) (mCall intF (mCons (mOp2 eqD (mOp2 ixD (mV 2) (mC (.int 0))) (mC (.str "keep"))) (mNil)))))) (mSet 4 (mOp2 addD (mV 4) (mC (.int 1)))))) (mNx)))) (mRet (mIf (mOp2 eqD (mV 4) (mCall lenF (mCons (mV 0) (mNil)))) (mV 3) (mC .non))))
def F__law_made : Fn := runB 2 5 FB__law_made
theorem bi__law_made (B : Bas P K mg ca fa fd) : Binds K (fd 16) ["_law_book", "_law_steps"] [] := B.d__law_made.bindsN (ps := ["_law_book", "_law_steps"]) fun _ _ _ _ _ _ us hl => match us, hl with | [_, _], _ => rfl
theorem ok__law_made (B : Bas P K mg ca fa fd) : Def P w K mg base (Tt w K ca) 2 "_law_made" (fa 16) (fd 16) ["_law_book", "_law_steps"] F__law_made := by
  exact ⟨fn_ok (k := 1) (Tt w K ca) B.d__law_made sc__law_made fun cdv A outer s H E hr tk pw => (s_cons (s_par 3 4 rfl sc__law_made.nd (a_cons (r_lst a_nil) (a_cons r_int a_nil))) (s_cons (s_for pw rfl (i_any (r_var 1)) (pg_name (i := 2) sc__law_made.nd rfl (by first | exact Or.inl rfl | exact Or.inr rfl)) tg_name (s_cons (s_if (t_in (deepy_of hr) (r_ix (r_var 2) r_int) (r_tup (a_cons r_str (a_cons r_str a_nil)))) (s_one (s_exp (r_append (r_var 3) (a_cons (r_ix (r_var 2) r_int) a_nil)))) s_nil) (s_one (s_if (t_ne (deepy_of hr) (r_ix (r_var 2) r_int) r_str) (s_cons (s_if (PW.pt (w_or (t_eq (deepy_of hr) (r_var 4) (r_len B.n_len (a_cons (r_var 0) a_nil))) (w_one (t_eq (deepy_of hr) (r_var 2) (r_tup (a_cons r_str (a_cons (r_ix (r_var 0) (r_var 4)) a_nil))))))) (s_one (s_ret r_non)) s_nil) (s_cons (s_set 3 sc__law_made.nd (r_add (r_var 3) (r_mul (r_lst (a_cons (r_ix (r_var 0) (r_var 4)) a_nil)) (r_intc B.n_int (a_cons (r_eq (deepy_of hr) (r_ix (r_var 2) r_int) r_str) a_nil))))) (s_one (s_set 4 sc__law_made.nd (r_add (r_var 4) r_int))))) s_nil)))) (s_one (s_ret (r_if (t_eq (deepy_of hr) (r_var 4) (r_len B.n_len (a_cons (r_var 0) a_nil))) (r_var 3) r_non))))), B.g__law_made, B.d__law_made.kp⟩
/-! ### _law_are_steps -/
theorem sc__law_are_steps : FnScope ["_law_value", "_law_step", "_law_part"] ["_law_value"] (defScope s__law_are_steps) := ⟨rfl, rfl, rfl, by decide +kernel, rfl, by decide +kernel, by decide +kernel⟩
def FB__law_are_steps : SM := mSeq (mIfS (mNot (mCall isiF (mCons (mV 0) (mCons (mC (.ty "list")) (mNil))))) (mRet (mC (.bl false))) (mNx)) (mSeq (mFor (mIter (mV 0)) (bName 1) (mSeq (mIfS (mOr (mNot (mCall isiF (mCons (mV 1) (mCons (mC (.ty "tuple")) (mNil))))) (mOp2 notinTD (mSlice (mV 1) mNoPart (mPart (mC (.int 1)))) (mTup (mCons (mTup (mCons (mC (.str "keep")) (mNil))) (mCons (mTup (mCons (mC (.str "leave")) (mNil))) (mCons (mTup (mCons (mC (.str "exchange")) (mNil))) (mCons (mTup (mCons (mC (.str "put")) (mNil))) (mNil)))))))) (mRet (mC (.bl false))) (mNx)) (mIfS (mOr (mOp2 neD (mCall lenF (mCons (mV 1) (mNil))) (mOp2 addD (mC (.int 1)) (mCall intF (mCons (mOp2 inD (mOp2 ixD (mV 1) (mC (.int 0))) (mTup (mCons (mC (.str "exchange")) (mCons (mC (.str "put")) (mNil))))) (mNil))))) (mNot (mCall allF (mCons (mLc (mIter (mV 1)) (bName 2) (mTrue) (mCall isiF (mCons (mV 2) (mCons (mC (.ty "str")) (mNil)))) [2]) (mNil))))) (mRet (mC (.bl false))) (mNx)))) (mRet (mC (.bl true))))
def F__law_are_steps : Fn := runB 1 3 FB__law_are_steps
theorem bi__law_are_steps (B : Bas P K mg ca fa fd) : Binds K (fd 17) ["_law_value"] [] := B.d__law_are_steps.bindsN (ps := ["_law_value"]) fun _ _ _ _ _ _ us hl => match us, hl with | [_], _ => rfl
theorem ok__law_are_steps (B : Bas P K mg ca fa fd) : Def P w K mg base (Tt w K ca) 2 "_law_are_steps" (fa 17) (fd 17) ["_law_value"] F__law_are_steps := by
  exact ⟨fn_ok (k := 1) (Tt w K ca) B.d__law_are_steps sc__law_are_steps fun cdv A outer s H E hr tk pw => (s_cons (s_if (t_not (t_val (r_isi B.n_isinstance (a_cons (r_var 0) (a_cons (r_ty rfl B.n_list (by decide +kernel) (by decide +kernel) (by decide +kernel)) a_nil))))) (s_one (s_ret r_bl)) s_nil) (s_cons (s_for pw rfl (i_any (r_var 0)) (pg_name (i := 1) sc__law_are_steps.nd rfl (by first | exact Or.inl rfl | exact Or.inr rfl)) tg_name (s_cons (s_if (PW.pt (w_or (t_not (t_val (r_isi B.n_isinstance (a_cons (r_var 1) (a_cons (r_ty rfl B.n_tuple (by decide +kernel) (by decide +kernel) (by decide +kernel)) a_nil))))) (w_one (t_notinT (deepy_of hr) (r_slice (r_var 1) o_none (o_some r_int)) (r_tup (a_cons (r_tup (a_cons r_str a_nil)) (a_cons (r_tup (a_cons r_str a_nil)) (a_cons (r_tup (a_cons r_str a_nil)) (a_cons (r_tup (a_cons r_str a_nil)) a_nil))))))))) (s_one (s_ret r_bl)) s_nil) (s_one (s_if (PW.pt (w_or (t_ne (deepy_of hr) (r_len B.n_len (a_cons (r_var 1) a_nil)) (r_add r_int (r_intc B.n_int (a_cons (r_in (deepy_of hr) (r_ix (r_var 1) r_int) (r_tup (a_cons r_str (a_cons r_str a_nil)))) a_nil)))) (w_one (t_not (t_val (r_all rfl B.n_all (a_cons (r_lc (own := [("_law_part", 2)]) rfl sc__law_are_steps.nd (show BlkOk ["_law_value", "_law_step", "_law_part"] (defScope s__law_are_steps) _ [("_law_part", 2)] from ⟨rfl, by decide +kernel, by decide +kernel, by decide +kernel, by decide +kernel⟩) (i_any (r_var 1)) tg_name (bName_in (by decide)) (fun _ _ _ _ _ => (pg_name (i := 2) sc__law_are_steps.nd rfl (by first | exact Or.inl rfl | exact Or.inr rfl))) (fun _ _ _ _ _ => ts_nil) (fun _ _ _ _ _ => (r_isi B.n_isinstance (a_cons (r_var 2) (a_cons (r_ty rfl B.n_str (by decide +kernel) (by decide +kernel) (by decide +kernel)) a_nil))))) a_nil))))))) (s_one (s_ret r_bl)) s_nil)))) (s_one (s_ret r_bl)))), B.g__law_are_steps, B.d__law_are_steps.kp⟩
/-! ### _law_drawn_steps -/
theorem sc__law_drawn_steps : FnScope ["_law_purse_here", "_law_words_here", "_law_book", "_law_steps", "_law_job", "_law_turn", "_law_way"] ["_law_purse_here", "_law_words_here", "_law_book"] (defScope s__law_drawn_steps) := ⟨rfl, rfl, rfl, by decide +kernel, rfl, by decide +kernel, by decide +kernel⟩
def FB__law_drawn_steps : SM := mSeq (mSet 3 (mLst (mNil))) (mSeq (mFor (mIter (mOp2 addD (mV 2) (mLst (mCons (mC (.str "")) (mNil))))) (bName 4) (mSeq (mFor (mRange1 (mCons (mOp2 mulD (mOwn (pur F__law_draw) [] (mCons (mV 0) (mCons (mC (.int 3)) (mNil)))) (mOwn (pur F__law_draw) [] (mCons (mV 0) (mCons (mC (.int 2)) (mNil))))) (mNil))) (bName 5) (mExp (mMeth "list" appendG (mV 3) (mCons (mTup (mCons (mC (.str "put")) (mCons (mOwn (pur F__law_one_of) [] (mCons (mV 0) (mCons (mV 1) (mNil)))) (mNil)))) (mNil))))) (mSeq (mSet 6 (mOwn (pur F__law_draw) [] (mCons (mV 0) (mCons (mC (.int 4)) (mNil))))) (mIfS (mOp2 neD (mV 4) (mC (.str ""))) (mExp (mMeth "list" appendG (mV 3) (mCons (mIf (mOp2 eqD (mV 6) (mC (.int 0))) (mTup (mCons (mC (.str "leave")) (mNil))) (mIf (mOp2 eqD (mV 6) (mC (.int 1))) (mTup (mCons (mC (.str "exchange")) (mCons (mOwn (pur F__law_one_of) [] (mCons (mV 0) (mCons (mV 1) (mNil)))) (mNil)))) (mTup (mCons (mC (.str "keep")) (mNil))))) (mNil)))) (mNx))))) (mRet (mV 3)))
def F__law_drawn_steps : Fn := runB 3 7 FB__law_drawn_steps
theorem bi__law_drawn_steps (B : Bas P K mg ca fa fd) : Binds K (fd 18) ["_law_purse_here", "_law_words_here", "_law_book"] [] := B.d__law_drawn_steps.bindsN (ps := ["_law_purse_here", "_law_words_here", "_law_book"]) fun _ _ _ _ _ _ us hl => match us, hl with | [_, _, _], _ => rfl
theorem ok__law_drawn_steps (B : Bas P K mg ca fa fd) : Def P w K mg base (Tt w K ca) 5 "_law_drawn_steps" (fa 18) (fd 18) ["_law_purse_here", "_law_words_here", "_law_book"] F__law_drawn_steps := by
  exact ⟨fn_ok (k := 4) (Tt w K ca) B.d__law_drawn_steps sc__law_drawn_steps fun cdv A outer s H E hr tk pw => (s_cons (s_set 3 sc__law_drawn_steps.nd (r_lst a_nil)) (s_cons (s_for pw rfl (i_any (r_add (r_var 2) (r_lst (a_cons r_str a_nil)))) (pg_name (i := 4) sc__law_drawn_steps.nd rfl (by first | exact Or.inl rfl | exact Or.inr rfl)) tg_name (s_cons (s_for pw rfl (i_range1 B.n_range (a_cons (r_mul (r_call (pur_def (ok__law_draw B)) (hr.mono (by decide)) (bi__law_draw B) tk (a_cons (r_var 0) (a_cons r_int a_nil))) (r_call (pur_def (ok__law_draw B)) (hr.mono (by decide)) (bi__law_draw B) tk (a_cons (r_var 0) (a_cons r_int a_nil)))) a_nil)) (pg_name (i := 5) sc__law_drawn_steps.nd rfl (by first | exact Or.inl rfl | exact Or.inr rfl)) tg_name (s_one (s_exp (r_append (r_var 3) (a_cons (r_tup (a_cons r_str (a_cons (r_call (pur_def (ok__law_one_of B)) (hr.mono (by decide)) (bi__law_one_of B) tk (a_cons (r_var 0) (a_cons (r_var 1) a_nil))) a_nil))) a_nil))))) (s_cons (s_set 6 sc__law_drawn_steps.nd (r_call (pur_def (ok__law_draw B)) (hr.mono (by decide)) (bi__law_draw B) tk (a_cons (r_var 0) (a_cons r_int a_nil)))) (s_one (s_if (t_ne (deepy_of hr) (r_var 4) r_str) (s_one (s_exp (r_append (r_var 3) (a_cons (r_if (t_eq (deepy_of hr) (r_var 6) r_int) (r_tup (a_cons r_str a_nil)) (r_if (t_eq (deepy_of hr) (r_var 6) r_int) (r_tup (a_cons r_str (a_cons (r_call (pur_def (ok__law_one_of B)) (hr.mono (by decide)) (bi__law_one_of B) tk (a_cons (r_var 0) (a_cons (r_var 1) a_nil))) a_nil))) (r_tup (a_cons r_str a_nil)))) a_nil)))) s_nil))))) (s_one (s_ret (r_var 3))))), B.g__law_drawn_steps, B.d__law_drawn_steps.kp⟩
/-! ### _law_bent -/
theorem sc__law_bent : FnScope ["_law_purse_here", "_law_words_here", "_law_book", "_law_steps", "_law_at", "_law_odd", "_law_found", "_law_takes", "_law_step", "_law_spot", "_law_turn", "_law_job"] ["_law_purse_here", "_law_words_here", "_law_book", "_law_steps"] (defScope s__law_bent) := ⟨rfl, rfl, rfl, by decide +kernel, rfl, by decide +kernel, by decide +kernel⟩
def FB__law_bent : SM := mSeq (mSet 4 (mOwn (pur F__law_draw) [] (mCons (mV 0) (mCons (mOp2 addD (mCall lenF (mCons (mV 3) (mNil))) (mC (.int 1))) (mNil))))) (mSeq (mSet 5 (mLst (mCons (mTup (mCons (mC (.str "keep")) (mNil))) (mCons (mTup (mCons (mC (.str "leave")) (mNil))) (mCons (mTup (mCons (mC (.str "put")) (mCons (mC (.str "A")) (mNil)))) (mCons (mTup (mCons (mC (.str "put")) (mCons (mC (.str "")) (mNil)))) (mCons (mTup (mCons (mC (.str "put")) (mCons (mC (.str "toolongword")) (mNil)))) (mCons (mTup (mCons (mC (.str "put")) (mCons (mC (.int 5)) (mNil)))) (mCons (mTup (mCons (mC (.str "put")) (mNil))) (mCons (mTup (mCons (mC (.str "keep")) (mCons (mOp2 ixD (mV 1) (mC (.int 0))) (mNil)))) (mNil))))))))))) (mSeq (mSet 5 (mOp2 addD (mV 5) (mLst (mCons (mTup (mCons (mC (.str "leave")) (mCons (mOp2 ixD (mV 1) (mC (.int 0))) (mNil)))) (mCons (mLst (mCons (mC (.str "keep")) (mNil))) (mCons (mTup (mCons (mC (.str "put")) (mCons (mOp2 ixD (mV 1) (mC (.int 0))) (mCons (mOp2 ixD (mV 1) (mC (.int 0))) (mNil))))) (mCons (mTup (mCons (mC (.str "stay")) (mNil))) (mCons (mTup (mNil)) (mCons (mC .non) (mCons (mC (.int 5)) (mCons (mC (.str "keep")) (mCons (mTup (mCons (mC (.str "exchange")) (mNil))) (mCons (mTup (mCons (mC .non) (mNil))) (mNil)))))))))))))) (mSeq (mSet 5 (mOp2 addD (mV 5) (mLst (mCons (mTup (mCons (mC (.str "exchange")) (mCons (mC (.str "a b")) (mNil)))) (mCons (mTup (mCons (mC (.str "exchange")) (mCons (mLst (mCons (mOp2 ixD (mV 1) (mC (.int 0))) (mNil))) (mNil)))) (mCons (mTup (mCons (mLst (mCons (mC (.str "keep")) (mNil))) (mNil))) (mCons (mTup (mCons (mC (.bl true)) (mNil))) (mCons (mTup (mCons (mC (.str "put")) (mCons (mC (.bl true)) (mNil)))) (mCons (mTup (mCons (mC (.str "put")) (mCons (mOp2 ixD (mV 1) (mC (.int 0))) (mNil)))) (mNil)))))))))) (mSeq (mSet 5 (mOp2 addD (mV 5) (mLst (mCons (mTup (mCons (mC (.str "exchange")) (mCons (mC (.str "A")) (mNil)))) (mCons (mTup (mCons (mC (.str "exchange")) (mCons (mC (.str "")) (mNil)))) (mCons (mTup (mCons (mC (.str "exchange")) (mCons (mC (.int 5)) (mNil)))) (mCons (mTup (mCons (mC (.str "exchange")) (mCons (mOp2 ixD (mV 1) (mC (.int 0))) (mCons (mOp2 ixD (mV 1) (mC (.int 0))) (mNil))))) (mCons (mTup (mCons (mC (.str "exchange")) (mCons (mC (.str "zzzzzzzzz")) (mNil)))) (mNil))))))))) (mSeq (mSet 5 (mOp2 addD (mV 5) (mLst (mCons (mTup (mCons (mC (.str "put")) (mCons (mC (.str "zzzzzzzzz")) (mNil)))) (mCons (mTup (mCons (mC (.str "leave")) (mCons (mC (.int 5)) (mNil)))) (mCons (mTup (mCons (mC (.str "keep")) (mCons (mC (.str "x")) (mNil)))) (mCons (mTup (mCons (mC (.str "keep")) (mCons (mC .non) (mNil)))) (mCons (mTup (mCons (mC (.str "Keep")) (mNil))) (mCons (mTup (mCons (mC (.str "put")) (mCons (mC .non) (mNil)))) (mCons (mTup (mCons (mC (.str "exchange")) (mCons (mC .non) (mNil)))) (mNil))))))))))) (mSeq (mSet 6 (mLc (mRange1 (mCons (mC (.int 5)) (mNil))) (bName 10) (mTrue) (mOp2 addD (mOp2 addD (mSlice (mV 3) mNoPart (mPart (mV 4))) (mLst (mCons (mOwn (pur F__law_one_of) [] (mCons (mV 0) (mCons (mV 5) (mNil)))) (mNil)))) (mSlice (mV 3) (mPart (mV 4)) mNoPart)) [10])) (mSeq (mSet 7 (mLc (mRange1 (mCons (mCall lenF (mCons (mV 3) (mNil))) (mNil))) (bName 9) (mOp2 neD (mOp2 ixD (mOp2 ixD (mV 3) (mV 9)) (mC (.int 0))) (mC (.str "put"))) (mV 9) [9])) (mSeq (mFor (mIter (mOp2 mulD (mV 5) (mCall intF (mCons (mOp2 neD (mV 7) (mLst (mNil))) (mNil))))) (bName 8) (mSeq (mSet 9 (mOwn (pur F__law_one_of) [] (mCons (mV 0) (mCons (mV 7) (mNil))))) (mExp (mMeth "list" appendG (mV 6) (mCons (mOp2 addD (mOp2 addD (mSlice (mV 3) mNoPart (mPart (mV 9))) (mLst (mCons (mV 8) (mNil)))) (mSlice (mV 3) (mPart (mOp2 addD (mV 9) (mC (.int 1)))) mNoPart)) (mNil)))))) (mSeq (mSet 6 (mOp2 addD (mV 6) (mLst (mCons (mOp2 addD (mSlice (mV 3) mNoPart (mPart (mV 4))) (mSlice (mV 3) (mPart (mOp2 addD (mV 4) (mC (.int 1)))) mNoPart)) (mCons (mOp2 addD (mV 3) (mV 3)) (mCons (mRev (mV 3)) (mCons (mLc (mIter (mV 3)) (bName 8) (mTrue) (mCall listF (mCons (mV 8) (mNil))) [8]) (mNil)))))))) (mSeq (mSet 6 (mOp2 addD (mV 6) (mLst (mCons (mLc (mIter (mV 2)) (bName 11) (mTrue) (mTup (mCons (mC (.str "exchange")) (mCons (mV 11) (mNil)))) [11]) (mCons (mOp2 mulD (mLst (mCons (mTup (mCons (mC (.str "keep")) (mNil))) (mNil))) (mCall lenF (mCons (mV 2) (mNil)))) (mCons (mOp2 mulD (mLst (mCons (mTup (mCons (mC (.str "leave")) (mNil))) (mNil))) (mCall lenF (mCons (mV 2) (mNil)))) (mCons (mLst (mNil)) (mNil)))))))) (mRet (mV 6))))))))))))
def F__law_bent : Fn := runB 4 12 FB__law_bent
theorem bi__law_bent (B : Bas P K mg ca fa fd) : Binds K (fd 19) ["_law_purse_here", "_law_words_here", "_law_book", "_law_steps"] [] := B.d__law_bent.bindsN (ps := ["_law_purse_here", "_law_words_here", "_law_book", "_law_steps"]) fun _ _ _ _ _ _ us hl => match us, hl with | [_, _, _, _], _ => rfl
theorem ok__law_bent (B : Bas P K mg ca fa fd) : Def P w K mg base (Tt w K ca) 5 "_law_bent" (fa 19) (fd 19) ["_law_purse_here", "_law_words_here", "_law_book", "_law_steps"] F__law_bent := by
  exact ⟨fn_ok (k := 4) (Tt w K ca) B.d__law_bent sc__law_bent fun cdv A outer s H E hr tk pw => (s_cons (s_set 4 sc__law_bent.nd (r_call (pur_def (ok__law_draw B)) (hr.mono (by decide)) (bi__law_draw B) tk (a_cons (r_var 0) (a_cons (r_add (r_len B.n_len (a_cons (r_var 3) a_nil)) r_int) a_nil)))) (s_cons (s_set 5 sc__law_bent.nd (r_lst (a_cons (r_tup (a_cons r_str a_nil)) (a_cons (r_tup (a_cons r_str a_nil)) (a_cons (r_tup (a_cons r_str (a_cons r_str a_nil))) (a_cons (r_tup (a_cons r_str (a_cons r_str a_nil))) (a_cons (r_tup (a_cons r_str (a_cons r_str a_nil))) (a_cons (r_tup (a_cons r_str (a_cons r_int a_nil))) (a_cons (r_tup (a_cons r_str a_nil)) (a_cons (r_tup (a_cons r_str (a_cons (r_ix (r_var 1) r_int) a_nil))) a_nil)))))))))) (s_cons (s_set 5 sc__law_bent.nd (r_add (r_var 5) (r_lst (a_cons (r_tup (a_cons r_str (a_cons (r_ix (r_var 1) r_int) a_nil))) (a_cons (r_lst (a_cons r_str a_nil)) (a_cons (r_tup (a_cons r_str (a_cons (r_ix (r_var 1) r_int) (a_cons (r_ix (r_var 1) r_int) a_nil)))) (a_cons (r_tup (a_cons r_str a_nil)) (a_cons (r_tup a_nil) (a_cons r_non (a_cons r_int (a_cons r_str (a_cons (r_tup (a_cons r_str a_nil)) (a_cons (r_tup (a_cons r_non a_nil)) a_nil))))))))))))) (s_cons (s_set 5 sc__law_bent.nd (r_add (r_var 5) (r_lst (a_cons (r_tup (a_cons r_str (a_cons r_str a_nil))) (a_cons (r_tup (a_cons r_str (a_cons (r_lst (a_cons (r_ix (r_var 1) r_int) a_nil)) a_nil))) (a_cons (r_tup (a_cons (r_lst (a_cons r_str a_nil)) a_nil)) (a_cons (r_tup (a_cons r_bl a_nil)) (a_cons (r_tup (a_cons r_str (a_cons r_bl a_nil))) (a_cons (r_tup (a_cons r_str (a_cons (r_ix (r_var 1) r_int) a_nil))) a_nil))))))))) (s_cons (s_set 5 sc__law_bent.nd (r_add (r_var 5) (r_lst (a_cons (r_tup (a_cons r_str (a_cons r_str a_nil))) (a_cons (r_tup (a_cons r_str (a_cons r_str a_nil))) (a_cons (r_tup (a_cons r_str (a_cons r_int a_nil))) (a_cons (r_tup (a_cons r_str (a_cons (r_ix (r_var 1) r_int) (a_cons (r_ix (r_var 1) r_int) a_nil)))) (a_cons (r_tup (a_cons r_str (a_cons r_str a_nil))) a_nil)))))))) (s_cons (s_set 5 sc__law_bent.nd (r_add (r_var 5) (r_lst (a_cons (r_tup (a_cons r_str (a_cons r_str a_nil))) (a_cons (r_tup (a_cons r_str (a_cons r_int a_nil))) (a_cons (r_tup (a_cons r_str (a_cons r_str a_nil))) (a_cons (r_tup (a_cons r_str (a_cons r_non a_nil))) (a_cons (r_tup (a_cons r_str a_nil)) (a_cons (r_tup (a_cons r_str (a_cons r_non a_nil))) (a_cons (r_tup (a_cons r_str (a_cons r_non a_nil))) a_nil)))))))))) (s_cons (s_setLc (own := [("_law_turn", 10)]) 6 rfl sc__law_bent.nd (show BlkOk ["_law_purse_here", "_law_words_here", "_law_book", "_law_steps", "_law_at", "_law_odd", "_law_found", "_law_takes", "_law_step", "_law_spot", "_law_turn", "_law_job"] (defScope s__law_bent) _ [("_law_turn", 10)] from ⟨rfl, by decide +kernel, by decide +kernel, by decide +kernel, by decide +kernel⟩) (i_range1 B.n_range (a_cons r_int a_nil)) tg_name (bName_in (by decide)) (fun _ _ _ _ _ => (pg_name (i := 10) sc__law_bent.nd rfl (by first | exact Or.inl rfl | exact Or.inr rfl))) (fun _ _ _ _ _ => ts_nil) (fun _ _ _ _ _ => (r_add (r_add (r_slice (r_var 3) o_none (o_some (r_var 4))) (r_lst (a_cons (r_call (pur_def (ok__law_one_of B)) (hr.mono (by decide)) (bi__law_one_of B) takes_none5 (a_cons (r_var 0) (a_cons (r_var 5) a_nil))) a_nil))) (r_slice (r_var 3) (o_some (r_var 4)) o_none))) rfl) (s_cons (s_setLc (own := [("_law_spot", 9)]) 7 rfl sc__law_bent.nd (show BlkOk ["_law_purse_here", "_law_words_here", "_law_book", "_law_steps", "_law_at", "_law_odd", "_law_found", "_law_takes", "_law_step", "_law_spot", "_law_turn", "_law_job"] (defScope s__law_bent) _ [("_law_spot", 9)] from ⟨rfl, by decide +kernel, by decide +kernel, by decide +kernel, by decide +kernel⟩) (i_range1 B.n_range (a_cons (r_len B.n_len (a_cons (r_var 3) a_nil)) a_nil)) tg_name (bName_in (by decide)) (fun _ _ _ _ _ => (pg_name (i := 9) sc__law_bent.nd rfl (by first | exact Or.inl rfl | exact Or.inr rfl))) (fun _ _ _ _ _ => (ts_one (t_ne (deepy_of hr) (r_ix (r_ix (r_var 3) (r_var 9)) r_int) r_str))) (fun _ _ _ _ _ => (r_var 9)) rfl) (s_cons (s_for pw rfl (i_any (r_mul (r_var 5) (r_intc B.n_int (a_cons (r_ne (deepy_of hr) (r_var 7) (r_lst a_nil)) a_nil)))) (pg_name (i := 8) sc__law_bent.nd rfl (by first | exact Or.inl rfl | exact Or.inr rfl)) tg_name (s_cons (s_set 9 sc__law_bent.nd (r_call (pur_def (ok__law_one_of B)) (hr.mono (by decide)) (bi__law_one_of B) tk (a_cons (r_var 0) (a_cons (r_var 7) a_nil)))) (s_one (s_exp (r_append (r_var 6) (a_cons (r_add (r_add (r_slice (r_var 3) o_none (o_some (r_var 9))) (r_lst (a_cons (r_var 8) a_nil))) (r_slice (r_var 3) (o_some (r_add (r_var 9) r_int)) o_none)) a_nil)))))) (s_cons (s_set 6 sc__law_bent.nd (r_add (r_var 6) (r_lst (a_cons (r_add (r_slice (r_var 3) o_none (o_some (r_var 4))) (r_slice (r_var 3) (o_some (r_add (r_var 4) r_int)) o_none)) (a_cons (r_add (r_var 3) (r_var 3)) (a_cons (r_rev (r_var 3)) (a_cons (r_lc (own := [("_law_step", 8)]) rfl sc__law_bent.nd (show BlkOk ["_law_purse_here", "_law_words_here", "_law_book", "_law_steps", "_law_at", "_law_odd", "_law_found", "_law_takes", "_law_step", "_law_spot", "_law_turn", "_law_job"] (defScope s__law_bent) _ [("_law_step", 8)] from ⟨rfl, by decide +kernel, by decide +kernel, by decide +kernel, by decide +kernel⟩) (i_any (r_var 3)) tg_name (bName_in (by decide)) (fun _ _ _ _ _ => (pg_name (i := 8) sc__law_bent.nd rfl (by first | exact Or.inl rfl | exact Or.inr rfl))) (fun _ _ _ _ _ => ts_nil) (fun _ _ _ _ _ => (r_list B.n_list (a_cons (r_var 8) a_nil)))) a_nil))))))) (s_cons (s_set 6 sc__law_bent.nd (r_add (r_var 6) (r_lst (a_cons (r_lc (own := [("_law_job", 11)]) rfl sc__law_bent.nd (show BlkOk ["_law_purse_here", "_law_words_here", "_law_book", "_law_steps", "_law_at", "_law_odd", "_law_found", "_law_takes", "_law_step", "_law_spot", "_law_turn", "_law_job"] (defScope s__law_bent) _ [("_law_job", 11)] from ⟨rfl, by decide +kernel, by decide +kernel, by decide +kernel, by decide +kernel⟩) (i_any (r_var 2)) tg_name (bName_in (by decide)) (fun _ _ _ _ _ => (pg_name (i := 11) sc__law_bent.nd rfl (by first | exact Or.inl rfl | exact Or.inr rfl))) (fun _ _ _ _ _ => ts_nil) (fun _ _ _ _ _ => (r_tup (a_cons r_str (a_cons (r_var 11) a_nil))))) (a_cons (r_mul (r_lst (a_cons (r_tup (a_cons r_str a_nil)) a_nil)) (r_len B.n_len (a_cons (r_var 2) a_nil))) (a_cons (r_mul (r_lst (a_cons (r_tup (a_cons r_str a_nil)) a_nil)) (r_len B.n_len (a_cons (r_var 2) a_nil))) (a_cons (r_lst a_nil) a_nil))))))) (s_one (s_ret (r_var 6)))))))))))))), B.g__law_bent, B.d__law_bent.kp⟩
/-! ### _law_is_word -/
theorem sc__law_is_word : FnScope ["_law_value", "_law_letter"] ["_law_value"] (defScope s__law_is_word) := ⟨rfl, rfl, rfl, by decide +kernel, rfl, by decide +kernel, by decide +kernel⟩
def FB__law_is_word : SM := mRet (mAnd (mCall isiF (mCons (mV 0) (mCons (mC (.ty "str")) (mNil)))) (mAnd (mChain ltD ltD (mC (.int 0)) (mCall lenF (mCons (mV 0) (mNil))) (mC (.int 9))) (mCall allF (mCons (mLc (mIter (mCall listSF (mCons (mV 0) (mNil)))) (bName 1) (mTrue) (mChain leD leD (mC (.str "a")) (mV 1) (mC (.str "z"))) [1]) (mNil)))))
def F__law_is_word : Fn := runB 1 2 FB__law_is_word
theorem bi__law_is_word (B : Bas P K mg ca fa fd) : Binds K (fd 20) ["_law_value"] [] := B.d__law_is_word.bindsN (ps := ["_law_value"]) fun _ _ _ _ _ _ us hl => match us, hl with | [_], _ => rfl
theorem ok__law_is_word (B : Bas P K mg ca fa fd) : Def P w K mg base (Tt w K ca) 2 "_law_is_word" (fa 20) (fd 20) ["_law_value"] F__law_is_word := by
  exact ⟨fn_ok (k := 1) (Tt w K ca) B.d__law_is_word sc__law_is_word fun cdv A outer s H E hr tk pw => (s_one (s_ret (r_and (r_isi B.n_isinstance (a_cons (r_var 0) (a_cons (r_ty rfl B.n_str (by decide +kernel) (by decide +kernel) (by decide +kernel)) a_nil))) (r_and (r_ltlt r_int (r_len B.n_len (a_cons (r_var 0) a_nil)) r_int) (r_one (r_all rfl B.n_all (a_cons (r_lc (own := [("_law_letter", 1)]) rfl sc__law_is_word.nd (show BlkOk ["_law_value", "_law_letter"] (defScope s__law_is_word) _ [("_law_letter", 1)] from ⟨rfl, by decide +kernel, by decide +kernel, by decide +kernel, by decide +kernel⟩) (i_any (r_listS rfl B.n_list (a_cons (r_var 0) a_nil))) tg_name (bName_in (by decide)) (fun _ _ _ _ _ => (pg_name (i := 1) sc__law_is_word.nd rfl (by first | exact Or.inl rfl | exact Or.inr rfl))) (fun _ _ _ _ _ => ts_nil) (fun _ _ _ _ _ => (r_lele r_str (r_var 1) r_str))) a_nil))))))), B.g__law_is_word, B.d__law_is_word.kp⟩
/-! ### _law_due -/
theorem sc__law_due : FnScope ["_law_book", "_law_steps", "_law_step"] ["_law_book", "_law_steps"] (defScope s__law_due) := ⟨rfl, rfl, rfl, by decide +kernel, rfl, by decide +kernel, by decide +kernel⟩
def FB__law_due : SM := mSeq (mIfS (mOr (mNot (mOwn (pur F__law_are_steps) [] (mCons (mV 1) (mNil)))) (mNot (mCall allF (mCons (mLc (mIter (mV 1)) (bName 2) (mOp2 eqD (mCall lenF (mCons (mV 2) (mNil))) (mC (.int 2))) (mOwn (pur F__law_is_word) [] (mCons (mOp2 ixD (mV 2) (mC (.int 1))) (mNil))) [2]) (mNil))))) (mRet (mC .non)) (mNx)) (mRet (mOwn (pur F__law_made) [] (mCons (mV 0) (mCons (mV 1) (mNil)))))
def F__law_due : Fn := runB 2 3 FB__law_due
theorem bi__law_due (B : Bas P K mg ca fa fd) : Binds K (fd 21) ["_law_book", "_law_steps"] [] := B.d__law_due.bindsN (ps := ["_law_book", "_law_steps"]) fun _ _ _ _ _ _ us hl => match us, hl with | [_, _], _ => rfl
theorem ok__law_due (B : Bas P K mg ca fa fd) : Def P w K mg base (Tt w K ca) 3 "_law_due" (fa 21) (fd 21) ["_law_book", "_law_steps"] F__law_due := by
  exact ⟨fn_ok (k := 2) (Tt w K ca) B.d__law_due sc__law_due fun cdv A outer s H E hr tk pw => (s_cons (s_if (PW.pt (w_or (t_not (t_val (r_call (pur_def (ok__law_are_steps B)) (hr.mono (by decide)) (bi__law_are_steps B) tk (a_cons (r_var 1) a_nil)))) (w_one (t_not (t_val (r_all rfl B.n_all (a_cons (r_lc (own := [("_law_step", 2)]) rfl sc__law_due.nd (show BlkOk ["_law_book", "_law_steps", "_law_step"] (defScope s__law_due) _ [("_law_step", 2)] from ⟨rfl, by decide +kernel, by decide +kernel, by decide +kernel, by decide +kernel⟩) (i_any (r_var 1)) tg_name (bName_in (by decide)) (fun _ _ _ _ _ => (pg_name (i := 2) sc__law_due.nd rfl (by first | exact Or.inl rfl | exact Or.inr rfl))) (fun _ _ _ _ _ => (ts_one (t_eq (deepy_of hr) (r_len B.n_len (a_cons (r_var 2) a_nil)) r_int))) (fun _ _ _ _ _ => (r_call (pur_def (ok__law_is_word B)) (hr.mono (by decide)) (bi__law_is_word B) takes_none5 (a_cons (r_ix (r_var 2) r_int) a_nil)))) a_nil))))))) (s_one (s_ret r_non)) s_nil) (s_one (s_ret (r_call (pur_def (ok__law_made B)) (hr.mono (by decide)) (bi__law_made B) tk (a_cons (r_var 0) (a_cons (r_var 1) a_nil)))))), B.g__law_due, B.d__law_due.kp⟩
end
end K80

namespace K80
open PySem PySem.Spec L2 MR
open PyProof.Rows (envOfC)
section
variable {P : Program} {w : World} {K : PySem.W.Frag} {mg : Str → Option Value} {base : Heap} {ca : Str → Addr} {fa : Nat → Addr} {fd : Nat → FuncData}
/-! ### _law_steps_right -/
theorem sc__law_steps_right : FnScope ["_law_book", "_law_steps", "_law_given", "error", "_law_due_here", "_law_handed", "_law_caught", "_law_told"] ["_law_book", "_law_steps"] (defScope s__law_steps_right) := ⟨rfl, rfl, rfl, by decide +kernel, rfl, by decide +kernel, by decide +kernel⟩
def FB__law_steps_right : SM := mSeq (mAsg (bTup [4, 5, 6, 7]) (mTup (mCons (mOwn (pur F__law_due) [] (mCons (mV 0) (mCons (mV 1) (mNil)))) (mCons (mCall listF (mCons (mV 0) (mNil))) (mCons (mC .non) (mCons (mC .non) (mNil))))))) (mSeq (mSet 2 (mOwn (pur (F__law_same 8)) [] (mCons (mV 1) (mNil)))) (mSeq (mTryK isa kn (mSet 7 (mOwn (pur F_mended_by) [] (mCons (mV 5) (mCons (mV 2) (mNil))))) "InvalidMending" 3 6) (mSeq (mIfS (mOr (mOp2 neD (mV 5) (mV 0)) (mNot (mOwn (pur (F__law_exact 8)) [] (mCons (mV 2) (mCons (mV 1) (mNil)))))) (mRet (mC (.bl false))) (mNx)) (mSeq (mIfS (mOp2 isD (mV 4) (mC .non)) (mRet (mAnd (mOp2 isnotD (mV 6) (mC .non)) (mOwn (pur F__law_is) [] (mCons (mLst (mCons (mC (.str "mending")) (mCons (mVal kn (mV 6)) (mNil)))) (mCons (mC (.str "mending")) (mCons (mV 2) (mNil))))))) (mNx)) (mSeq (mIfS (mOr (mOp2 isnotD (mV 6) (mC .non)) (mNot (mOwn (pur (F__law_exact 8)) [] (mCons (mV 7) (mCons (mV 4) (mNil)))))) (mRet (mC (.bl false))) (mNx)) (mSeq (mExp (mMeth "list" appendG (mV 7) (mCons (mC (.str "more")) (mNil)))) (mRet (mOwn (pur (F__law_exact 8)) [] (mCons (mOwn (pur F_mended_by) [] (mCons (mV 5) (mCons (mV 2) (mNil)))) (mCons (mV 4) (mNil)))))))))))
def F__law_steps_right : Fn := runB 2 8 FB__law_steps_right
theorem bi__law_steps_right (B : Bas P K mg ca fa fd) : Binds K (fd 22) ["_law_book", "_law_steps"] [] := B.d__law_steps_right.bindsN (ps := ["_law_book", "_law_steps"]) fun _ _ _ _ _ _ us hl => match us, hl with | [_, _], _ => rfl
theorem ok__law_steps_right (B : Bas P K mg ca fa fd) : Def P w K mg base (Tt w K ca) 11 "_law_steps_right" (fa 22) (fd 22) ["_law_book", "_law_steps"] F__law_steps_right := by
  exact ⟨fn_ok (k := 10) (Tt w K ca) B.d__law_steps_right sc__law_steps_right fun cdv A outer s H E hr tk pw => (s_cons (s_asg (r_tup (a_cons (r_call (pur_def (ok__law_due B)) (hr.mono (by decide)) (bi__law_due B) tk (a_cons (r_var 0) (a_cons (r_var 1) a_nil))) (a_cons (r_list B.n_list (a_cons (r_var 0) a_nil)) (a_cons r_non (a_cons r_non a_nil))))) (pg_tup rfl (pgs_cons (pg_name (i := 4) sc__law_steps_right.nd rfl (by first | exact Or.inl rfl | exact Or.inr rfl)) (pgs_cons (pg_name (i := 5) sc__law_steps_right.nd rfl (by first | exact Or.inl rfl | exact Or.inr rfl)) (pgs_cons (pg_name (i := 6) sc__law_steps_right.nd rfl (by first | exact Or.inl rfl | exact Or.inr rfl)) (pgs_cons (pg_name (i := 7) sc__law_steps_right.nd rfl (by first | exact Or.inl rfl | exact Or.inr rfl)) pgs_nil))))) (tg_tup (is := [4, 5, 6, 7]))) (s_cons (s_set 2 sc__law_steps_right.nd (r_call (pur_def (ok__law_same B 8)) (hr.mono (by decide)) (bi__law_same B) tk (a_cons (r_var 1) a_nil))) (s_cons (s_tryK 3 6 rfl rfl sc__law_steps_right.nd rfl tk (fun W' pn' xe' tk' pw' => (s_one (s_set 7 sc__law_steps_right.nd (r_call (pur_def (ok_mended_by B)) (hr.mono (by decide)) (bi_mended_by B) tk' (a_cons (r_var 5) (a_cons (r_var 2) a_nil)))))) rfl B.c_InvalidMending (B.ex_InvalidMending)) (s_cons (s_if (PW.pt (w_or (t_ne (deepy_of hr) (r_var 5) (r_var 0)) (w_one (t_not (t_val (r_call (pur_def (ok__law_exact B 8)) (hr.mono (by decide)) (bi__law_exact B) tk (a_cons (r_var 2) (a_cons (r_var 1) a_nil)))))))) (s_one (s_ret r_bl)) s_nil) (s_cons (s_if (t_is (r_var 4) r_non) (s_one (s_ret (r_and (r_isnot (r_var 6) r_non) (r_one (r_call (pur_def (ok__law_is B)) (hr.mono (by decide)) (bi__law_is B) tk (a_cons (r_lst (a_cons r_str (a_cons (r_val B.ek (r_var 6)) a_nil))) (a_cons r_str (a_cons (r_var 2) a_nil)))))))) s_nil) (s_cons (s_if (PW.pt (w_or (t_isnot (r_var 6) r_non) (w_one (t_not (t_val (r_call (pur_def (ok__law_exact B 8)) (hr.mono (by decide)) (bi__law_exact B) tk (a_cons (r_var 7) (a_cons (r_var 4) a_nil)))))))) (s_one (s_ret r_bl)) s_nil) (s_cons (s_exp (r_append (r_var 7) (a_cons r_str a_nil))) (s_one (s_ret (r_call (pur_def (ok__law_exact B 8)) (hr.mono (by decide)) (bi__law_exact B) tk (a_cons (r_call (pur_def (ok_mended_by B)) (hr.mono (by decide)) (bi_mended_by B) tk (a_cons (r_var 5) (a_cons (r_var 2) a_nil))) (a_cons (r_var 4) a_nil)))))))))))), B.g__law_steps_right, B.d__law_steps_right.kp⟩
/-! ### law -/
theorem sc_law : FnScope ["_law_script", "_law_purse_here", "_law_words_here", "_law_turn", "_law_book", "_law_steps", "_law_some", "_law_odd", "_law_part"] ["_law_script"] (defScope s_law) := ⟨rfl, rfl, rfl, by decide +kernel, rfl, by decide +kernel, by decide +kernel⟩
def FB_law : SM := mSeq (mFor (mIter (mOwn (pur F__law_purses) [] (mCons (mV 0) (mCons (mC (.int 3)) (mNil))))) (bName 1) (mSeq (mSet 2 (mOwn (pur F__law_words) [] (mCons (mV 1) (mCons (mOp2 addD (mC (.int 1)) (mOwn (pur F__law_draw) [] (mCons (mV 1) (mCons (mC (.int 4)) (mNil))))) (mNil))))) (mFor (mRange1 (mCons (mC (.int 3)) (mNil))) (bName 3) (mSeq (mSet 4 (mLc (mRange1 (mCons (mOwn (pur F__law_draw) [] (mCons (mV 1) (mCons (mC (.int 7)) (mNil)))) (mNil))) (bName 8) (mTrue) (mOwn (pur F__law_one_of) [] (mCons (mV 1) (mCons (mV 2) (mNil)))) [8])) (mSeq (mSet 5 (mOwn (pur F__law_drawn_steps) [] (mCons (mV 1) (mCons (mV 2) (mCons (mV 4) (mNil)))))) (mSeq (mFor (mIter (mOp2 addD (mLst (mCons (mV 5) (mNil))) (mOwn (pur F__law_bent) [] (mCons (mV 1) (mCons (mV 2) (mCons (mV 4) (mCons (mV 5) (mNil)))))))) (bName 6) (mIfS (mNot (mOwn (pur F__law_steps_right) [] (mCons (mV 4) (mCons (mV 6) (mNil))))) (mRet (mC (.bl false))) (mNx))) (mFor (mIter (mLst (mCons (mC .non) (mCons (mC (.int 5)) (mCons (mC (.bl true)) (mCons (mC (.str "keep")) (mCons (mDT0) (mCons (mTup (mNil)) (mCons (mOp2 addD (mCall tupleF (mCons (mV 5) (mNil))) (mTup (mCons (mTup (mCons (mC (.str "keep")) (mNil))) (mNil)))) (mCons (mDT1 "keep") (mNil))))))))))) (bName 7) (mIfS (mNot (mOwn (pur F__law_steps_right) [] (mCons (mV 4) (mCons (mV 7) (mNil))))) (mRet (mC (.bl false))) (mNx))))))))) (mRet (mC (.bl true)))
def F_law : Fn := runB 1 9 FB_law
theorem bi_law (B : Bas P K mg ca fa fd) : Binds K (fd 23) ["_law_script"] [] := B.d_law.bindsN (ps := ["_law_script"]) fun _ _ _ _ _ _ us hl => match us, hl with | [_], _ => rfl
theorem ok_law (B : Bas P K mg ca fa fd) : Def P w K mg base (Tt w K ca) 12 "law" (fa 23) (fd 23) ["_law_script"] F_law := by
  exact ⟨fn_ok (k := 11) (Tt w K ca) B.d_law sc_law fun cdv A outer s H E hr tk pw => (s_cons (s_for pw rfl (i_any (r_call (pur_def (ok__law_purses B)) (hr.mono (by decide)) (bi__law_purses B) tk (a_cons (r_var 0) (a_cons r_int a_nil)))) (pg_name (i := 1) sc_law.nd rfl (by first | exact Or.inl rfl | exact Or.inr rfl)) tg_name (s_cons (s_set 2 sc_law.nd (r_call (pur_def (ok__law_words B)) (hr.mono (by decide)) (bi__law_words B) tk (a_cons (r_var 1) (a_cons (r_add r_int (r_call (pur_def (ok__law_draw B)) (hr.mono (by decide)) (bi__law_draw B) tk (a_cons (r_var 1) (a_cons r_int a_nil)))) a_nil)))) (s_one (s_for pw rfl (i_range1 B.n_range (a_cons r_int a_nil)) (pg_name (i := 3) sc_law.nd rfl (by first | exact Or.inl rfl | exact Or.inr rfl)) tg_name (s_cons (s_setLc (own := [("_law_part", 8)]) 4 rfl sc_law.nd (show BlkOk ["_law_script", "_law_purse_here", "_law_words_here", "_law_turn", "_law_book", "_law_steps", "_law_some", "_law_odd", "_law_part"] (defScope s_law) _ [("_law_part", 8)] from ⟨rfl, by decide +kernel, by decide +kernel, by decide +kernel, by decide +kernel⟩) (i_range1 B.n_range (a_cons (r_call (pur_def (ok__law_draw B)) (hr.mono (by decide)) (bi__law_draw B) tk (a_cons (r_var 1) (a_cons r_int a_nil))) a_nil)) tg_name (bName_in (by decide)) (fun _ _ _ _ _ => (pg_name (i := 8) sc_law.nd rfl (by first | exact Or.inl rfl | exact Or.inr rfl))) (fun _ _ _ _ _ => ts_nil) (fun _ _ _ _ _ => (r_call (pur_def (ok__law_one_of B)) (hr.mono (by decide)) (bi__law_one_of B) takes_none5 (a_cons (r_var 1) (a_cons (r_var 2) a_nil)))) rfl) (s_cons (s_set 5 sc_law.nd (r_call (pur_def (ok__law_drawn_steps B)) (hr.mono (by decide)) (bi__law_drawn_steps B) tk (a_cons (r_var 1) (a_cons (r_var 2) (a_cons (r_var 4) a_nil))))) (s_cons (s_for pw rfl (i_any (r_add (r_lst (a_cons (r_var 5) a_nil)) (r_call (pur_def (ok__law_bent B)) (hr.mono (by decide)) (bi__law_bent B) tk (a_cons (r_var 1) (a_cons (r_var 2) (a_cons (r_var 4) (a_cons (r_var 5) a_nil))))))) (pg_name (i := 6) sc_law.nd rfl (by first | exact Or.inl rfl | exact Or.inr rfl)) tg_name (s_one (s_if (t_not (t_val (r_call (pur_def (ok__law_steps_right B)) (hr.mono (by decide)) (bi__law_steps_right B) tk (a_cons (r_var 4) (a_cons (r_var 6) a_nil))))) (s_one (s_ret r_bl)) s_nil))) (s_one (s_for pw rfl (i_any (r_lst (a_cons r_non (a_cons r_int (a_cons r_bl (a_cons r_str (a_cons r_dictT0 (a_cons (r_tup a_nil) (a_cons (r_add (r_tuple B.n_tuple (a_cons (r_var 5) a_nil)) (r_tup (a_cons (r_tup (a_cons r_str a_nil)) a_nil))) (a_cons (r_dictT1 (z := "keep") (deepy_of hr) pe_str pe_non) a_nil)))))))))) (pg_name (i := 7) sc_law.nd rfl (by first | exact Or.inl rfl | exact Or.inr rfl)) tg_name (s_one (s_if (t_not (t_val (r_call (pur_def (ok__law_steps_right B)) (hr.mono (by decide)) (bi__law_steps_right B) tk (a_cons (r_var 4) (a_cons (r_var 7) a_nil))))) (s_one (s_ret r_bl)) s_nil))))))))))) (s_one (s_ret r_bl))), B.g_law, B.d_law.kp⟩
end
end K80

/-! QA: what a mirror answers, as promises: a value comes (Ok), a suite ends (Wp); frames; loops. -/
namespace MR
open PySem
/-- a value comes, and it is so -/
def Ok {α : Type} (P : α → Hs → Prop) (r : Res α) : Prop := match r with
  | .ok a S => P a S
  | _ => False
/-- the suite goes on, or returns -/
def Wp (P : EnvD → Hs → Prop) (Q : D → Hs → Prop) (r : SRes) : Prop := match r with
  | .nx env S => P env S
  | .rt d S => Q d S
  | _ => False
section
variable {α β : Type} {P : α → Hs → Prop} {P' : EnvD → Hs → Prop} {Q : D → Hs → Prop} {S : Hs} {env : EnvD}
@[simp] theorem Ok_ok {a : α} : Ok P (.ok a S) = P a S := rfl
@[simp] theorem Ok_bad : Ok P .bad = False := rfl
@[simp] theorem Ok_bind {m : Res β} {k : β → Hs → Res α} : Ok P (m.bind k) = Ok (fun a S => Ok P (k a S)) m := by cases m <;> rfl
@[simp] theorem Wp_nx : Wp P' Q (.nx env S) = P' env S := rfl
@[simp] theorem Wp_rt {d : D} : Wp P' Q (.rt d S) = Q d S := rfl
@[simp] theorem Wp_bad : Wp P' Q .bad = False := rfl
@[simp] theorem Wp_toS {m : Res β} {k : β → Hs → SRes} : Wp P' Q (m.toS env k) = Ok (fun a S => Wp P' Q (k a S)) m := by cases m <;> rfl
theorem Ok.mono {R : α → Hs → Prop} {r : Res α} (h : Ok P r) (f : ∀ a S, P a S → R a S) : Ok R r := by
  cases r with
  | ok a S => exact f a S h
  | _ => exact h
theorem Wp.mono {R : EnvD → Hs → Prop} {Q2 : D → Hs → Prop} {r : SRes} (h : Wp P' Q r) (f : ∀ e S, P' e S → R e S) (g : ∀ d S, Q d S → Q2 d S) : Wp R Q2 r := by
  cases r with
  | nx e S => exact f e S h
  | rt d S => exact g d S h
  | _ => exact h
theorem Ok.eq {r : Res α} (h : Ok P r) : ∃ a S, r = .ok a S ∧ P a S := by
  cases r with
  | ok a S => exact ⟨a, S, rfl, h⟩
  | _ => exact h.elim
theorem Ok.of {r : Res α} {a : α} (e : r = .ok a S) (h : P a S) : Ok P r := by
  rw [e]
  exact h
@[simp] theorem Wp_seq {a b : SM} : Wp P' Q (mSeq a b env S) = Wp (fun e s => Wp P' Q (b e s)) Q (a env S) := by
  unfold mSeq
  cases a env S <;> rfl
@[simp] theorem Wp_set {i : Nat} {m : Ex} : Wp P' Q (mSet i m env S) = Ok (fun d s => P' (env.set i (some d)) s) (m env S) := Wp_toS
@[simp] theorem Wp_ret {m : Ex} : Wp P' Q (mRet m env S) = Ok Q (m env S) := Wp_toS
@[simp] theorem Wp_exp {m : Ex} : Wp P' Q (mExp m env S) = Ok (fun _ s => P' env s) (m env S) := Wp_toS
@[simp] theorem Wp_if {m : Ex} {a b : SM} : Wp P' Q (mIfS m a b env S) = Ok (fun d s => match d with
    | .bl k => if k then Wp P' Q (a env s) else Wp P' Q (b env s)
    | _ => False) (m env S) := by
  unfold mIfS
  rw [Wp_toS]
  cases m env S with
  | ok d s =>
    cases d <;> try rfl
    rename_i k
    cases k <;> rfl
  | _ => rfl
@[simp] theorem Wp_mNx : Wp P' Q (mNx env S) = P' env S := rfl
@[simp] theorem Wp_asg {b : Bnd} {m : Ex} : Wp P' Q (mAsg b m env S) = Ok (fun d s => match b d with
    | some us => P' (apD env us) s
    | none => False) (m env S) := by
  unfold mAsg
  rw [Wp_toS]
  cases m env S with
  | ok d s =>
    show Wp P' Q (match b d with
      | some us => .nx (apD env us) s
      | none => .bad) = _
    show _ = (match b d with
      | some us => P' (apD env us) s
      | none => False)
    cases b d <;> rfl
  | _ => rfl
end
section
variable {P : D → Hs → Prop} {P2 : List D → Hs → Prop} {S : Hs} {env : EnvD} {a b c : Ex} {ms : Exs}
@[simp] theorem o_mC {d : D} : Ok P (mC d env S) = P d S := rfl
@[simp] theorem o_op2 {g : D → D → Hs → Res D} : Ok P (mOp2 g a b env S) = Ok (fun x s => Ok (fun y s => Ok P (g x y s)) (b env s)) (a env S) := by
  unfold mOp2
  simp only [Ok_bind]
@[simp] theorem o_call {f : List D → Hs → Res D} : Ok P (mCall f ms env S) = Ok (fun ds s => Ok P (f ds s)) (ms env S) := Ok_bind
@[simp] theorem o_own {F : Fn} {dD : List D} : Ok P (mOwn F dD ms env S) = Ok (fun ds s => Ok P (F (ds ++ dD) s)) (ms env S) := Ok_bind
@[simp] theorem o_cons : Ok P2 (mCons a ms env S) = Ok (fun d s => Ok (fun ds s => P2 (d :: ds) s) (ms env s)) (a env S) := by
  unfold mCons
  simp only [Ok_bind, Ok_ok]
@[simp] theorem o_nil : Ok P2 (mNil env S) = P2 [] S := rfl
@[simp] theorem o_tup : Ok P (mTup ms env S) = Ok (fun ds s => ds.length ≤ line ∧ P (.tup ds) s) (ms env S) := by
  unfold mTup
  rw [Ok_bind]
  cases ms env S with
  | ok ds s =>
    show Ok P (if ds.length ≤ line then Res.ok (D.tup ds) s else .bad) = (ds.length ≤ line ∧ P (.tup ds) s)
    by_cases h : ds.length ≤ line
    · rw [if_pos h]; simp [h]
    · rw [if_neg h]; simp [h]
  | _ => rfl
@[simp] theorem o_lst : Ok P (mLst ms env S) = Ok (fun ds s => ds.length ≤ line ∧ P (.ref s.n) (s.new (.lst ds))) (ms env S) := by
  unfold mLst
  rw [Ok_bind]
  cases ms env S with
  | ok ds s =>
    show Ok P (if ds.length ≤ line then Res.ok (D.ref s.n) (s.new (.lst ds)) else .bad) = (ds.length ≤ line ∧ P (.ref s.n) (s.new (.lst ds)))
    by_cases h : ds.length ≤ line
    · rw [if_pos h]; simp [h]
    · rw [if_neg h]; simp [h]
  | _ => rfl
/-- what comes is a bool -/
def Bl (f : Bool → Prop) (d : D) : Prop := match d with
  | .bl k => f k
  | _ => False
@[simp] theorem Bl_bl {f : Bool → Prop} {k : Bool} : Bl f (.bl k) = f k := rfl
theorem o_asB {d : D} {s : Hs} {k : Bool → Res D} : Ok P (asB d k) = Bl (fun x => Ok P (k x)) d := by
  cases d <;> rfl
@[simp] theorem o_and : Ok P (mAnd a b env S) = Ok (fun d s => Bl (fun k => if k then Ok P (b env s) else P (.bl false) s) d) (a env S) := by
  unfold mAnd
  rw [Ok_bind]
  congr 1
  funext d s
  rw [o_asB (s := s)]
  congr 1
  funext k
  cases k <;> rfl
@[simp] theorem o_or : Ok P (mOr a b env S) = Ok (fun d s => Bl (fun k => if k then P (.bl true) s else Ok P (b env s)) d) (a env S) := by
  unfold mOr
  rw [Ok_bind]
  congr 1
  funext d s
  rw [o_asB (s := s)]
  congr 1
  funext k
  cases k <;> rfl
@[simp] theorem o_not : Ok P (mNot a env S) = Ok (fun d s => Bl (fun k => P (.bl (!k)) s) d) (a env S) := by
  unfold mNot
  rw [Ok_bind]
  congr 1
  funext d s
  rw [o_asB (s := s)]
  rfl
@[simp] theorem o_if : Ok P (mIf a b c env S) = Ok (fun d s => Bl (fun k => if k then Ok P (b env s) else Ok P (c env s)) d) (a env S) := by
  unfold mIf
  rw [Ok_bind]
  congr 1
  funext d s
  rw [o_asB (s := s)]
  congr 1
  funext k
  cases k <;> rfl
theorem o_mV {i : Nat} {d : D} (h : env[i]? = some (some d)) (hx : noX d = true) : Ok P (mV i env S) = P d S := by
  unfold mV
  rw [h]
  simp only [hx, if_true]
  rfl
@[simp] theorem o_chain {g g' : D → D → Hs → Res D} : Ok P (mChain g g' a b c env S) = Ok (fun x s => Ok (fun y s => Ok (fun z s => Bl (fun k => if k then Ok (fun w s => Ok P (g' y w s)) (c env s) else P (.bl false) s) z) (g x y s)) (b env s)) (a env S) := by
  unfold mChain
  simp only [Ok_bind]
  congr 1
  funext x s
  congr 1
  funext y s
  congr 1
  funext z s
  rw [o_asB (s := s)]
  congr 1
  funext k
  cases k
  · rfl
  · simp only [if_true, Ok_bind]
@[simp] theorem o_meth {Ty : String} {g : D → List D → Hs → Res D} : Ok P (mMeth Ty g a ms env S) = Ok (fun x s => tyD Ty x s = true ∧ Ok (fun xs s => Ok P (g x xs s)) (ms env s)) (a env S) := by
  unfold mMeth
  rw [Ok_bind]
  congr 1
  funext x s
  by_cases h : tyD Ty x s = true
  · rw [if_pos h, Ok_bind]; simp [h]
  · rw [if_neg h]; simp [h]
@[simp] theorem o_slice {l h : ExO} : Ok P (mSlice a l h env S) = Ok (fun x s => Ok (fun lo s => Ok (fun hi s => Ok P (sliceD x lo hi s)) (h env s)) (l env s)) (a env S) := by
  unfold mSlice
  simp only [Ok_bind]
@[simp] theorem o_noPart {P3 : Option Int → Hs → Prop} : Ok P3 (mNoPart env S) = P3 none S := rfl
/-- what comes is an int -/
def In (f : Int → Prop) (d : D) : Prop := match d with
  | .int k => f k
  | _ => False
@[simp] theorem In_int {f : Int → Prop} {k : Int} : In f (.int k) = f k := rfl
@[simp] theorem o_part {P3 : Option Int → Hs → Prop} : Ok P3 (mPart a env S) = Ok (fun d s => In (fun i => P3 (some i) s) d) (a env S) := by
  unfold mPart
  rw [Ok_bind]
  congr 1
  funext d s
  cases d <;> rfl
@[simp] theorem Wp_bl {P' : EnvD → Hs → Prop} {Q : D → Hs → Prop} {k : Bool} {e : EnvD} {s : Hs} {x y : SM} : (match (D.bl k) with
    | .bl k => if k then Wp P' Q (x e s) else Wp P' Q (y e s)
    | _ => False) = (if k then Wp P' Q (x e s) else Wp P' Q (y e s)) := rfl
end
/-! ### frames -/
/-- what was there stands as it did, but for q -/
structure Fr (q : Nat → Prop) (S S' : Hs) : Prop where
  at_ : ∀ n c, ¬ q n → S.get n = some c → S'.get n = some c
  n : S.n ≤ S'.n
abbrev No : Nat → Prop := fun _ => False
section
variable {q q' : Nat → Prop} {S S' S'' : Hs}
theorem Fr.refl : Fr q S S := ⟨fun _ _ _ h => h, Nat.le_refl _⟩
theorem Fr.trans (a : Fr q S S') (b : Fr q S' S'') : Fr q S S'' := ⟨fun n c h e => b.at_ n c h (a.at_ n c h e), Nat.le_trans a.n b.n⟩
theorem Fr.mono (a : Fr q S S') (h : ∀ n, q n → q' n) : Fr q' S S' := ⟨fun n c hn e => a.at_ n c (fun z => hn (h n z)) e, a.n⟩
theorem Fr.any (a : Fr No S S') : Fr q S S' := a.mono fun _ z => z.elim
theorem Fr.new {c : Cell} : Fr q S (S.new c) := ⟨fun n c' hn e => Hs.get_old e, Nat.le_succ _⟩
theorem Fr.put {p : Nat} {c0 c : Cell} (h : S.get p = some c0) (hq : q p) : Fr q S (S.put p c) := ⟨fun n c' hn e => by
  have ne : n ≠ p := fun z => hn (by subst z; exact hq)
  rw [Hs.get_put_ne (Hs.get_lt h) ne]
  exact e, Nat.le_refl _⟩
/-- what is new is written freely -/
theorem Fr.put_new {p : Nat} {c0 c : Cell} (a : Fr q S S') (h : S'.get p = some c0) (hp : S.n ≤ p) : Fr q S (S'.put p c) := ⟨fun n c' hn e => by
  have hl := Hs.get_lt e
  rw [Hs.get_put_ne (Hs.get_lt h) (by omega)]
  exact a.at_ n c' hn e, a.n⟩
end
/-! ### what a list comprehension makes -/
/-- di walks over items, whatever befalls within q -/
structure Itm (q : Nat → Prop) (S : Hs) (di : DI) (items : List D) : Prop where
  size : items.length ≤ di.size S
  next : ∀ i s, Fr q S s → di.next i s = some items[i]?
theorem lcL_ok {di : DI} {b : Bnd} {me : Ex} {env : EnvD} {q : Nat → Prop} {S1 : Hs} {items : List D} {R : Nat → D → Hs → Prop} (I : Itm q S1 di items) (hl : items.length ≤ line)
    (body : ∀ i d, items[i]? = some d → ∃ us, b d = some us ∧ ∀ s, Fr q S1 s → S1.n < s.n → Ok (fun y s' => Fr q s s' ∧ R i y s') (me (apD env us) s)) (hq : ¬ q S1.n)
    (stab : ∀ i y s s', Fr (fun m => q m ∨ m = S1.n) s s' → R i y s → R i y s') :
    ∀ (j i k : Nat) (s : Hs) (ys : List D), i + j = items.length → j < k → Fr q S1 s → S1.n < s.n → s.get S1.n = some (.lst ys) → ys.length = i → (∀ m y, ys[m]? = some y → R m y s) →
      Ok (fun d s' => d = .ref S1.n ∧ Fr q S1 s' ∧ ∃ zs, s'.get S1.n = some (.lst zs) ∧ zs.length = items.length ∧ ∀ m y, zs[m]? = some y → R m y s') (mLcL di b mTrue me env S1.n k i s)
  | 0, i, k + 1, s, ys, hij, hk, fr, hn, hg, hy, hR => by
    unfold mLcL
    rw [I.next i s fr, List.getElem?_eq_none (by omega)]
    exact ⟨rfl, fr, ys, hg, by omega, hR⟩
  | j + 1, i, k + 1, s, ys, hij, hk, fr, hn, hg, hy, hR => by
    have hi : i < items.length := by omega
    obtain ⟨us, hb, h⟩ := body i items[i] (List.getElem?_eq_getElem hi)
    obtain ⟨y, s', e, fr', r⟩ := (h s fr hn).eq
    have g' : s'.get S1.n = some (.lst ys) := fr'.at_ _ _ hq hg
    unfold mLcL
    rw [I.next i s fr, List.getElem?_eq_getElem hi]
    simp only [hb]
    show Ok _ (match me (apD env us) s with
      | .ok y S4 => match S4.get S1.n with
        | some (.lst acc) => if acc.length < line then mLcL di b mTrue me env S1.n k (i + 1) (S4.put S1.n (.lst (acc ++ [y]))) else .bad
        | _ => .bad
      | _ => .bad)
    rw [e]
    simp only [g']
    rw [if_pos (by omega)]
    have fr2 : Fr (fun m => q m ∨ m = S1.n) s' (s'.put S1.n (.lst (ys ++ [y]))) := Fr.put g' (.inr rfl)
    refine lcL_ok I hl body hq stab j (i + 1) k _ (ys ++ [y]) (by omega) (by omega) ((fr.trans fr').put_new g' (Nat.le_refl _)) (Nat.lt_of_lt_of_le hn fr'.n) (Hs.get_put g') (by simp [hy]) fun m z hm => ?_
    by_cases hm2 : m < ys.length
    · rw [List.getElem?_append_left hm2] at hm
      exact stab m z s' _ fr2 (stab m z s s' (fr'.mono fun _ z => .inl z) (hR m z hm))
    · rw [List.getElem?_append_right (by omega)] at hm
      have : m = i := by
        have hl2 := (List.getElem?_eq_some_iff.mp hm).1
        simp at hl2
        omega
      subst this
      rw [← hy] at hm
      simp at hm
      subst hm
      exact stab _ _ s' _ fr2 r
theorem o_lc {P : D → Hs → Prop} {mi : ExI} {b : Bnd} {me : Ex} {vs : List Nat} {env : EnvD} {S : Hs} (q : Nat → Prop) (items : List D) (R : Hs → Nat → D → Hs → Prop)
    (h : Ok (fun di S1 => Itm q S1 di items ∧ items.length ≤ line ∧ ¬ q S1.n ∧ (∀ i d, items[i]? = some d → ∃ us, b d = some us ∧ ∀ s, Fr q S1 s → S1.n < s.n → Ok (fun y s' => Fr q s s' ∧ R S1 i y s') (me (apD (wipeD env vs) us) s)) ∧
      (∀ i y s s', Fr (fun m => q m ∨ m = S1.n) s s' → R S1 i y s → R S1 i y s') ∧
      ∀ s' zs, Fr q S1 s' → S1.n < s'.n → s'.get S1.n = some (.lst zs) → zs.length = items.length → (∀ m y, zs[m]? = some y → R S1 m y s') → P (.ref S1.n) s') (mi env S)) : Ok P (mLc mi b mTrue me vs env S) := by
  unfold mLc
  rw [Ok_bind]
  refine h.mono fun di S1 ⟨I, hl, hq, body, stab, fin⟩ => ?_
  have hz := I.size
  exact (lcL_ok I hl body hq stab items.length 0 _ (S1.new (.lst [])) [] (by omega) (by omega) Fr.new (Nat.lt_succ_self _) (Hs.get_new _ _) rfl fun m y e => by simp at e).mono fun d s' ⟨e, fr, zs, g, l, r⟩ => by
    subst e
    exact fin s' zs fr (Hs.get_lt g) g l r
/-! ### for -/
theorem loop_ok {P : EnvD → Hs → Prop} {Q : D → Hs → Prop} {di : DI} {b : Bnd} {body : SM} {items : List D} (I : Nat → EnvD → Hs → Prop)
    (step : ∀ i e s d, I i e s → items[i]? = some d → di.next i s = some (some d) ∧ ∃ us, b d = some us ∧ Wp (I (i + 1)) Q (body (apD e us) s)) (stop : ∀ e s, I items.length e s → di.next items.length s = some none ∧ P e s) :
    ∀ (j i k : Nat) (e : EnvD) (s : Hs), i + j = items.length → j < k → I i e s → Wp P Q (mLoop di b body k i e s)
  | 0, i, k + 1, e, s, hij, hk, hI => by
    have hi : i = items.length := by omega
    subst hi
    obtain ⟨h1, h2⟩ := stop e s hI
    unfold mLoop
    rw [h1]
    exact h2
  | j + 1, i, k + 1, e, s, hij, hk, hI => by
    have hi : i < items.length := by omega
    obtain ⟨h1, us, h2, h3⟩ := step i e s _ hI (List.getElem?_eq_getElem hi)
    unfold mLoop
    rw [h1]
    simp only [h2]
    cases hb : body (apD e us) s with
    | nx e2 s2 =>
      rw [hb] at h3
      exact loop_ok I step stop j (i + 1) k e2 s2 (by omega) (by omega) h3
    | rt d s2 =>
      rw [hb] at h3
      exact h3
    | _ =>
      rw [hb] at h3
      exact h3.elim
theorem w_for {P : EnvD → Hs → Prop} {Q : D → Hs → Prop} {mi : ExI} {b : Bnd} {body : SM} {env : EnvD} {S : Hs} (items : List D) (I : Hs → Nat → EnvD → Hs → Prop)
    (h : Ok (fun di S1 => items.length ≤ di.size S1 ∧ I S1 0 env S1 ∧ (∀ i e s d, I S1 i e s → items[i]? = some d → di.next i s = some (some d) ∧ ∃ us, b d = some us ∧ Wp (I S1 (i + 1)) Q (body (apD e us) s)) ∧
      ∀ e s, I S1 items.length e s → di.next items.length s = some none ∧ P e s) (mi env S)) : Wp P Q (mFor mi b body env S) := by
  unfold mFor
  rw [Wp_toS]
  exact h.mono fun di S1 ⟨hz, h0, step, stop⟩ => loop_ok (I S1) step stop items.length 0 _ env S1 (by omega) (by omega) h0
/-! ### what is walked -/
section
variable {q : Nat → Prop} {S : Hs}
theorem listOf_get {n : Nat} {xs : List D} (h : S.get n = some (.lst xs)) : listOf S n = some xs := by
  unfold listOf
  rw [h]
theorem itm_lst {n : Nat} {xs : List D} (h : S.get n = some (.lst xs)) (hq : ¬ q n) : Itm q S (.lst n) xs := ⟨by
  show xs.length ≤ (match listOf S n with
    | some xs => xs.length
    | none => 0)
  rw [listOf_get h]
  exact Nat.le_refl _, fun i s fr => by
  show (match listOf s n with
    | some xs => some xs[i]?
    | none => none) = _
  rw [listOf_get (fr.at_ _ _ hq h)]⟩
theorem itm_tup {xs : List D} : Itm q S (.tup xs) xs := ⟨Nat.le_refl _, fun i s fr => rfl⟩
def rngL (lo : Int) (n : Nat) : List D := (List.range n).map fun i => .int (lo + (i : Nat))
theorem rngL_len {lo : Int} {n : Nat} : (rngL lo n).length = n := by simp [rngL]
theorem itm_rng {lo : Int} {n : Nat} : Itm q S (.rng lo n) (rngL lo n) := ⟨by rw [rngL_len]; exact Nat.le_refl _, fun i s fr => by
  show some (if i < n then some (D.int (lo + i)) else none) = _
  unfold rngL
  rw [List.getElem?_map]
  by_cases h : i < n
  · rw [if_pos h, List.getElem?_range h]; rfl
  · rw [if_neg h, List.getElem?_eq_none (by simp; omega)]; rfl⟩
def sgnL (z : Str) : List D := z.cps.toList.map fun c => .str ⟨#[c]⟩
theorem itm_str {z : Str} : Itm q S (.str z) (sgnL z) := ⟨by simp [sgnL, DI.size], fun i s fr => by
  show some (match z.cps[i]? with
    | some c => some (D.str ⟨#[c]⟩)
    | none => none) = _
  unfold sgnL
  rw [List.getElem?_map, Array.getElem?_toList]
  cases z.cps[i]? <;> rfl⟩
def zipL2 (xs ys : List D) : List D := (xs.zip ys).map fun p => .tup [p.1, p.2]
theorem pairAt_zip : ∀ (xs ys : List D) (i : Nat), pairAt xs ys i = (zipL2 xs ys)[i]?
  | [], ys, i => by simp [pairAt, zipL2]
  | x :: xs, [], i => by
    unfold pairAt zipL2
    cases (x :: xs)[i]? <;> simp
  | x :: xs, y :: ys, 0 => rfl
  | x :: xs, y :: ys, i + 1 => pairAt_zip xs ys i
theorem itm_zipT {xs ys : List D} : Itm q S (.zipT xs ys) (zipL2 xs ys) := ⟨by simp [zipL2, DI.size]; omega, fun i s fr => by
  show some (pairAt xs ys i) = _
  rw [pairAt_zip]⟩
theorem itm_zipL {n m : Nat} {xs ys : List D} (h : S.get n = some (.lst xs)) (h' : S.get m = some (.lst ys)) (hq : ¬ q n) (hq' : ¬ q m) : Itm q S (.zipL n m) (zipL2 xs ys) := ⟨by
  show (zipL2 xs ys).length ≤ (match listOf S n with
    | some xs => xs.length
    | none => 0)
  rw [listOf_get h]
  simp [zipL2]
  omega, fun i s fr => by
  show (match listOf s n, listOf s m with
    | some xs, some ys => some (pairAt xs ys i)
    | _, _ => none) = _
  rw [listOf_get (fr.at_ _ _ hq h), listOf_get (fr.at_ _ _ hq' h'), ← pairAt_zip]⟩
end
/-! ### def by def -/
/-- what a def's body ends as -/
theorem o_run {P : D → Hs → Prop} {p n : Nat} {body : SM} {ds : List D} {S : Hs} (hl : ds.length = p) (h : Wp (fun _ s => P .non s) P (body (startD n ds) S)) : Ok P (runB p n body ds S) := by
  unfold runB
  rw [if_pos hl]
  cases hb : body (startD n ds) S with
  | nx e s => rw [hb] at h; exact h
  | rt d s => rw [hb] at h; exact h
  | _ => rw [hb] at h; exact h.elim
theorem pur_raw {F : Fn} {ds : List D} {S : Hs} (hf : frees ds = false) : pur F ds S = F ds S := by
  unfold pur
  rw [hf]
  rfl
theorem pur_val {F : Fn} {ds : List D} {d : D} {S : Hs} (hf : frees ds = true) (hd : free d = true) (h : Ok (fun x _ => x = d) (F ds S0)) : pur F ds S = .ok d S := by
  obtain ⟨x, S1, e, hx⟩ := h.eq
  subst hx
  unfold pur
  rw [if_pos hf, e]
  cases x <;> first | (simp only [hd]; rfl) | cases hd
/-- a def that leaves what was there and answers a plain value -/
theorem pur_any {F : Fn} {ds : List D} {d : D} {S : Hs} (hd : free d = true) (h : ∀ S', (frees ds = false → S' = S) → Ok (fun x s => x = d ∧ Fr No S' s) (F ds S')) : Ok (fun x s => x = d ∧ Fr No S s) (pur F ds S) := by
  cases hf : frees ds with
  | true => exact Ok.of (pur_val hf hd ((h S0 (fun z => nomatch hf.symm.trans z)).mono fun _ _ z => z.1)) ⟨rfl, Fr.refl⟩
  | false =>
    rw [pur_raw hf]
    exact h S fun _ => rfl
end MR

/-! QB: k80: values as data; the law's copies and its exactness. -/
namespace K80
open PySem MR
open L2 (kitB)
/-- d is p, to the depth k, and no cell of q is asked -/
inductive Dn (q : Nat → Prop) (S : Hs) : Nat → D → PyData → Prop where
  | non {k : Nat} : Dn q S k .non .none
  | bl {k : Nat} (b : Bool) : Dn q S k (.bl b) (.bool b)
  | int {k : Nat} (i : Int) : Dn q S k (.int i) (.int i)
  | str {k : Nat} {s : Str} (h : PyData.strOk s = true ∧ s.cps.size ≤ line) : Dn q S k (.str s) (.str s)
  | tup {k : Nat} {ds : List D} {ps : List PyData} (l : ds.length = ps.length) (m : ds.length ≤ line) (r : ∀ (i : Nat) d p, ds[i]? = some d → ps[i]? = some p → Dn q S k d p) : Dn q S (k + 1) (.tup ds) (.tuple ps)
  | lst {k : Nat} {n : Nat} {ds : List D} {ps : List PyData} (hq : ¬ q n) (h : S.get n = some (.lst ds)) (l : ds.length = ps.length) (m : ds.length < line) (r : ∀ (i : Nat) d p, ds[i]? = some d → ps[i]? = some p → Dn q S k d p) : Dn q S (k + 1) (.ref n) (.list ps)
section
variable {q q' : Nat → Prop} {S S' : Hs} {k : Nat} {d : D} {p : PyData}
theorem Dn.fr (h : Dn q S k d p) (f : Fr q S S') : Dn q S' k d p := by
  induction h with
  | non => exact .non
  | bl b => exact .bl b
  | int i => exact .int i
  | str h => exact .str h
  | tup l m r ih => exact .tup l m ih
  | lst hq h l m r ih => exact .lst hq (f.at_ _ _ hq h) l m ih
theorem Dn.weak (h : Dn q S k d p) (w : ∀ n, q' n → q n) : Dn q' S k d p := by
  induction h with
  | non => exact .non
  | bl b => exact .bl b
  | int i => exact .int i
  | str h => exact .str h
  | tup l m r ih => exact .tup l m ih
  | lst hq h l m r ih => exact .lst (fun z => hq (w _ z)) h l m ih
theorem Dn.up (h : Dn q S k d p) : ∀ {m : Nat}, k ≤ m → Dn q S m d p := by
  induction h with
  | non => exact fun _ => .non
  | bl b => exact fun _ => .bl b
  | int i => exact fun _ => .int i
  | str h => exact fun _ => .str h
  | tup l z r ih =>
    intro m hm
    obtain ⟨j, rfl⟩ : ∃ j, m = j + 1 := ⟨m - 1, by omega⟩
    exact .tup l z fun i d p a b => ih i d p a b (by omega)
  | lst hq h l z r ih =>
    intro m hm
    obtain ⟨j, rfl⟩ : ∃ j, m = j + 1 := ⟨m - 1, by omega⟩
    exact .lst hq h l z fun i d p a b => ih i d p a b (by omega)
theorem Dn.free (h : Dn q S k d p) : MR.free d = true → Dn q' S' k d p := by
  induction h with
  | non => exact fun _ => .non
  | bl b => exact fun _ => .bl b
  | int i => exact fun _ => .int i
  | str h => exact fun _ => .str h
  | tup l m r ih => exact fun f => .tup l m fun i d p a b => ih i d p a b (frees_get f a)
  | lst hq h l m r ih => intro f; cases f
theorem Dn.noX (h : Dn q S k d p) : MR.noX d = true := by cases h <;> rfl
theorem mapO_at {α β : Type} {f : α → Option β} : ∀ {xs : List α} {ys : List β}, xs.length = ys.length → (∀ (i : Nat) x y, xs[i]? = some x → ys[i]? = some y → f x = some y) → mapO f xs = some ys
  | [], [], _, _ => rfl
  | [], _ :: _, h, _ => nomatch h
  | _ :: _, [], h, _ => nomatch h
  | x :: xs, y :: ys, h, r => by
    unfold mapO
    rw [r 0 x y rfl rfl, mapO_at (Nat.succ.inj h) fun i a b p q => r (i + 1) a b p q]
theorem Dn.toP (h : Dn q S k d p) : MR.toP S k d = some p := by
  induction h with
  | @non k => cases k <;> rfl
  | @bl k b => cases k <;> rfl
  | @int k i => cases k <;> rfl
  | @str k s h => cases k <;> rfl
  | @tup k ds ps l m r ih =>
    show (mapO (MR.toP S k) ds).map PyData.tuple = _
    rw [mapO_at l ih]
    rfl
  | @lst k n ds ps hq h l m r ih =>
    show (match MR.listOf S n with
      | some xs => (mapO (MR.toP S k) xs).map PyData.list
      | none => none) = _
    rw [listOf_get h]
    show (mapO (MR.toP S k) ds).map PyData.list = _
    rw [mapO_at l ih]
    rfl
theorem there {α β : Type} {xs : List α} {ys : List β} {i : Nat} {y : β} (l : xs.length = ys.length) (e : ys[i]? = some y) : ∃ x, xs[i]? = some x := by
  have h : i < xs.length := by
    rw [l]
    exact (List.getElem?_eq_some_iff.mp e).1
  exact ⟨xs[i], List.getElem?_eq_getElem h⟩
theorem all_at {f : PyData → Bool} : ∀ {ps : List PyData}, (∀ (i : Nat) p, ps[i]? = some p → f p = true) → ps.all f = true
  | [], _ => rfl
  | p :: ps, h => by
    rw [List.all_cons, h 0 p rfl, all_at fun i x e => h (i + 1) x e]
    rfl
theorem lay_all : ∀ ps : List PyData, PyData.canLayAll0 ps = ps.all PyData.canLay0
  | [] => by simp [PyData.canLayAll0]
  | p :: ps => by simp [PyData.canLayAll0, lay_all ps]
theorem Dn.lay (h : Dn q S k d p) : p.canLay0 = true := by
  induction h with
  | non => rfl
  | bl b => rfl
  | int i => rfl
  | str h => exact h.1
  | @tup k ds ps l m r ih =>
    rw [PyData.canLay0, lay_all]
    exact all_at fun i p e => let ⟨d, hd⟩ := there l e; ih i d p hd e
  | @lst k n ds ps hq h l m r ih =>
    rw [PyData.canLay0, lay_all]
    exact all_at fun i p e => let ⟨d, hd⟩ := there l e; ih i d p hd e
theorem depth_all {m : Nat} : ∀ {ps : List PyData}, (∀ (i : Nat) p, ps[i]? = some p → p.depth ≤ m) → PyData.depthAll ps ≤ m
  | [], _ => by simp [PyData.depthAll]
  | p :: ps, h => by
    rw [PyData.depthAll]
    exact Nat.max_le.mpr ⟨h 0 p rfl, depth_all fun i x e => h (i + 1) x e⟩
theorem Dn.depth (h : Dn q S k d p) : p.depth ≤ k + 1 := by
  induction h with
  | non => simp [PyData.depth]
  | bl b => simp [PyData.depth]
  | int i => simp [PyData.depth]
  | str h => simp [PyData.depth]
  | @tup k ds ps l m r ih =>
    rw [PyData.depth]
    exact Nat.succ_le_succ (depth_all fun i p e => let ⟨d, hd⟩ := there l e; ih i d p hd e)
  | @lst k n ds ps hq h l m r ih =>
    rw [PyData.depth]
    exact Nat.succ_le_succ (depth_all fun i p e => let ⟨d, hd⟩ := there l e; ih i d p hd e)
theorem Dn.shaped (h : Dn q S k d p) (hk : k ≤ 60) : SeqAt.shaped p = true := by
  have := h.depth
  unfold SeqAt.shaped
  rw [h.lay, decide_eq_true (by omega)]
  rfl
theorem Dn.eq {k2 : Nat} {d2 : D} {p2 : PyData} (h : Dn q S k d p) (h2 : Dn q' S k2 d2 p2) (hk : k ≤ 40) (hk2 : k2 ≤ 40) : eqD d d2 S = .ok (.bl (PyData.eqv p p2)) S := by
  have a := h.up (m := 40) hk
  have b := h2.up (m := 40) hk2
  unfold eqD
  show (match MR.toP S 40 d, MR.toP S 40 d2 with
    | some p, some q => if SeqAt.shaped p && SeqAt.shaped q then Res.ok (D.bl (PyData.eqv p q)) S else .bad
    | _, _ => .bad) = _
  rw [a.toP, b.toP]
  simp only [a.shaped (by omega), b.shaped (by omega), Bool.and_self, if_true]
theorem Dn.ne {k2 : Nat} {d2 : D} {p2 : PyData} (h : Dn q S k d p) (h2 : Dn q' S k2 d2 p2) (hk : k ≤ 40) (hk2 : k2 ≤ 40) : neD d d2 S = .ok (.bl (!PyData.eqv p p2)) S := by
  unfold neD
  rw [h.eq h2 hk hk2]
theorem Dn.refl (h : Dn q S k d p) : PyData.eqv p p = true := SeqAt.eqv_refl p h.lay
def tyOf : PyData → String
  | .none => "NoneType"
  | .bool _ => "bool"
  | .int _ => "int"
  | .str _ => "str"
  | .tuple _ => "tuple"
  | .list _ => "list"
  | .dict _ => "dict"
theorem Dn.ty (h : Dn q S k d p) : tyN d S = some (tyOf p) := by
  cases h with
  | @lst k n ds ps hq h l m r =>
    unfold tyN
    simp only [h]
    rfl
  | _ => rfl
theorem kits : ∀ a ∈ ["NoneType", "bool", "int", "str", "tuple", "list"], ∀ b ∈ ["bool", "str", "tuple", "list", "dict"], kitB a b = some (a == b) := by decide +kernel
theorem Dn.isi (h : Dn q S k d p) {b : String} (hb : b ∈ ["bool", "str", "tuple", "list", "dict"]) : isiF [d, .ty b] S = .ok (.bl (tyOf p == b)) S := by
  have e : kitB (tyOf p) b = some (tyOf p == b) := kits _ (by cases h <;> simp [tyOf]) b hb
  unfold isiF
  simp only [h.ty, e]
end
@[simp] theorem o_v {P : D → Hs → Prop} {i : Nat} {env : EnvD} {S : Hs} : Ok P (mV i env S) = (match env[i]? with
    | some (some d) => MR.noX d = true ∧ P d S
    | _ => False) := by
  unfold mV
  cases env[i]? with
  | none => rfl
  | some o =>
    cases o with
    | none => rfl
    | some d =>
      show Ok P (if MR.noX d then Res.ok d S else .bad) = (MR.noX d = true ∧ P d S)
      by_cases h : MR.noX d = true
      · rw [if_pos h]; simp [h]
      · rw [if_neg h]; simp [h]
@[simp] theorem noX_ref {n : Nat} : MR.noX (.ref n) = true := rfl
@[simp] theorem noX_str {s : Str} : MR.noX (.str s) = true := rfl
@[simp] theorem noX_int {i : Int} : MR.noX (.int i) = true := rfl
@[simp] theorem noX_bl {b : Bool} : MR.noX (.bl b) = true := rfl
@[simp] theorem noX_tup {ds : List D} : MR.noX (.tup ds) = true := rfl
@[simp] theorem noX_non : MR.noX .non = true := rfl
@[simp] theorem noX_er {c : Str} {d : D} : MR.noX (.er c d) = true := rfl
@[simp] theorem noX_key {k : List L2.Key} : MR.noX (.key k) = true := rfl
end K80

/-! QC: k80: copies; exactness. -/
namespace K80
open PySem MR
section
variable {q q' : Nat → Prop} {S S' : Hs} {k : Nat} {d : D} {p : PyData}
@[simp] theorem wipe1 {a : Option D} {i : Nat} {e : EnvD} : wipeD e [i] = e.set i none := rfl
@[simp] theorem apD1 {i : Nat} {e : EnvD} {d : D} : apD e [(i, d)] = e.set i (some d) := rfl
/-- a copied list does not hold itself -/
def Own (s : Hs) (k : Nat) (x : D) (p : PyData) : Prop := ∀ n, x = .ref n → ∃ ds ps, s.get n = some (.lst ds) ∧ p = .list ps ∧ ds.length = ps.length ∧ ds.length < line ∧ ∀ (i : Nat) d p, ds[i]? = some d → ps[i]? = some p → Dn (· = n) s k d p
theorem Own.fr {x : D} (o : Own S k x p) (f : Fr No S S') : Own S' k x p := fun n e => by
  obtain ⟨ds, ps, h1, h2, h3, h4, h5⟩ := o n e
  exact ⟨ds, ps, f.at_ _ _ id h1, h2, h3, h4, fun i d p a b => (h5 i d p a b).fr f.any⟩
theorem same_pur {F : Fn} (H : ∀ {d p q S}, Dn q S k d p → Ok (fun x s => Fr No S s ∧ Dn (· < S.n) s k x p ∧ Own s k x p) (F [d] S)) (h : Dn q S k d p) : Ok (fun x s => Fr No S s ∧ Dn (· < S.n) s k x p ∧ Own s k x p) (pur F [d] S) := by
  cases hf : frees [d] with
  | false =>
    rw [pur_raw hf]
    exact H h
  | true =>
    have f : free d = true := (Bool.and_eq_true_iff.mp hf).1
    have h0 : Dn No S0 k d p := h.free f
    obtain ⟨x, s, e, fr, dn, ow⟩ := (H h0).eq
    have fin : (if free x then Res.ok x S else F [d] S) = pur F [d] S → Ok (fun x s => Fr No S s ∧ Dn (· < S.n) s k x p ∧ Own s k x p) (pur F [d] S) := fun e2 => by
      rw [← e2]
      by_cases hx : free x = true
      · rw [if_pos hx]
        exact ⟨Fr.refl, dn.free hx, fun n e => by subst e; cases hx⟩
      · rw [if_neg hx]
        exact H h
    cases x with
    | ref n =>
      cases dn
      cases h
      cases f
    | _ => exact fin (by unfold pur; rw [if_pos hf, e])
theorem iter_tup {xs : List D} {P : DI → Hs → Prop} {env : EnvD} {i : Nat} (h : env[i]? = some (some (.tup xs))) : Ok P (mIter (mV i) env S) = P (.tup xs) S := by
  unfold mIter
  simp [h]
theorem iter_lst {n : Nat} {xs : List D} {P : DI → Hs → Prop} {env : EnvD} {i : Nat} (h : env[i]? = some (some (.ref n))) (g : S.get n = some (.lst xs)) : Ok P (mIter (mV i) env S) = P (.lst n) S := by
  unfold mIter
  simp [h, listOf_get g]
theorem same_ok : ∀ (k : Nat) {d : D} {p : PyData} {q : Nat → Prop} {S : Hs}, Dn q S k d p → Ok (fun x s => Fr No S s ∧ Dn (· < S.n) s k x p ∧ Own s k x p) (F__law_same (k + 1) [d] S)
  | k, d, p, q, S, h => by
    have i1 := h.isi (b := "dict") (by simp)
    have i2 := h.isi (b := "list") (by simp)
    have i3 := h.isi (b := "tuple") (by simp)
    show Ok _ (runB 1 3 (FB__law_same (F__law_same k)) [d] S)
    refine o_run rfl ?_
    show Wp _ _ (FB__law_same (F__law_same k) [some d, none, none] S)
    unfold FB__law_same
    cases h with
    | non => simpa [i1, i2, i3, tyOf] using ⟨Fr.refl, .non, fun n e => nomatch e⟩
    | bl b => simpa [i1, i2, i3, tyOf] using ⟨Fr.refl, .bl b, fun n e => nomatch e⟩
    | int i => simpa [i1, i2, i3, tyOf] using ⟨Fr.refl, .int i, fun n e => nomatch e⟩
    | str h => simpa [i1, i2, i3, tyOf] using ⟨Fr.refl, .str h, fun n e => nomatch e⟩
    | @tup k ds ps l m r =>
      simp [i1, i2, i3, tyOf]
      refine o_lc No ds (fun S1 i y s => ∃ p, ps[i]? = some p ∧ Dn (· < S1.n + 1) s k y p) ?_
      rw [iter_tup rfl]
      refine ⟨itm_tup, m, id, fun i d hd => ⟨[(1, d)], rfl, fun s fr hn => ?_⟩, fun i y s s' f ⟨p, hp, z⟩ => ⟨p, hp, z.fr (f.mono fun n hn => hn.elim (fun z => z.elim) fun z => by omega)⟩, fun s' zs fr hn g l2 hz => ?_⟩
      · obtain ⟨p, hp⟩ := there l.symm hd
        have dn := (r i d p hd hp).fr fr.any
        simp [dn.noX]
        exact (same_pur (same_ok k) dn).mono fun y s' ⟨f, z, _⟩ => ⟨f, p, hp, z.weak fun n hn => by omega⟩
      · unfold tupleF
        simp [listOf_get g]
        exact ⟨fr, .tup (l2.trans l) (by omega) fun i y p hy hp => by
          obtain ⟨p', e, z⟩ := hz i y hy
          rw [hp] at e
          cases e
          exact z.weak fun n hn => by omega, fun n e => nomatch e⟩
    | @lst k n ds ps hq h l m r =>
      simp [i1, i2, i3, tyOf]
      refine o_lc No ds (fun S1 i y s => ∃ p, ps[i]? = some p ∧ Dn (· < S1.n + 1) s k y p) ?_
      rw [iter_lst rfl h]
      refine ⟨itm_lst h id, Nat.le_of_lt m, id, fun i d hd => ⟨[(1, d)], rfl, fun s fr hn => ?_⟩, fun i y s s' f ⟨p, hp, z⟩ => ⟨p, hp, z.fr (f.mono fun n hn => hn.elim (fun z => z.elim) fun z => by omega)⟩, fun s' zs fr hn g l2 hz => ?_⟩
      · obtain ⟨p, hp⟩ := there l.symm hd
        have dn := (r i d p hd hp).fr fr.any
        simp [dn.noX]
        exact (same_pur (same_ok k) dn).mono fun y s' ⟨f, z, _⟩ => ⟨f, p, hp, z.weak fun n hn => by omega⟩
      · exact ⟨fr, .lst (Nat.lt_irrefl _) g (l2.trans l) (by omega) fun i y p hy hp => by
          obtain ⟨p', e, z⟩ := hz i y hy
          rw [hp] at e
          cases e
          exact z.weak fun n hn => by omega, fun n e => by
          cases e
          exact ⟨zs, ps, g, rfl, l2.trans l, by omega, fun i y p hy hp => by
            obtain ⟨p', e, z⟩ := hz i y hy
            rw [hp] at e
            cases e
            exact (z.weak fun n hn => by omega).up (Nat.le_succ k)⟩⟩
theorem exact_pur {F : Fn} {d' : D} {k' : Nat} {p' : PyData} (H : ∀ {S}, Dn q S k d p → Dn q' S k' d' p' → Ok (fun x s => x = .bl true ∧ Fr No S s) (F [d, d'] S)) (h : Dn q S k d p) (h' : Dn q' S k' d' p') : Ok (fun x s => x = .bl true ∧ Fr No S s) (pur F [d, d'] S) :=
  pur_any rfl fun S' hS => by
    cases hf : frees [d, d'] with
    | false =>
      have e := hS hf
      subst e
      exact H h h'
    | true =>
      obtain ⟨f1, f2⟩ := Bool.and_eq_true_iff.mp hf
      exact H (h.free f1) (h'.free (Bool.and_eq_true_iff.mp f2).1)
theorem pur_same {F : Fn} {ds : List D} {x : D} (hx : free x = true) (h : ∀ S', (frees ds = false → S' = S) → Ok (fun y s => y = x ∧ s = S') (F ds S')) : pur F ds S = .ok x S := by
  cases hf : frees ds with
  | true => exact pur_val hf hx ((h S0 (fun z => nomatch hf.symm.trans z)).mono fun _ _ z => z.1)
  | false =>
    rw [pur_raw hf]
    obtain ⟨y, s, e, rfl, rfl⟩ := (h S fun _ => rfl).eq
    exact e
theorem all_true : ∀ {zs : List D}, (∀ (m : Nat) y, zs[m]? = some y → y = .bl true) → ∃ bs, mapO blOf zs = some bs ∧ bs.all id = true
  | [], _ => ⟨[], rfl, rfl⟩
  | z :: zs, h => by
    have e := h 0 z rfl
    subst e
    obtain ⟨bs, e1, e2⟩ := all_true fun m y hy => h (m + 1) y hy
    exact ⟨true :: bs, by unfold mapO; rw [e1] <;> rfl, by simpa using e2⟩
theorem allF_true {n : Nat} {zs : List D} (g : S.get n = some (.lst zs)) (h : ∀ (m : Nat) y, zs[m]? = some y → y = .bl true) : allF [.ref n] S = .ok (.bl true) S := by
  obtain ⟨bs, e1, e2⟩ := all_true h
  unfold allF
  simp only [listOf_get g, e1, e2]
theorem zip_at {xs ys : List D} {i : Nat} {d : D} (h : (zipL2 xs ys)[i]? = some d) : ∃ x y, xs[i]? = some x ∧ ys[i]? = some y ∧ d = .tup [x, y] := by
  rw [← pairAt_zip] at h
  exact pairAt_some h
theorem len_tup {xs : List D} : lenF [.tup xs] S = .ok (.int xs.length) S := rfl
theorem len_lst {n : Nat} {xs : List D} (g : S.get n = some (.lst xs)) : lenF [.ref n] S = .ok (.int xs.length) S := by
  unfold lenF
  simp only [listOf_get g]
theorem kit2 : ∀ a ∈ ["NoneType", "bool", "int", "str", "tuple", "list"], kitBs a [.ty "list", .ty "tuple"] = some (a == "list" || a == "tuple") := by decide +kernel
theorem Dn.isi2 (h : Dn q S k d p) : isiF [d, .tup [.ty "list", .ty "tuple"]] S = .ok (.bl (tyOf p == "list" || tyOf p == "tuple")) S := by
  have e := kit2 (tyOf p) (by cases h <;> simp [tyOf])
  unfold isiF
  simp only [h.ty, e]
theorem eq_bl (a b : Bool) : eqD (.bl a) (.bl b) S = .ok (.bl (a == b)) S := by
  rw [(Dn.bl (q := No) (k := 0) (S := S) a).eq (Dn.bl (q := No) (k := 0) b) (by omega) (by omega)]
  cases a <;> cases b <;> rfl
theorem eq_int (a b : Int) : eqD (.int a) (.int b) S = .ok (.bl (decide (a = b))) S := by
  rw [(Dn.int (q := No) (k := 0) (S := S) a).eq (Dn.int (q := No) (k := 0) b) (by omega) (by omega)]
  by_cases h : a = b <;> simp [PyData.eqv, h]
theorem zipT_ev {P : DI → Hs → Prop} {env : EnvD} {i j : Nat} {xs ys : List D} (h1 : env[i]? = some (some (.tup xs))) (h2 : env[j]? = some (some (.tup ys))) : Ok P (mZip (mCons (mV i) (mCons (mV j) mNil)) env S) = P (.zipT xs ys) S := by
  unfold mZip
  simp [h1, h2]
theorem zipL_ev {P : DI → Hs → Prop} {env : EnvD} {i j n m : Nat} {xs ys : List D} (h1 : env[i]? = some (some (.ref n))) (h2 : env[j]? = some (some (.ref m))) (g : S.get n = some (.lst xs)) (g' : S.get m = some (.lst ys)) : Ok P (mZip (mCons (mV i) (mCons (mV j) mNil)) env S) = P (.zipL n m) S := by
  unfold mZip
  simp [h1, h2, listOf_get g, listOf_get g']
theorem exact_ok : ∀ (k : Nat) {d d' : D} {p : PyData} {q q' : Nat → Prop} {S : Hs}, k ≤ 30 → Dn q S k d p → Dn q' S k d' p → Ok (fun x s => x = .bl true ∧ Fr No S s) (F__law_exact (k + 1) [d, d'] S)
  | k, d, d', p, q, q', S, hk, h, h' => by
    have i2 := h.isi2
    have j1 := h.isi (b := "list") (by simp)
    have j2 := h.isi (b := "tuple") (by simp)
    have j3 := h.isi (b := "dict") (by simp)
    have j4 := h.isi (b := "bool") (by simp)
    have l1 := h'.isi (b := "list") (by simp)
    have l2 := h'.isi (b := "tuple") (by simp)
    have l4 := h'.isi (b := "bool") (by simp)
    have hln : (2 : Nat) ≤ line := by decide
    have e0 := h.eq h' (by omega) (by omega)
    have er := h.refl
    show Ok _ (runB 2 6 (FB__law_exact (F__law_exact k)) [d, d'] S)
    refine o_run rfl ?_
    show Wp _ _ (FB__law_exact (F__law_exact k) [some d, some d', none, none, none, none] S)
    unfold FB__law_exact
    cases h with
    | non => cases h'; simpa [i2, j3, j4, l4, tyOf, eq_bl, e0, er, hln] using Fr.refl
    | bl b => cases h'; simpa [i2, j3, j4, l4, tyOf, eq_bl, e0, er, hln] using Fr.refl
    | int i => cases h'; simpa [i2, j3, j4, l4, tyOf, eq_bl, e0, er, hln] using Fr.refl
    | str h => cases h'; simpa [i2, j3, j4, l4, tyOf, eq_bl, e0, er, hln] using Fr.refl
    | @tup k ds ps l m r =>
      cases h' with
      | @tup _ ds' _ l' m' r' =>
        simp [i2, j1, j2, j3, j4, l1, l2, l4, tyOf, eq_bl, e0, er, hln, len_tup, eq_int, l, l']
        refine o_lc No (zipL2 ds ds') (fun _ _ y _ => y = .bl true) ?_
        rw [zipT_ev rfl rfl]
        refine ⟨itm_zipT, by simp [zipL2]; omega, id, fun i d hd => ?_, fun _ _ _ _ _ z => z, fun s' zs fr hn g2 l2 hz => ?_⟩
        · obtain ⟨x, y, hx, hy, rfl⟩ := zip_at hd
          refine ⟨[(4, x), (5, y)], rfl, fun s fr hn => ?_⟩
          obtain ⟨p, hp⟩ := there l.symm hx
          have dx := (r i x p hx hp).fr fr.any
          have dy := (r' i y p hy hp).fr fr.any
          simp [apD, wipeD, dx.noX, dy.noX]
          exact (exact_pur (fun a b => exact_ok k (by omega) a b) dx dy).mono fun y s' ⟨e, f⟩ => ⟨f, e⟩
        · rw [allF_true g2 hz]
          exact ⟨rfl, fr⟩
    | @lst k n ds ps hq g l m r =>
      cases h' with
      | @lst _ n' ds' _ hq' g' l' m' r' =>
        simp [i2, j1, j2, j3, j4, l1, l2, l4, tyOf, eq_bl, e0, er, hln, len_lst g, len_lst g', eq_int, l, l']
        refine o_lc No (zipL2 ds ds') (fun _ _ y _ => y = .bl true) ?_
        rw [zipL_ev rfl rfl g g']
        refine ⟨itm_zipL g g' id id, by simp [zipL2]; omega, id, fun i d hd => ?_, fun _ _ _ _ _ z => z, fun s' zs fr hn g2 l2 hz => ?_⟩
        · obtain ⟨x, y, hx, hy, rfl⟩ := zip_at hd
          refine ⟨[(4, x), (5, y)], rfl, fun s fr hn => ?_⟩
          obtain ⟨p, hp⟩ := there l.symm hx
          have dx := (r i x p hx hp).fr fr.any
          have dy := (r' i y p hy hp).fr fr.any
          simp [apD, wipeD, dx.noX, dy.noX]
          exact (exact_pur (fun a b => exact_ok k (by omega) a b) dx dy).mono fun y s' ⟨e, f⟩ => ⟨f, e⟩
        · rw [allF_true g2 hz]
          exact ⟨rfl, fr⟩
end
end K80

/-! QD: k80: spelt words, by the program and by the law. -/
namespace K80
open PySem MR
def letB (c : Nat) : Bool := decide (97 ≤ c) && decide (c ≤ 122)
def speltB (z : Str) : Bool := decide (0 < z.cps.size) && decide (z.cps.size < 9) && z.cps.toList.all letB
def speltP : PyData → Bool
  | .str z => speltB z
  | _ => false
theorem letters : ("abcdefghijklmnopqrstuvwxyz" : Str).cps.toList = List.range' 97 26 := by decide +kernel
theorem mem_letters (c : Nat) : decide (c ∈ ("abcdefghijklmnopqrstuvwxyz" : Str).cps.toList) = letB c := by
  rw [letters]
  unfold letB
  by_cases h : 97 ≤ c ∧ c ≤ 122
  · rw [decide_eq_true (List.mem_range'_1.mpr ⟨by omega, by omega⟩), decide_eq_true h.1, decide_eq_true h.2]
    rfl
  · rw [decide_eq_false (fun z => h (by have := List.mem_range'_1.mp z; omega))]
    by_cases h1 : 97 ≤ c
    · rw [decide_eq_true h1, decide_eq_false (by omega)]
      rfl
    · rw [decide_eq_false h1]
      rfl
theorem notin_let (c : Nat) (S : Hs) : notinD (.str ⟨#[c]⟩) (.str "abcdefghijklmnopqrstuvwxyz") S = .ok (.bl (!letB c)) S := by
  rw [← mem_letters]
  rfl
theorem all_take {l : List Nat} {f : Nat → Bool} : ∀ {i : Nat}, (∀ j < i, ∀ c, l[j]? = some c → f c = true) → i = l.length → l.all f = true := fun {i} h e => by
  rw [List.all_eq_true]
  intro c hc
  obtain ⟨j, hj, e2⟩ := List.mem_iff_getElem.mp hc
  exact h j (by omega) c (by rw [List.getElem?_eq_getElem hj, e2])
section
variable {q q' : Nat → Prop} {S S' : Hs} {k : Nat} {d : D} {p : PyData}
theorem sgn_at {z : Str} {i : Nat} {d : D} (h : (sgnL z)[i]? = some d) : ∃ c, z.cps.toList[i]? = some c ∧ d = .str ⟨#[c]⟩ := by
  unfold sgnL at h
  rw [List.getElem?_map] at h
  obtain ⟨c, h1, h2⟩ := Option.map_eq_some_iff.mp h
  exact ⟨c, h1, h2.symm⟩
theorem iter_str {z : Str} {P : DI → Hs → Prop} {env : EnvD} {i : Nat} (h : env[i]? = some (some (.str z))) : Ok P (mIter (mV i) env S) = P (.str z) S := by
  unfold mIter
  simp [h]
theorem spelt_str (z : Str) (S : Hs) (hl : z.cps.size ≤ line) : Ok (fun x s => x = .bl (speltB z) ∧ s = S) (F_is_spelt [.str z] S) := by
  have i1 : isiF [.str z, .ty "str"] S = .ok (.bl true) S := by kernel_rfl
  have i2 : lenF [.str z] S = .ok (.int z.cps.size) S := by
    show (if z.cps.size ≤ line then Res.ok (D.int z.cps.size) S else .bad) = _
    rw [if_pos hl]
  refine o_run rfl ?_
  show Wp _ _ (FB_is_spelt [some (.str z), none] S)
  unfold FB_is_spelt
  simp [i1, i2, ltD]
  by_cases h1 : 0 < z.cps.size
  · by_cases h2 : z.cps.size < 9
    · have h2' : ((z.cps.size : Nat) : Int) < 9 := by omega
      simp [h1, h2']
      refine w_for (sgnL z) (fun S1 i e s => s = S ∧ (∃ o, e = [some (.str z), o]) ∧ ∀ j < i, ∀ c, z.cps.toList[j]? = some c → letB c = true) ?_
      rw [iter_str rfl]
      refine ⟨by simp [sgnL, DI.size], ⟨rfl, ⟨none, rfl⟩, fun j hj => by omega⟩, fun i e s d ⟨hs, ⟨o, he⟩, hI⟩ hd => ?_, fun e s ⟨hs, _, hI⟩ => ?_⟩
      · subst hs he
        obtain ⟨c, hc, rfl⟩ := sgn_at hd
        refine ⟨(itm_str (q := No)).next i s Fr.refl ▸ congrArg some hd, [(1, .str ⟨#[c]⟩)], rfl, ?_⟩
        simp [notin_let]
        cases hl2 : letB c with
        | true =>
          simp
          intro j hj c' hc'
          rw [← Array.getElem?_toList] at hc'
          by_cases hji : j = i
          · subst hji
            rw [hc] at hc'
            cases hc'
            exact hl2
          · exact hI j (by omega) c' hc'
        | false =>
          simp
          unfold speltB
          have : z.cps.toList.all letB = false := by
            rw [List.all_eq_false]
            exact ⟨c, List.mem_of_getElem? hc, by simp [hl2]⟩
          rw [this]
          simp
      · subst hs
        refine ⟨(itm_str (q := No)).next _ s Fr.refl |>.trans (by rw [List.getElem?_eq_none (Nat.le_refl _)]), ?_⟩
        simp
        unfold speltB
        rw [all_take hI (by simp [sgnL])]
        simp [h1, h2]
    · have h2' : ¬ ((z.cps.size : Nat) : Int) < 9 := by omega
      simp [h1, h2']
      unfold speltB
      simp [h2]
  · simp [h1]
    unfold speltB
    simp [h1]
theorem spelt_raw (h : Dn q S k d p) : Ok (fun x s => x = .bl (speltP p) ∧ s = S) (F_is_spelt [d] S) := by
  have i1 := h.isi (b := "str") (by simp)
  have go : (tyOf p == "str") = false → speltP p = false → Ok (fun x s => x = .bl (speltP p) ∧ s = S) (F_is_spelt [d] S) := fun e1 e2 => by
    refine o_run rfl ?_
    show Wp _ _ (FB_is_spelt [some d, none] S)
    unfold FB_is_spelt
    simp [i1, e1, e2, h.noX]
  cases h with
  | str h => exact spelt_str _ S h.2
  | _ => exact go rfl rfl
theorem is_spelt_ok (h : Dn q S k d p) : pur F_is_spelt [d] S = .ok (.bl (speltP p)) S := pur_same rfl fun S' hS => by
  cases hf : frees [d] with
  | false =>
    have e := hS hf
    subst e
    exact spelt_raw h
  | true => exact spelt_raw (h.free (q' := No) (Bool.and_eq_true_iff.mp hf).1)
theorem lt_one (a b : Nat) : decide (([a] : List Nat) < [b]) = decide (a < b) := by
  by_cases h : a < b
  · rw [decide_eq_true h]
    exact decide_eq_true (List.Lex.rel h)
  · rw [decide_eq_false h]
    exact decide_eq_false fun z => by
      cases z with
      | rel z => exact h z
      | cons z => cases z
theorem le_a (c : Nat) (S : Hs) : leD (.str "a") (.str ⟨#[c]⟩) S = .ok (.bl (decide (97 ≤ c))) S := by
  show Res.ok (D.bl (!decide (([c] : List Nat) < [97]))) S = _
  rw [lt_one]
  by_cases h : c < 97
  · rw [decide_eq_true h, decide_eq_false (by omega)]
    rfl
  · rw [decide_eq_false h, decide_eq_true (by omega)]
    rfl
theorem le_z (c : Nat) (S : Hs) : leD (.str ⟨#[c]⟩) (.str "z") S = .ok (.bl (decide (c ≤ 122))) S := by
  show Res.ok (D.bl (!decide (([122] : List Nat) < [c]))) S = _
  rw [lt_one]
  by_cases h : 122 < c
  · rw [decide_eq_true h, decide_eq_false (by omega)]
    rfl
  · rw [decide_eq_false h, decide_eq_true (by omega)]
    rfl
theorem bls_all {f : Nat → Bool} : ∀ {cs : List Nat} {zs : List D}, zs.length = cs.length → (∀ (m : Nat) y, zs[m]? = some y → ∃ c, cs[m]? = some c ∧ y = .bl (f c)) → ∃ bs, mapO blOf zs = some bs ∧ bs.all id = cs.all f
  | [], [], _, _ => ⟨[], rfl, rfl⟩
  | [], _ :: _, l, _ => nomatch l
  | _ :: _, [], l, _ => nomatch l
  | c :: cs, z :: zs, l, h => by
    obtain ⟨c', e, e2⟩ := h 0 z rfl
    cases e
    subst e2
    obtain ⟨bs, e1, e2⟩ := bls_all (f := f) (cs := cs) (zs := zs) (Nat.succ.inj l) fun m y hy => h (m + 1) y hy
    exact ⟨f c :: bs, by unfold mapO; rw [e1] <;> rfl, by rw [List.all_cons, List.all_cons, e2]; rfl⟩
theorem allF_of {n : Nat} {zs : List D} {bs : List Bool} (g : S.get n = some (.lst zs)) (h : mapO blOf zs = some bs) : allF [.ref n] S = .ok (.bl (bs.all id)) S := by
  unfold allF
  simp only [listOf_get g, h]
theorem word_str (z : Str) (S : Hs) (hl : z.cps.size ≤ line) : Ok (fun x s => x = .bl (speltB z)) (F__law_is_word [.str z] S) := by
  have i1 : isiF [.str z, .ty "str"] S = .ok (.bl true) S := by kernel_rfl
  have i2 : lenF [.str z] S = .ok (.int z.cps.size) S := by
    show (if z.cps.size ≤ line then Res.ok (D.int z.cps.size) S else .bad) = _
    rw [if_pos hl]
  refine o_run rfl ?_
  show Wp _ _ (FB__law_is_word [some (.str z), none] S)
  unfold FB__law_is_word
  simp [i1, i2, ltD]
  by_cases h1 : 0 < z.cps.size
  · by_cases h2 : z.cps.size < 9
    · have h2' : ((z.cps.size : Nat) : Int) < 9 := by omega
      simp [h1, h2']
      refine o_lc No (sgnL z) (fun _ i y _ => ∃ c, z.cps.toList[i]? = some c ∧ y = .bl (letB c)) ?_
      have e : (mIter (mCall listSF (mCons (mV 0) mNil))) [some (.str z), none] S = .ok (.lst S.n) (S.new (.lst (sgnL z))) := by
        unfold mIter
        have e1 : mCall listSF (mCons (mV 0) mNil) [some (.str z), none] S = listSF [.str z] S := rfl
        rw [e1]
        unfold listSF
        simp only [if_pos hl]
        show (match MR.listOf (S.new (.lst (sgnL z))) S.n with
          | some _ => Res.ok (DI.lst S.n) (S.new (.lst (sgnL z)))
          | none => .bad) = _
        rw [listOf_get (Hs.get_new _ _)]
      rw [e]
      refine ⟨itm_lst (Hs.get_new _ _) id, by simp [sgnL]; omega, id, fun i d hd => ⟨[(1, d)], rfl, fun s fr hn => ?_⟩, fun _ _ _ _ _ z => z, fun s' zs fr hn g l2 hz => ?_⟩
      · obtain ⟨c, hc, rfl⟩ := sgn_at hd
        simp [le_a, le_z]
        by_cases ha : 97 ≤ c
        · simp [ha, Fr.refl]
          exact ⟨c, by simpa using hc, by simp [letB, ha]⟩
        · simp [ha, Fr.refl]
          exact ⟨c, by simpa using hc, by simp [letB, ha]⟩
      · obtain ⟨bs, e1, e2⟩ := bls_all (by simpa [sgnL] using l2) hz
        rw [allF_of g e1, e2]
        show _ = _
        unfold speltB
        simp [h1, h2]
    · have h2' : ¬ ((z.cps.size : Nat) : Int) < 9 := by omega
      simp [h1, h2']
      unfold speltB
      simp [h2]
  · simp [h1]
    unfold speltB
    simp [h1]
theorem is_word_ok {z : Str} (hl : z.cps.size ≤ line) : pur F__law_is_word [.str z] S = .ok (.bl (speltB z)) S := pur_val rfl rfl (word_str z S0 hl)
end
end K80

/-! QE: k80: what a step is, by the program and by the law. -/
namespace K80
open PySem MR
inductive Stp where
  | keep | leave | exch (z : Str) | put (z : Str)
def form : PyData → Option Stp
  | .tuple [.str s] => if s = "keep" then some .keep else if s = "leave" then some .leave else none
  | .tuple [.str s, .str z] => if s = "exchange" then some (.exch z) else if s = "put" then some (.put z) else none
  | _ => none
def okS : Stp → Bool
  | .exch z => speltB z
  | .put z => speltB z
  | _ => true
def stepB (p : PyData) : Bool := match form p with
  | some s => okS s
  | none => false
theorem beq_dec (a b : Str) : (a == b) = decide (b = a) := by
  rw [Bool.eq_iff_iff, beq_iff_eq, decide_eq_true_iff]
  exact eq_comm
theorem stepB1 (s : Str) : stepB (.tuple [.str s]) = (decide (s = "keep") || decide (s = "leave")) := by
  show (match (if s = "keep" then some Stp.keep else if s = "leave" then some Stp.leave else none) with
    | some s => okS s
    | none => false) = _
  by_cases h1 : s = "keep"
  · rw [if_pos h1, decide_eq_true h1]
    rfl
  · by_cases h2 : s = "leave"
    · rw [if_neg h1, if_pos h2, decide_eq_true h2, Bool.or_true]
      rfl
    · rw [if_neg h1, if_neg h2, decide_eq_false h1, decide_eq_false h2]
      rfl
theorem stepB2 (s : Str) (p : PyData) : stepB (.tuple [.str s, p]) = ((decide (s = "exchange") || decide (s = "put")) && speltP p) := by
  cases p with
  | str z =>
    show (match (if s = "exchange" then some (Stp.exch z) else if s = "put" then some (Stp.put z) else none) with
      | some s => okS s
      | none => false) = _
    by_cases h1 : s = "exchange"
    · rw [if_pos h1, decide_eq_true h1]
      rfl
    · by_cases h2 : s = "put"
      · rw [if_neg h1, if_pos h2, decide_eq_true h2, Bool.or_true]
        rfl
      · rw [if_neg h1, if_neg h2, decide_eq_false h1, decide_eq_false h2]
        rfl
  | _ => simp [stepB, form, speltP]
section
variable {q q' : Nat → Prop} {S S' : Hs} {k : Nat} {d : D} {p : PyData}
theorem notin12 (n : Int) : notinD (.int n) (.tup [.int 1, .int 2]) S = .ok (.bl (!((1 : Int) == n || ((2 : Int) == n || false)))) S := rfl
theorem in_ep (s : Str) : inD (.str s) (.tup [.str "exchange", .str "put"]) S = .ok (.bl (("exchange" : Str) == s || (("put" : Str) == s || false))) S := rfl
theorem ok_lit : PyData.strOk "keep" = true ∧ PyData.strOk "leave" = true ∧ PyData.strOk "exchange" = true ∧ PyData.strOk "put" = true := by decide +kernel
theorem inT_kl {s : Str} (h : PyData.strOk s = true) : inTD (.tup [.str s]) (.tup [.tup [.str "keep"], .tup [.str "leave"]]) S = .ok (.bl (("keep" : Str) == s || (("leave" : Str) == s || false))) S := by
  have e1 : MR.toP S deep (.tup [.str s]) = some (.tuple [.str s]) := rfl
  have e2 : MR.toP S deep (.tup [.tup [.str "keep"], .tup [.str "leave"]]) = some (.tuple [.tuple [.str "keep"], .tuple [.str "leave"]]) := rfl
  have s1 : SeqAt.shaped (.tuple [.str s]) = true := by simp [SeqAt.shaped, PyData.canLay0, PyData.canLayAll0, PyData.depth, PyData.depthAll, h]
  have s2 : SeqAt.shaped (.tuple [.tuple [.str "keep"], .tuple [.str "leave"]]) = true := by decide +kernel
  unfold inTD inTB
  rw [e1, e2]
  simp only [s1, s2, Bool.and_self, if_true]
  simp [PyData.eqv, PyData.eqvAll]
theorem stp1 {d0 : D} {p0 : PyData} (h : Dn q S k d0 p0) : Ok (fun x s => x = .bl (stepB (.tuple [p0])) ∧ s = S) (F_is_step [.tup [d0]] S) := by
  have i1 : isiF [.tup [d0], .ty "tuple"] S = .ok (.bl true) S := rfl
  have i2 := h.isi (b := "str") (by simp)
  have e1 : lenF [.tup [d0]] S = .ok (.int 1) S := rfl
  have e2 : ixD (.tup [d0]) (.int 0) S = .ok d0 S := rfl
  have go : (tyOf p0 == "str") = false → stepB (.tuple [p0]) = false → Ok (fun x s => x = .bl (stepB (.tuple [p0])) ∧ s = S) (F_is_step [.tup [d0]] S) := fun g1 g2 => by
    refine o_run rfl ?_
    show Wp _ _ (FB_is_step [some (.tup [d0])] S)
    unfold FB_is_step
    simp [i1, i2, e1, e2, g1, g2, notin12, show (2 : Nat) ≤ line by decide]
  cases h with
  | @str _ s h =>
    refine o_run rfl ?_
    show Wp _ _ (FB_is_step [some (.tup [.str s])] S)
    unfold FB_is_step
    simp [i1, i2, e1, e2, tyOf, notin12, inT_kl h.1, eq_int, show (2 : Nat) ≤ line by decide]
    rw [beq_dec, beq_dec, stepB1]
  | _ => exact go rfl rfl
theorem stp2 {d0 d1 : D} {p0 p1 : PyData} (h : Dn q S k d0 p0) (h1 : Dn q S k d1 p1) : Ok (fun x s => x = .bl (stepB (.tuple [p0, p1])) ∧ s = S) (F_is_step [.tup [d0, d1]] S) := by
  have i1 : isiF [.tup [d0, d1], .ty "tuple"] S = .ok (.bl true) S := rfl
  have i2 := h.isi (b := "str") (by simp)
  have e1 : lenF [.tup [d0, d1]] S = .ok (.int 2) S := rfl
  have e2 : ixD (.tup [d0, d1]) (.int 0) S = .ok d0 S := rfl
  have e3 : ixD (.tup [d0, d1]) (.int 1) S = .ok d1 S := rfl
  have go : (tyOf p0 == "str") = false → stepB (.tuple [p0, p1]) = false → Ok (fun x s => x = .bl (stepB (.tuple [p0, p1])) ∧ s = S) (F_is_step [.tup [d0, d1]] S) := fun g1 g2 => by
    refine o_run rfl ?_
    show Wp _ _ (FB_is_step [some (.tup [d0, d1])] S)
    unfold FB_is_step
    simp [i1, i2, e1, e2, g1, g2, notin12, show (2 : Nat) ≤ line by decide]
  cases h with
  | @str _ s h =>
    refine o_run rfl ?_
    show Wp _ _ (FB_is_step [some (.tup [.str s, d1])] S)
    unfold FB_is_step
    simp only [Wp_seq, Wp_if, o_or, o_not, o_call, o_cons, o_v, o_mC, o_nil, o_op2, o_tup, Wp_ret, o_and, o_own]
    simp [i1, i2, e1, e2, e3, tyOf, notin12, eq_int, is_spelt_ok h1, in_ep, -Bool.or_eq_true, show (2 : Nat) ≤ line by decide]
    rw [stepB2, beq_dec, beq_dec]
    by_cases a : s = "exchange"
    · simp [a]
    · by_cases b : s = "put"
      · simp [b]
      · simp [a, b]
  | _ => exact go rfl (by cases p1 <;> rfl)
theorem step_raw (h : Dn q S k d p) : Ok (fun x s => x = .bl (stepB p) ∧ s = S) (F_is_step [d] S) := by
  have i1 := h.isi (b := "tuple") (by simp)
  have hnx := h.noX
  have go : (tyOf p == "tuple") = false → stepB p = false → Ok (fun x s => x = .bl (stepB p) ∧ s = S) (F_is_step [d] S) := fun g1 g2 => by
    refine o_run rfl ?_
    show Wp _ _ (FB_is_step [some d] S)
    unfold FB_is_step
    simp [i1, g1, g2, hnx]
  cases h with
  | @tup k ds ps l m r =>
    match ds, ps, l, r with
    | [], [], _, _ =>
      refine o_run rfl ?_
      show Wp _ _ (FB_is_step [some (.tup [])] S)
      unfold FB_is_step
      have i1 : isiF [.tup [], .ty "tuple"] S = .ok (.bl true) S := rfl
      simp [i1, len_tup, notin12, stepB, form, show (2 : Nat) ≤ line by decide]
    | [d0], [p0], _, r => exact stp1 (r 0 d0 p0 rfl rfl)
    | [d0, d1], [p0, p1], _, r => exact stp2 (r 0 d0 p0 rfl rfl) (r 1 d1 p1 rfl rfl)
    | d0 :: d1 :: d2 :: ds, p0 :: p1 :: p2 :: ps, _, _ =>
      have e1 : stepB (.tuple (p0 :: p1 :: p2 :: ps)) = false := by cases p0 <;> first | rfl | (cases p1 <;> rfl)
      have e2 : ((1 : Int) == ((d0 :: d1 :: d2 :: ds).length : Nat)) = false := by simp; omega
      have e3 : ((2 : Int) == ((d0 :: d1 :: d2 :: ds).length : Nat)) = false := by simp; omega
      have e4 : lenF [.tup (d0 :: d1 :: d2 :: ds)] S = .ok (.int ((d0 :: d1 :: d2 :: ds).length : Nat)) S := rfl
      have e5 := notin12 (S := S) ((d0 :: d1 :: d2 :: ds).length : Nat)
      rw [e2, e3] at e5
      refine o_run rfl ?_
      show Wp _ _ (FB_is_step [some (.tup (d0 :: d1 :: d2 :: ds))] S)
      unfold FB_is_step
      simp only [Wp_seq, Wp_if, o_or, o_not, o_call, o_cons, o_v, o_mC, o_nil, o_op2, o_tup]
      have i1 : isiF [.tup (d0 :: d1 :: d2 :: ds), .ty "tuple"] S = .ok (.bl true) S := rfl
      simp [i1, tyOf, e4, show (2 : Nat) ≤ line by decide]
      simp at e5
      simp [e5, e1]
  | _ => exact go rfl rfl
theorem is_step_ok (h : Dn q S k d p) : pur F_is_step [d] S = .ok (.bl (stepB p)) S := pur_same rfl fun S' hS => by
  cases hf : frees [d] with
  | false =>
    have e := hS hf
    subst e
    exact step_raw h
  | true => exact step_raw (h.free (q' := No) (Bool.and_eq_true_iff.mp hf).1)
end
end K80

/-! QF: k80: the law's look at steps. -/
namespace K80
open PySem MR
theorem cut_to (xs : List D) (k : Nat) : cutD xs none (some (k : Int)) = xs.take k := by
  unfold cutD
  rw [HT.sIx_none, HT.sIx_nat]
  by_cases h : k ≤ xs.length
  · rw [Nat.min_eq_left h]
    rfl
  · rw [Nat.min_eq_right (by omega), List.take_of_length_le (by simp), List.take_of_length_le (by omega)]
    rfl
theorem cut_from (xs : List D) (k : Nat) : cutD xs (some (k : Int)) none = xs.drop k := by
  unfold cutD
  rw [HT.sIx_none, HT.sIx_nat]
  by_cases h : k ≤ xs.length
  · rw [Nat.min_eq_left h, List.take_of_length_le (by simp)]
  · rw [Nat.min_eq_right (by omega), List.drop_eq_nil_of_le (Nat.le_refl _), List.drop_eq_nil_of_le (by omega), List.take_nil]
theorem atI_nat {α : Type} (xs : List α) (i : Nat) : L2.atI xs (i : Int) = xs[i]? := by
  unfold L2.atI L2.ixN
  rw [if_pos (Int.natCast_nonneg _)]
  by_cases h : i < xs.length
  · rw [if_pos (by omega)]
    rfl
  · rw [if_neg (by omega), List.getElem?_eq_none (by omega)]
    rfl
theorem ix_tup {S : Hs} {xs : List D} {i : Nat} {d : D} (h : xs[i]? = some d) : ixD (.tup xs) (.int (i : Int)) S = .ok d S := by
  unfold ixD
  simp only [atI_nat, h]
theorem ix_lst {S : Hs} {n : Nat} {xs : List D} {i : Nat} {d : D} (g : S.get n = some (.lst xs)) (h : xs[i]? = some d) : ixD (.ref n) (.int (i : Int)) S = .ok d S := by
  unfold ixD
  simp only [listOf_get g, atI_nat, h]
theorem ix_str {S : Hs} {z : Str} {i c : Nat} (hl : z.cps.size ≤ line) (h : z.cps.toList[i]? = some c) : ixD (.str z) (.int (i : Int)) S = .ok (.str ⟨#[c]⟩) S := by
  have hl' : z.length ≤ line := hl
  unfold ixD
  simp only [atI_nat, h, hl', if_true]
def four : D := .tup [.tup [.str "keep"], .tup [.str "leave"], .tup [.str "exchange"], .tup [.str "put"]]
def inFour (p : PyData) : Bool := match p with
  | .str s => decide (s = "keep") || (decide (s = "leave") || (decide (s = "exchange") || decide (s = "put")))
  | _ => false
section
variable {q q' : Nat → Prop} {S S' : Hs} {k : Nat} {d v : D} {p : PyData}
theorem four_dn : Dn No S 2 four (.tuple [.tuple [.str "keep"], .tuple [.str "leave"], .tuple [.str "exchange"], .tuple [.str "put"]]) := by
  have one : ∀ z : Str, (PyData.strOk z = true ∧ z.cps.size ≤ line) → Dn No S 1 (.tup [.str z]) (.tuple [.str z]) := fun z h => .tup rfl (show (1 : Nat) ≤ line by decide) fun i d p a b => by
    match i, a, b with
    | 0, a, b => cases a; cases b; exact .str h
    | i + 1, a, b => simp at a
  refine .tup rfl (by decide) fun i d p a b => ?_
  match i, a, b with
  | 0, a, b => cases a; cases b; exact one _ (by decide +kernel)
  | 1, a, b => cases a; cases b; exact one _ (by decide +kernel)
  | 2, a, b => cases a; cases b; exact one _ (by decide +kernel)
  | 3, a, b => cases a; cases b; exact one _ (by decide +kernel)
  | i + 4, a, b => simp at a
theorem notin_four {k : Nat} (h : Dn q S k d p) (hk : k ≤ 40) : notinTD d four S = .ok (.bl (!([PyData.tuple [.str "keep"], .tuple [.str "leave"], .tuple [.str "exchange"], .tuple [.str "put"]].any fun z => PyData.eqv z p))) S := by
  have a := (h.up (m := 40) hk)
  have b := (four_dn (S := S)).up (m := 40) (by decide)
  unfold notinTD inTB
  show (match (match MR.toP S 40 d, MR.toP S 40 four with
    | some d, some (.tuple ds) => if SeqAt.shaped d && SeqAt.shaped (.tuple ds) then some (ds.any fun z => PyData.eqv z d) else none
    | _, _ => none) with
    | some b => Res.ok (D.bl (!b)) S
    | none => .bad) = _
  rw [a.toP, b.toP]
  simp only [a.shaped (by omega), b.shaped (by omega), Bool.and_self, if_true]
theorem notin_four1 (h : Dn q S k d p) (hk : k ≤ 30) : notinTD (.tup [d]) four S = .ok (.bl (!inFour p)) S := by
  have hd : Dn q S (k + 1) (.tup [d]) (.tuple [p]) := .tup rfl (show (1 : Nat) ≤ line by decide) fun i d p a b => by
    match i, a, b with
    | 0, a, b => cases a; cases b; exact h
    | i + 1, a, b => simp at a
  rw [notin_four hd (by omega)]
  congr 3
  have e : ∀ z : Str, PyData.eqv (.tuple [.str z]) (.tuple [p]) = (match p with
    | .str s => decide (s = z)
    | _ => false) := fun z => by
    cases h with
    | @str _ s h =>
      simp only [PyData.eqv, PyData.eqvAll]
      by_cases hz : s = z
      · subst hz; simp
      · have : ¬ z = s := fun y => hz y.symm
        simp [hz, this]
    | _ => simp [PyData.eqv, PyData.eqvAll]
  simp only [List.any_cons, List.any_nil, e, Bool.or_false]
  cases p <;> simp [inFour]
theorem notin_four0 : notinTD (.tup []) four S = .ok (.bl true) S := by
  rw [notin_four (q := No) (k := 1) (p := .tuple []) (.tup rfl (by decide) fun i d p a => by simp at a) (by omega)]
  simp [PyData.eqv, PyData.eqvAll]
def formB (p : PyData) : Bool := (form p).isSome
theorem formB1 (s : Str) : formB (.tuple [.str s]) = (decide (s = "keep") || decide (s = "leave")) := by
  unfold formB
  show (if s = "keep" then some Stp.keep else if s = "leave" then some Stp.leave else none).isSome = _
  by_cases h1 : s = "keep"
  · rw [if_pos h1, decide_eq_true h1]
    rfl
  · by_cases h2 : s = "leave"
    · rw [if_neg h1, if_pos h2, decide_eq_true h2, Bool.or_true]
      rfl
    · simp [h1, h2]
theorem formB2 (s : Str) (p : PyData) : formB (.tuple [.str s, p]) = ((decide (s = "exchange") || decide (s = "put")) && (tyOf p == "str")) := by
  cases p with
  | str z =>
    unfold formB
    show (if s = "exchange" then some (Stp.exch z) else if s = "put" then some (Stp.put z) else none).isSome = _
    by_cases h1 : s = "exchange"
    · rw [if_pos h1, decide_eq_true h1]
      rfl
    · by_cases h2 : s = "put"
      · rw [if_neg h1, if_pos h2, decide_eq_true h2, Bool.or_true]
        rfl
      · simp [h1, h2]
  | _ => simp [formB, form, tyOf]
/-- the law's test of one step, as it stands -/
def asBody : SM := mSeq (mIfS (mOr (mNot (mCall isiF (mCons (mV 1) (mCons (mC (.ty "tuple")) (mNil))))) (mOp2 notinTD (mSlice (mV 1) mNoPart (mPart (mC (.int 1)))) (mTup (mCons (mTup (mCons (mC (.str "keep")) (mNil))) (mCons (mTup (mCons (mC (.str "leave")) (mNil))) (mCons (mTup (mCons (mC (.str "exchange")) (mNil))) (mCons (mTup (mCons (mC (.str "put")) (mNil))) (mNil)))))))) (mRet (mC (.bl false))) (mNx)) (mIfS (mOr (mOp2 neD (mCall lenF (mCons (mV 1) (mNil))) (mOp2 addD (mC (.int 1)) (mCall intF (mCons (mOp2 inD (mOp2 ixD (mV 1) (mC (.int 0))) (mTup (mCons (mC (.str "exchange")) (mCons (mC (.str "put")) (mNil))))) (mNil))))) (mNot (mCall allF (mCons (mLc (mIter (mV 1)) (bName 2) (mTrue) (mCall isiF (mCons (mV 2) (mCons (mC (.ty "str")) (mNil)))) [2]) (mNil))))) (mRet (mC (.bl false))) (mNx))
theorem as_eq : FB__law_are_steps = mSeq (mIfS (mNot (mCall isiF (mCons (mV 0) (mCons (mC (.ty "list")) (mNil))))) (mRet (mC (.bl false))) (mNx)) (mSeq (mFor (mIter (mV 0)) (bName 1) asBody) (mRet (mC (.bl true)))) := rfl
theorem ne_int (a b : Int) : neD (.int a) (.int b) S = .ok (.bl (!decide (a = b))) S := by
  unfold neD
  rw [eq_int]
theorem bls_all2 {f : D → Bool} : ∀ {cs : List D} {zs : List D}, zs.length = cs.length → (∀ (m : Nat) y, zs[m]? = some y → ∃ c, cs[m]? = some c ∧ y = .bl (f c)) → ∃ bs, mapO blOf zs = some bs ∧ bs.all id = cs.all f
  | [], [], _, _ => ⟨[], rfl, rfl⟩
  | [], _ :: _, l, _ => nomatch l
  | _ :: _, [], l, _ => nomatch l
  | c :: cs, z :: zs, l, h => by
    obtain ⟨c', e, e2⟩ := h 0 z rfl
    cases e
    subst e2
    obtain ⟨bs, e1, e2⟩ := bls_all2 (f := f) (cs := cs) (zs := zs) (Nat.succ.inj l) fun m y hy => h (m + 1) y hy
    exact ⟨f c :: bs, by unfold mapO; rw [e1] <;> rfl, by rw [List.all_cons, List.all_cons, e2]; rfl⟩
def isStr : D → Bool
  | .str _ => true
  | _ => false
theorem Dn.isStr (h : Dn q S k d p) : (tyOf p == "str") = K80.isStr d := by cases h <;> rfl
theorem all_str {ds : List D} {ps : List PyData} {P : D → Hs → Prop} {env : EnvD} (he : env[1]? = some (some (.tup ds))) (l : ds.length = ps.length) (m : ds.length ≤ line) (r : ∀ (i : Nat) d p, ds[i]? = some d → ps[i]? = some p → Dn q S k d p) (hn : env.length = 3)
    (h : ∀ s, Fr No S s → P (.bl (ds.all K80.isStr)) s) : Ok (fun d s => Ok P (allF [d] s)) (mLc (mIter (mV 1)) (bName 2) (mTrue) (mCall isiF (mCons (mV 2) (mCons (mC (.ty "str")) (mNil)))) [2] env S) := by
  refine o_lc No ds (fun _ i y _ => ∃ d, ds[i]? = some d ∧ y = .bl (K80.isStr d)) ?_
  rw [iter_tup he]
  refine ⟨itm_tup, m, id, fun i d hd => ⟨[(2, d)], rfl, fun s fr hl => ?_⟩, fun _ _ _ _ _ z => z, fun s' zs fr hl g l2 hz => ?_⟩
  · obtain ⟨p, hp⟩ := there l.symm hd
    have dn := (r i d p hd hp).fr fr.any
    match env, hn with
    | [a, b, c], _ =>
      simp [dn.noX, dn.isi (b := "str") (by simp), Fr.refl]
      exact ⟨d, hd, dn.isStr⟩
  · obtain ⟨bs, e1, e2⟩ := bls_all2 l2 hz
    rw [allF_of g e1, e2]
    exact h s' fr
theorem form_no (ps : List PyData) (h : inFour p = false) : formB (.tuple (p :: ps)) = false := by
  cases p with
  | str s =>
    have h' : (decide (s = "keep") || (decide (s = "leave") || (decide (s = "exchange") || decide (s = "put")))) = false := h
    rw [Bool.or_eq_false_iff, Bool.or_eq_false_iff, Bool.or_eq_false_iff] at h'
    obtain ⟨a, b, c, e⟩ := h'
    match ps with
    | [] => rw [formB1, a, b]; rfl
    | [p1] => rw [formB2, c, e]; rfl
    | p1 :: p2 :: ps => cases p1 <;> rfl
  | _ =>
    match ps with
    | [] => rfl
    | [p1] => cases p1 <;> rfl
    | p1 :: p2 :: ps => cases p1 <;> rfl
theorem form_3 (p p1 p2 : PyData) (ps : List PyData) : formB (.tuple (p :: p1 :: p2 :: ps)) = false := by cases p <;> first | rfl | (cases p1 <;> rfl)
def epB (s : Str) : Bool := ("exchange" : Str) == s || (("put" : Str) == s || false)
theorem epB_eq (s : Str) : epB s = (decide (s = "exchange") || decide (s = "put")) := by
  unfold epB
  rw [beq_dec, beq_dec, Bool.or_false]
theorem form_gen {s : Str} (ps : List PyData) (h : inFour (.str s) = true) : formB (.tuple (.str s :: ps)) = (decide (((PyData.str s :: ps).length : Int) = 1 + (if epB s = true then 1 else 0)) && ps.all fun p => tyOf p == "str") := by
  have h' : (decide (s = "keep") || (decide (s = "leave") || (decide (s = "exchange") || decide (s = "put")))) = true := h
  have one : (decide (s = "keep") || decide (s = "leave")) = !epB s := by
    rw [epB_eq]
    by_cases a : s = "keep"
    · subst a; decide +kernel
    · by_cases b : s = "leave"
      · subst b; decide +kernel
      · rw [decide_eq_false a, decide_eq_false b] at h' ⊢
        simp at h'
        rcases h' with c | c <;> simp [c]
  match ps with
  | [] =>
    rw [formB1, one]
    cases epB s <;> rfl
  | [p1] =>
    rw [formB2, ← epB_eq]
    cases epB s with
    | true => simp
    | false => rfl
  | p1 :: p2 :: ps =>
    rw [form_3]
    have : ¬ (((PyData.str s :: p1 :: p2 :: ps).length : Nat) : Int) = 1 + (if epB s = true then 1 else 0) := by
      simp only [List.length_cons]
      split <;> omega
    rw [decide_eq_false this]
    rfl
theorem all_is : ∀ {ds : List D} {ps : List PyData}, ds.length = ps.length → (∀ (i : Nat) d p, ds[i]? = some d → ps[i]? = some p → Dn q S k d p) → ds.all K80.isStr = ps.all fun p => tyOf p == "str"
  | [], [], _, _ => rfl
  | [], _ :: _, h, _ => nomatch h
  | _ :: _, [], h, _ => nomatch h
  | d :: ds, p :: ps, h, r => by
    rw [List.all_cons, List.all_cons, (r 0 d p rfl rfl).isStr, all_is (Nat.succ.inj h) fun i a b x y => r (i + 1) a b x y]
theorem as_ok {o : Option D} (h : Dn q S k d p) (hk : k ≤ 20) : Wp (fun e s => e = [some v, some d, o] ∧ formB p = true ∧ Fr No S s) (fun x s => x = .bl false ∧ formB p = false ∧ Fr No S s) (asBody [some v, some d, o] S) := by
  have i1 := h.isi (b := "tuple") (by simp)
  have ln : (2 : Nat) ≤ line := by decide
  have ln4 : (4 : Nat) ≤ line := by decide
  have ln1 : (1 : Nat) ≤ line := by decide
  unfold asBody
  have go : (tyOf p == "tuple") = false → formB p = false → Wp (fun e s => e = [some v, some d, o] ∧ formB p = true ∧ Fr No S s) (fun x s => x = .bl false ∧ formB p = false ∧ Fr No S s) (asBody [some v, some d, o] S) := fun g1 g2 => by
    unfold asBody
    simp [i1, g1, g2, h.noX, Fr.refl]
  cases h with
  | @tup k ds ps l m r =>
    have f4 : ∀ {P : D → Hs → Prop} {env : EnvD} {s : Hs}, Ok P ((mTup (mCons (mTup (mCons (mC (.str "keep")) (mNil))) (mCons (mTup (mCons (mC (.str "leave")) (mNil))) (mCons (mTup (mCons (mC (.str "exchange")) (mNil))) (mCons (mTup (mCons (mC (.str "put")) (mNil))) (mNil)))))) env s) = P four s := fun {P env s} => by
      simp [ln4, ln1, four]
    match ds, ps, l, m, r with
    | [], [], _, _, _ =>
      have i1 : isiF [.tup [], .ty "tuple"] S = .ok (.bl true) S := rfl
      have e1 : sliceD (.tup []) none (some 1) S = .ok (.tup []) S := rfl
      simp [i1, e1, f4, notin_four0, formB, form, Fr.refl]
    | d0 :: ds, p0 :: ps, l, m, r =>
      have h0 := r 0 d0 p0 rfl rfl
      have i1 : isiF [.tup (d0 :: ds), .ty "tuple"] S = .ok (.bl true) S := rfl
      have e1 : sliceD (.tup (d0 :: ds)) none (some 1) S = .ok (.tup [d0]) S := by
        show Res.ok (D.tup (cutD (d0 :: ds) none (some ((1 : Nat) : Int)))) S = _
        rw [cut_to]
        rfl
      have e2 : ixD (.tup (d0 :: ds)) (.int 0) S = .ok d0 S := ix_tup (i := 0) rfl
      have e3 : lenF [.tup (d0 :: ds)] S = .ok (.int ((d0 :: ds).length : Nat)) S := rfl
      simp only [Wp_seq, Wp_if, o_or, o_not, o_call, o_cons, o_v, o_mC, o_nil, o_op2, o_slice, o_noPart, o_part, In_int, f4]
      simp [i1, e1, notin_four1 h0 (by omega)]
      cases hf : inFour p0 with
      | false => simp [form_no ps hf, Fr.refl]
      | true =>
        simp only [if_true]
        cases h0 with
        | @str _ s0 hs =>
          have add1 : ∀ n : Int, addD (.int 1) (.int n) S = .ok (.int (1 + n)) S := fun n => rfl
          have int1 : ∀ b : Bool, intF [.bl b] S = .ok (.int (if b then 1 else 0)) S := fun b => rfl
          simp only [e3, Ok_ok, e2, in_ep, int1, add1, ne_int, Bl_bl]
          refine ⟨ln, ?_⟩
          have hg := form_gen ps hf
          have ha := all_is l r
          have hl : ((D.str s0 :: ds).length : Int) = ((PyData.str s0 :: ps).length : Int) := by rw [l]
          rw [hl]
          show (if (!decide (((PyData.str s0 :: ps).length : Int) = 1 + if epB s0 = true then 1 else 0)) = true then _ else _)
          cases hc : decide (((PyData.str s0 :: ps).length : Int) = 1 + if epB s0 = true then 1 else 0) with
          | false =>
            rw [hc] at hg
            simp [hg, Fr.refl]
          | true =>
            rw [hc, Bool.true_and] at hg
            simp only [Bool.not_true, Bool.false_eq_true, if_false]
            refine all_str rfl l m r rfl fun s fr => ?_
            rw [ha]
            show Bl _ (.bl (true && ps.all fun p => tyOf p == "str"))
            rw [Bool.true_and, ← hg]
            cases formB (.tuple (.str s0 :: ps)) <;> simp [fr]
        | _ => cases hf
  | _ => exact go rfl rfl
/-- which values the law takes for lists of steps -/
def areB (p : PyData) : Bool := match p with
  | .list ps => ps.all formB
  | _ => false
theorem all_takeP {l : List PyData} {f : PyData → Bool} {i : Nat} (h : ∀ j < i, ∀ c, l[j]? = some c → f c = true) (e : i = l.length) : l.all f = true := by
  rw [List.all_eq_true]
  intro c hc
  obtain ⟨j, hj, e2⟩ := List.mem_iff_getElem.mp hc
  exact h j (by omega) c (by rw [List.getElem?_eq_getElem hj, e2])
theorem all_false {l : List PyData} {f : PyData → Bool} {i : Nat} {c : PyData} (h : l[i]? = some c) (e : f c = false) : l.all f = false := by
  rw [List.all_eq_false]
  exact ⟨c, List.mem_of_getElem? h, by simp [e]⟩
theorem are_ok (h : Dn q S k v p) (hk : k ≤ 20) : Ok (fun x s => x = .bl (areB p) ∧ Fr No S s) (F__law_are_steps [v] S) := by
  have i1 := h.isi (b := "list") (by simp)
  refine o_run rfl ?_
  show Wp _ _ (FB__law_are_steps [some v, none, none] S)
  rw [as_eq]
  have hnx := h.noX
  cases h with
  | @lst k n ds ps hq g l m r =>
    simp [i1, tyOf]
    refine w_for ds (fun S1 i e s => (∃ o, e = [some (.ref n), o, none]) ∧ Fr No S s ∧ ∀ j < i, ∀ c, ps[j]? = some c → formB c = true) ?_
    rw [iter_lst rfl g]
    refine ⟨(itm_lst (q := No) g id).size, ⟨⟨none, rfl⟩, Fr.refl, fun j hj => by omega⟩, fun i e s d ⟨⟨o, he⟩, fr, hI⟩ hd => ?_, fun e s ⟨⟨o, he⟩, fr, hI⟩ => ⟨(itm_lst (q := No) g id).next _ s fr |>.trans (by rw [List.getElem?_eq_none (Nat.le_refl _)]), ?_⟩⟩
    · subst he
      refine ⟨((itm_lst (q := No) g id).next i s fr).trans (congrArg some hd), [(1, d)], rfl, ?_⟩
      obtain ⟨p, hp⟩ := there l.symm hd
      have dn := (r i d p hd hp).fr fr.any
      refine (as_ok (v := .ref n) (o := none) dn (by omega)).mono (fun e s' ⟨he, hf, f⟩ => ⟨⟨_, he⟩, fr.trans f, fun j hj c hc => ?_⟩) fun x s' ⟨hx, hf, f⟩ => ?_
      · by_cases hji : j = i
        · subst hji
          rw [hp] at hc
          cases hc
          exact hf
        · exact hI j (by omega) c hc
      · refine ⟨hx.trans ?_, fr.trans f⟩
        show D.bl false = .bl (ps.all formB)
        rw [all_false hp hf]
    · refine ⟨?_, fr⟩
      show ps.all formB = true
      exact all_takeP hI l
  | _ => simp [i1, tyOf, areB, Fr.refl]
end
end K80

/-! QG: k80: what a list of steps makes of a book, by the law. -/
namespace K80
open PySem MR
def enc : Stp → D
  | .keep => .tup [.str "keep"]
  | .leave => .tup [.str "leave"]
  | .exch z => .tup [.str "exchange", .str z]
  | .put z => .tup [.str "put", .str z]
def run (bs : List Str) : List Stp → Nat → List Str → Option (List Str)
  | [], a, f => if a = bs.length then some f else none
  | .put z :: r, a, f => run bs r a (f ++ [z])
  | .keep :: r, a, f => match bs[a]? with
    | none => none
    | some b => run bs r (a + 1) (f ++ [b])
  | .leave :: r, a, f => match bs[a]? with
    | none => none
    | some _ => run bs r (a + 1) f
  | .exch z :: r, a, f => match bs[a]? with
    | none => none
    | some b => if z = b then none else run bs r (a + 1) (f ++ [z])
def wds (f : List Str) : List D := f.map D.str
section
variable {q q' : Nat → Prop} {S S' : Hs} {k : Nat} {d v : D} {p : PyData}
theorem enc_of (h : Dn q S k d p) {s : Stp} (e : form p = some s) : d = enc s := by
  cases h with
  | @tup k ds ps l m r =>
    match ds, ps, l, r with
    | [], [], _, _ => cases e
    | [d0], [p0], _, r =>
      have h0 := r 0 d0 p0 rfl rfl
      cases h0 with
      | @str _ s h =>
        have e' : (if s = "keep" then some Stp.keep else if s = "leave" then some Stp.leave else none) = some _ := e
        by_cases a : s = "keep"
        · rw [if_pos a] at e'
          cases e'
          rw [a]
          rfl
        · by_cases b : s = "leave"
          · rw [if_neg a, if_pos b] at e'
            cases e'
            rw [b]
            rfl
          · rw [if_neg a, if_neg b] at e'
            cases e'
      | _ => cases e
    | [d0, d1], [p0, p1], _, r =>
      have h0 := r 0 d0 p0 rfl rfl
      have h1 := r 1 d1 p1 rfl rfl
      cases h0 with
      | @str _ s h =>
        cases h1 with
        | @str _ z h =>
          have e' : (if s = "exchange" then some (Stp.exch z) else if s = "put" then some (Stp.put z) else none) = some _ := e
          by_cases a : s = "exchange"
          · rw [if_pos a] at e'
            cases e'
            rw [a]
            rfl
          · by_cases b : s = "put"
            · rw [if_neg a, if_pos b] at e'
              cases e'
              rw [b]
              rfl
            · rw [if_neg a, if_neg b] at e'
              cases e'
        | _ => cases e
      | _ => cases h1 <;> cases e
    | d0 :: d1 :: d2 :: ds, p0 :: p1 :: p2 :: ps, _, _ =>
      have := form_3 p0 p1 p2 ps
      unfold formB at this
      rw [e] at this
      cases this
  | _ => cases e
/-- the text of a step, if it has one, is fit to be compared -/
def fitS : Stp → Prop
  | .exch z => PyData.strOk z = true ∧ z.cps.size ≤ line
  | .put z => PyData.strOk z = true ∧ z.cps.size ≤ line
  | _ => True
theorem fit_of (h : Dn q S k d p) {s : Stp} (e : form p = some s) : fitS s := by
  have e2 := enc_of h e
  subst e2
  cases s with
  | keep => trivial
  | leave => trivial
  | exch z =>
    cases h with
    | @tup k ds ps l m r =>
      match ps, l, r with
      | [p0, p1], _, r =>
        have h1 := r 1 (.str z) p1 rfl rfl
        cases h1 with
        | str h => exact h
  | put z =>
    cases h with
    | @tup k ds ps l m r =>
      match ps, l, r with
      | [p0, p1], _, r =>
        have h1 := r 1 (.str z) p1 rfl rfl
        cases h1 with
        | str h => exact h
theorem forms_of : ∀ {ds : List D} {ps : List PyData}, ds.length = ps.length → (∀ (i : Nat) d p, ds[i]? = some d → ps[i]? = some p → Dn q S k d p) → ps.all formB = true → ∃ ss, mapO form ps = some ss ∧ ds = ss.map enc ∧ ∀ s ∈ ss, fitS s
  | [], [], _, _, _ => ⟨[], rfl, rfl, fun s h => by cases h⟩
  | [], _ :: _, h, _, _ => nomatch h
  | _ :: _, [], h, _, _ => nomatch h
  | d :: ds, p :: ps, h, r, a => by
    rw [List.all_cons, Bool.and_eq_true] at a
    obtain ⟨s, hs⟩ := Option.isSome_iff_exists.mp a.1
    obtain ⟨ss, e1, e2, e3⟩ := forms_of (Nat.succ.inj h) (fun i a b x y => r (i + 1) a b x y) a.2
    have h0 := r 0 d p rfl rfl
    refine ⟨s :: ss, by unfold mapO; rw [hs, e1] <;> rfl, by rw [List.map_cons, ← enc_of h0 hs, ← e2], fun t ht => ?_⟩
    rcases List.mem_cons.mp ht with rfl | ht
    · exact fit_of h0 hs
    · exact e3 t ht
theorem tyD_lst {m : Nat} {xs : List D} (g : S.get m = some (.lst xs)) : tyD "list" (.ref m) S = true := by
  unfold tyD
  simp only [g]
  rfl
theorem app_lst {m : Nat} {xs : List D} {y : D} (g : S.get m = some (.lst xs)) (hl : xs.length < line) : appendG (.ref m) [y] S = .ok .non (S.put m (.lst (xs ++ [y]))) := by
  unfold appendG
  simp only [g]
  rw [if_pos hl]
theorem add_lst {m n : Nat} {xs ys : List D} (g : S.get m = some (.lst xs)) (g' : S.get n = some (.lst ys)) (hl : xs.length + ys.length ≤ line) : addD (.ref m) (.ref n) S = .ok (.ref S.n) (S.new (.lst (xs ++ ys))) := by
  unfold addD
  simp only [g, g']
  rw [if_pos hl]
theorem mul_lst {m : Nat} {xs : List D} {j : Nat} (g : S.get m = some (.lst xs)) (hl : xs.length * j ≤ line) (hj : j ≤ line) : mulD (.ref m) (.int (j : Int)) S = .ok (.ref S.n) (S.new (.lst (List.replicate j xs).flatten)) := by
  unfold mulD
  have hln : line = 16777216 := rfl
  have h1 : -(2 ^ 63) ≤ (j : Int) ∧ (j : Int) < 2 ^ 63 ∧ xs.length * (j : Int).toNat ≤ line := ⟨by omega, by omega, by rw [Int.toNat_natCast]; exact hl⟩
  simp only [g]
  rw [if_pos h1, Int.toNat_natCast]
theorem eq_str {a b : Str} (ha : PyData.strOk a = true ∧ a.cps.size ≤ line) (hb : PyData.strOk b = true ∧ b.cps.size ≤ line) : eqD (.str a) (.str b) S = .ok (.bl (decide (a = b))) S := by
  rw [(Dn.str (q := No) (k := 0) (S := S) ha).eq (Dn.str (q := No) (k := 0) hb) (by omega) (by omega)]
  by_cases h : a = b <;> simp [PyData.eqv, h]
theorem ne_str {a b : Str} (ha : PyData.strOk a = true ∧ a.cps.size ≤ line) (hb : PyData.strOk b = true ∧ b.cps.size ≤ line) : neD (.str a) (.str b) S = .ok (.bl (!decide (a = b))) S := by
  unfold neD
  rw [eq_str ha hb]
theorem lits : ∀ z ∈ (["keep", "leave", "exchange", "put", "mending", "told", "more", ""] : List Str), PyData.strOk z = true ∧ z.cps.size ≤ line := by decide +kernel
theorem tup1_dn {a : Str} (ha : PyData.strOk a = true ∧ a.cps.size ≤ line) : Dn No S 1 (.tup [.str a]) (.tuple [.str a]) := .tup rfl (show (1 : Nat) ≤ line by decide) fun i d p x y => by
  match i, x, y with
  | 0, x, y => cases x; cases y; exact .str ha
  | i + 1, x, y => simp at x
theorem tup2_dn {a b : Str} (ha : PyData.strOk a = true ∧ a.cps.size ≤ line) (hb : PyData.strOk b = true ∧ b.cps.size ≤ line) : Dn No S 1 (.tup [.str a, .str b]) (.tuple [.str a, .str b]) := .tup rfl (show (2 : Nat) ≤ line by decide) fun i d p x y => by
  match i, x, y with
  | 0, x, y => cases x; cases y; exact .str ha
  | 1, x, y => cases x; cases y; exact .str hb
  | i + 2, x, y => simp at x
theorem eq_t12 {a b c : Str} (ha : PyData.strOk a = true ∧ a.cps.size ≤ line) (hb : PyData.strOk b = true ∧ b.cps.size ≤ line) (hc : PyData.strOk c = true ∧ c.cps.size ≤ line) : eqD (.tup [.str a]) (.tup [.str b, .str c]) S = .ok (.bl false) S := by
  rw [(tup1_dn ha).eq (tup2_dn hb hc) (by omega) (by omega)]
  simp [PyData.eqv, PyData.eqvAll]
theorem eq_t22 {a b c : Str} (ha : PyData.strOk a = true ∧ a.cps.size ≤ line) (hb : PyData.strOk b = true ∧ b.cps.size ≤ line) (hc : PyData.strOk c = true ∧ c.cps.size ≤ line) : eqD (.tup [.str a, .str b]) (.tup [.str a, .str c]) S = .ok (.bl (decide (b = c))) S := by
  rw [(tup2_dn ha hb).eq (tup2_dn ha hc) (by omega) (by omega)]
  by_cases h : b = c <;> simp [PyData.eqv, PyData.eqvAll, h]
theorem eq_t11 {a b : Str} (ha : PyData.strOk a = true ∧ a.cps.size ≤ line) (hb : PyData.strOk b = true ∧ b.cps.size ≤ line) : eqD (.tup [.str a]) (.tup [.str b]) S = .ok (.bl (decide (a = b))) S := by
  rw [(tup1_dn ha).eq (tup1_dn hb) (by omega) (by omega)]
  by_cases h : a = b <;> simp [PyData.eqv, PyData.eqvAll, h]
/-- one turn of the law's making -/
def mkBody : SM := mSeq (mIfS (mOp2 inD (mOp2 ixD (mV 2) (mC (.int 0))) (mTup (mCons (mC (.str "exchange")) (mCons (mC (.str "put")) (mNil))))) (mExp (mMeth "list" appendG (mV 3) (mCons (mOp2 ixD (mV 2) (mC (.int 1))) (mNil)))) (mNx)) (mIfS (mOp2 neD (mOp2 ixD (mV 2) (mC (.int 0))) (mC (.str "put"))) (mSeq (mIfS (mOr (mOp2 eqD (mV 4) (mCall lenF (mCons (mV 0) (mNil)))) (mOp2 eqD (mV 2) (mTup (mCons (mC (.str "exchange")) (mCons (mOp2 ixD (mV 0) (mV 4)) (mNil)))))) (mRet (mC .non)) (mNx)) (mSeq (mSet 3 (mOp2 addD (mV 3) (mOp2 mulD (mLst (mCons (mOp2 ixD (mV 0) (mV 4)) (mNil))) (mCall intF (mCons (mOp2 eqD (mOp2 ixD (mV 2) (mC (.int 0))) (mC (.str "keep"))) (mNil)))))) (mSet 4 (mOp2 addD (mV 4) (mC (.int 1)))))) (mNx))
theorem mk_eq : FB__law_made = mSeq (mPar 3 4 (mCons (mLst (mNil)) (mCons (mC (.int 0)) (mNil)))) (mSeq (mFor (mIter (mV 1)) (bName 2) mkBody) (mRet (mIf (mOp2 eqD (mV 4) (mCall lenF (mCons (mV 0) (mNil)))) (mV 3) (mC .non)))) := rfl
/-- where the making stands -/
def MkI (S : Hs) (b n : Nat) (bs : List Str) (ss : List Stp) (i : Nat) (e : EnvD) (s : Hs) : Prop := ∃ (a : Nat) (f : List Str) (m : Nat) (o : Option D), e = [some (.ref b), some (.ref n), o, some (.ref m), some (.int (a : Int))] ∧ s.get m = some (.lst (wds f)) ∧ S.n ≤ m ∧ Fr No S s ∧ a ≤ bs.length ∧ f.length ≤ i ∧ run bs ss 0 [] = run bs (ss.drop i) a f
end
section
variable {P : EnvD → Hs → Prop} {Q : D → Hs → Prop} {env : EnvD} {S : Hs} {m : Ex}
@[simp] theorem Wp_par {i j : Nat} {ms : Exs} : Wp P Q (mPar i j ms env S) = Ok (fun ds s => match ds with
    | [d, e] => P ((env.set i (some d)).set j (some e)) s
    | _ => False) (ms env S) := by
  unfold mPar
  rw [Wp_toS]
  congr 1
  funext ds s
  match ds with
  | [] => rfl
  | [_] => rfl
  | [_, _] => rfl
  | _ :: _ :: _ :: _ => rfl
@[simp] theorem Wp_aug {i : Nat} : Wp P Q (mAugI i m env S) = (match env[i]? with
    | some (some (.int x)) => Ok (fun d s => In (fun y => P (env.set i (some (.int (x + y)))) s) d) (m env S)
    | _ => False) := by
  have key : ∀ x : Int, Wp P Q ((m env S).toS env fun d S1 => match d with
      | .int y => .nx (env.set i (some (.int (x + y)))) S1
      | _ => .bad) = Ok (fun d s => In (fun y => P (env.set i (some (.int (x + y)))) s) d) (m env S) := fun x => by
    rw [Wp_toS]
    congr 1
    funext d s
    cases d <;> rfl
  unfold mAugI
  cases env[i]? with
  | none => rfl
  | some o =>
    cases o with
    | none => rfl
    | some d =>
      cases d with
      | int x => exact key x
      | _ => rfl
end
section
variable {q q' : Nat → Prop} {S S' s : Hs} {k : Nat} {d v : D} {p : PyData} {b n : Nat} {bs : List Str} {ss : List Stp} {e : EnvD} {i : Nat}
abbrev fit (z : Str) : Prop := PyData.strOk z = true ∧ z.cps.size ≤ line
theorem drop_at {st : Stp} (h : ss[i]? = some st) : ss.drop i = st :: ss.drop (i + 1) := by
  obtain ⟨hl, e⟩ := List.getElem?_eq_some_iff.mp h
  rw [List.drop_eq_getElem_cons hl, e]
theorem mk_put {z : Str} (hs : ss[i]? = some (.put z)) (hl : ss.length < line) (I : MkI S b n bs ss i e s) : Wp (MkI S b n bs ss (i + 1)) (fun x s => x = .non ∧ run bs ss 0 [] = none ∧ Fr No S s) (mkBody (e.set 2 (some (enc (.put z)))) s) := by
  obtain ⟨a, f, m, o, rfl, gm, hm, fr, ha, hf, hr⟩ := I
  have hi := (List.getElem?_eq_some_iff.mp hs).1
  have x0 : ∀ s, ixD (.tup [.str "put", .str z]) (.int 0) s = .ok (.str "put") s := fun s => rfl
  have x1 : ∀ s, ixD (.tup [.str "put", .str z]) (.int 1) s = .ok (.str z) s := fun s => rfl
  have x2 : ∀ s, inD (.str "put") (.tup [.str "exchange", .str "put"]) s = .ok (.bl true) s := fun s => by kernel_rfl
  have x3 : ∀ s, neD (.str "put") (.str "put") s = .ok (.bl false) s := fun s => by kernel_rfl
  unfold mkBody
  simp [enc, x0, x1, x2, x3, tyD_lst gm, app_lst gm (show (wds f).length < line by simp [wds]; omega), show (2 : Nat) ≤ line by decide]
  refine ⟨a, f ++ [z], m, _, rfl, ?_, hm, fr.put_new gm hm, ha, by simp; omega, ?_⟩
  · rw [Hs.get_put gm]
    simp [wds]
  · rw [hr, drop_at hs]
    rfl
theorem mk_keep (hs : ss[i]? = some .keep) (hl : ss.length < line) (gb : S.get b = some (.lst (wds bs))) (hb : ∀ w ∈ bs, fit w) (hbl : bs.length < line) (I : MkI S b n bs ss i e s) : Wp (MkI S b n bs ss (i + 1)) (fun x s => x = .non ∧ run bs ss 0 [] = none ∧ Fr No S s) (mkBody (e.set 2 (some (enc .keep))) s) := by
  obtain ⟨a, f, m, o, rfl, gm, hm, fr, ha, hf, hr⟩ := I
  have hi := (List.getElem?_eq_some_iff.mp hs).1
  have gb2 := fr.at_ _ _ id gb
  have x0 : ∀ s, ixD (.tup [.str "keep"]) (.int 0) s = .ok (.str "keep") s := fun s => rfl
  have x2 : ∀ s, inD (.str "keep") (.tup [.str "exchange", .str "put"]) s = .ok (.bl false) s := fun s => by kernel_rfl
  have x3 : ∀ s, neD (.str "keep") (.str "put") s = .ok (.bl true) s := fun s => by kernel_rfl
  have x4 : ∀ s, eqD (.str "keep") (.str "keep") s = .ok (.bl true) s := fun s => by kernel_rfl
  have x5 : ∀ b s, intF [.bl b] s = .ok (.int (if b then 1 else 0)) s := fun b s => rfl
  unfold mkBody
  simp [enc, x0, x2, x3, x4, x5, len_lst gb2, eq_int, wds, show (2 : Nat) ≤ line by decide, show (1 : Nat) ≤ line by decide]
  by_cases h : a = bs.length
  · simp [h]
    refine ⟨?_, fr⟩
    rw [hr, drop_at hs]
    show (match bs[a]? with
      | none => none
      | some b => _) = none
    rw [List.getElem?_eq_none (by omega)]
  · have hlt : a < bs.length := by omega
    have hg : (wds bs)[a]? = some (.str bs[a]) := by simp [wds, hlt]
    have hx : ∀ s', s'.get b = some (.lst (wds bs)) → ixD (.ref b) (.int (a : Int)) s' = .ok (.str bs[a]) s' := fun s' g => ix_lst g hg
    have h' : ¬ (a : Int) = bs.length := by omega
    simp [h', hx s gb2, eq_t12 (lits "keep" (by simp)) (lits "exchange" (by simp)) (hb bs[a] (List.getElem_mem hlt))]
    have g1 : (s.new (.lst [.str bs[a]])).get s.n = some (.lst [.str bs[a]]) := Hs.get_new s _
    have m1 := mul_lst (j := 1) g1 (show 1 * 1 ≤ line by decide) (by decide)
    simp at m1
    rw [m1]
    simp
    have g2 : ((s.new (.lst [.str bs[a]])).new (.lst [.str bs[a]])).get m = some (.lst (wds f)) := Hs.get_old (Hs.get_old gm)
    have g3 : ((s.new (.lst [.str bs[a]])).new (.lst [.str bs[a]])).get (s.new (.lst [.str bs[a]])).n = some (.lst [.str bs[a]]) := Hs.get_new _ _
    rw [add_lst g2 g3 (by simp [wds]; omega)]
    have y6 : ∀ s, addD (.int (a : Int)) (.int 1) s = .ok (.int ((a : Int) + 1)) s := fun s => rfl
    simp [y6]
    refine ⟨a + 1, f ++ [bs[a]], _, _, rfl, ?_, ?_, ?_, by omega, by simp; omega, ?_⟩
    · rw [Hs.get_new]
      simp [wds]
    · have := Hs.get_lt gm
      show S.n ≤ s.n + 1 + 1
      omega
    · exact fr.trans (Fr.new.trans (Fr.new.trans Fr.new))
    · rw [hr, drop_at hs]
      show (match bs[a]? with
        | none => none
        | some b => run bs (ss.drop (i + 1)) (a + 1) (f ++ [b])) = _
      rw [List.getElem?_eq_getElem hlt]
theorem mk_leave (hs : ss[i]? = some .leave) (hl : ss.length < line) (gb : S.get b = some (.lst (wds bs))) (hb : ∀ w ∈ bs, fit w) (hbl : bs.length < line) (I : MkI S b n bs ss i e s) : Wp (MkI S b n bs ss (i + 1)) (fun x s => x = .non ∧ run bs ss 0 [] = none ∧ Fr No S s) (mkBody (e.set 2 (some (enc .leave))) s) := by
  obtain ⟨a, f, m, o, rfl, gm, hm, fr, ha, hf, hr⟩ := I
  have hi := (List.getElem?_eq_some_iff.mp hs).1
  have gb2 := fr.at_ _ _ id gb
  have x0 : ∀ s, ixD (.tup [.str "leave"]) (.int 0) s = .ok (.str "leave") s := fun s => rfl
  have x2 : ∀ s, inD (.str "leave") (.tup [.str "exchange", .str "put"]) s = .ok (.bl false) s := fun s => by kernel_rfl
  have x3 : ∀ s, neD (.str "leave") (.str "put") s = .ok (.bl true) s := fun s => by kernel_rfl
  have x4 : ∀ s, eqD (.str "leave") (.str "keep") s = .ok (.bl false) s := fun s => by kernel_rfl
  have x5 : ∀ b s, intF [.bl b] s = .ok (.int (if b then 1 else 0)) s := fun b s => rfl
  unfold mkBody
  simp [enc, x0, x2, x3, x4, x5, len_lst gb2, eq_int, wds, show (2 : Nat) ≤ line by decide, show (1 : Nat) ≤ line by decide]
  by_cases h : a = bs.length
  · simp [h]
    refine ⟨?_, fr⟩
    rw [hr, drop_at hs]
    show (match bs[a]? with
      | none => none
      | some b => _) = none
    rw [List.getElem?_eq_none (by omega)]
  · have hlt : a < bs.length := by omega
    have hg : (wds bs)[a]? = some (.str bs[a]) := by simp [wds, hlt]
    have hx : ∀ s', s'.get b = some (.lst (wds bs)) → ixD (.ref b) (.int (a : Int)) s' = .ok (.str bs[a]) s' := fun s' g => ix_lst g hg
    have h' : ¬ (a : Int) = bs.length := by omega
    simp [h', hx s gb2, eq_t12 (lits "leave" (by simp)) (lits "exchange" (by simp)) (hb bs[a] (List.getElem_mem hlt))]
    have g1 : (s.new (.lst [.str bs[a]])).get s.n = some (.lst [.str bs[a]]) := Hs.get_new s _
    have m1 := mul_lst (j := 0) g1 (show 1 * 0 ≤ line by decide) (by decide)
    simp at m1
    rw [m1]
    simp
    have g2 : ((s.new (.lst [.str bs[a]])).new (.lst [])).get m = some (.lst (wds f)) := Hs.get_old (Hs.get_old gm)
    have g3 : ((s.new (.lst [.str bs[a]])).new (.lst [])).get (s.new (.lst [.str bs[a]])).n = some (.lst []) := Hs.get_new _ _
    rw [add_lst g2 g3 (by simp [wds]; omega)]
    have y6 : ∀ s, addD (.int (a : Int)) (.int 1) s = .ok (.int ((a : Int) + 1)) s := fun s => rfl
    simp [y6]
    refine ⟨a + 1, f, _, _, rfl, Hs.get_new _ _, ?_, ?_, by omega, by omega, ?_⟩
    · have := Hs.get_lt gm
      show S.n ≤ s.n + 1 + 1
      omega
    · exact fr.trans (Fr.new.trans (Fr.new.trans Fr.new))
    · rw [hr, drop_at hs]
      show (match bs[a]? with
        | none => none
        | some b => run bs (ss.drop (i + 1)) (a + 1) f) = _
      rw [List.getElem?_eq_getElem hlt]
theorem mk_exch {z : Str} (hs : ss[i]? = some (.exch z)) (hz : fit z) (hl : ss.length < line) (gb : S.get b = some (.lst (wds bs))) (hb : ∀ w ∈ bs, fit w) (hbl : bs.length < line) (I : MkI S b n bs ss i e s) : Wp (MkI S b n bs ss (i + 1)) (fun x s => x = .non ∧ run bs ss 0 [] = none ∧ Fr No S s) (mkBody (e.set 2 (some (enc (.exch z)))) s) := by
  obtain ⟨a, f, m, o, rfl, gm, hm, fr, ha, hf, hr⟩ := I
  have hi := (List.getElem?_eq_some_iff.mp hs).1
  have x0 : ∀ s, ixD (.tup [.str "exchange", .str z]) (.int 0) s = .ok (.str "exchange") s := fun s => rfl
  have x1 : ∀ s, ixD (.tup [.str "exchange", .str z]) (.int 1) s = .ok (.str z) s := fun s => rfl
  have x2 : ∀ s, inD (.str "exchange") (.tup [.str "exchange", .str "put"]) s = .ok (.bl true) s := fun s => by kernel_rfl
  have x3 : ∀ s, neD (.str "exchange") (.str "put") s = .ok (.bl true) s := fun s => by kernel_rfl
  have x4 : ∀ s, eqD (.str "exchange") (.str "keep") s = .ok (.bl false) s := fun s => by kernel_rfl
  have x5 : ∀ b s, intF [.bl b] s = .ok (.int (if b then 1 else 0)) s := fun b s => rfl
  have fr1 := fr.put_new (c := .lst (wds f ++ [.str z])) gm hm
  have gb2 := fr1.at_ _ _ id gb
  have gm2 : (s.put m (.lst (wds f ++ [.str z]))).get m = some (.lst (wds f ++ [.str z])) := Hs.get_put gm
  unfold mkBody
  simp [enc, x0, x1, x2, x3, x4, x5, tyD_lst gm, app_lst gm (show (wds f).length < line by simp [wds]; omega), len_lst gb2, eq_int, show (2 : Nat) ≤ line by decide, show (1 : Nat) ≤ line by decide]
  by_cases h : a = bs.length
  · simp [h, wds]
    refine ⟨?_, fr1⟩
    rw [hr, drop_at hs]
    show (match bs[a]? with
      | none => none
      | some b => _) = none
    rw [List.getElem?_eq_none (by omega)]
  · have hlt : a < bs.length := by omega
    have hg : (wds bs)[a]? = some (.str bs[a]) := by simp [wds, hlt]
    have hx : ∀ s', s'.get b = some (.lst (wds bs)) → ixD (.ref b) (.int (a : Int)) s' = .ok (.str bs[a]) s' := fun s' g => ix_lst g hg
    have h' : ¬ (a : Int) = (wds bs).length := by simp [wds]; omega
    simp [h', hx _ gb2, eq_t22 (lits "exchange" (by simp)) hz (hb bs[a] (List.getElem_mem hlt))]
    by_cases hzb : z = bs[a]
    · simp [hzb]
      refine ⟨?_, hzb ▸ fr1⟩
      rw [hr, drop_at hs]
      show (match bs[a]? with
        | none => none
        | some b => if z = b then none else _) = none
      rw [List.getElem?_eq_getElem hlt]
      exact if_pos hzb
    · simp [hzb]
      have g1 := Hs.get_new (s.put m (.lst (wds f ++ [.str z]))) (.lst [.str bs[a]])
      have m1 := mul_lst (j := 0) g1 (show 1 * 0 ≤ line by decide) (by decide)
      simp at m1
      rw [m1]
      simp
      have g2 : (((s.put m (.lst (wds f ++ [.str z]))).new (.lst [.str bs[a]])).new (.lst [])).get m = some (.lst (wds f ++ [.str z])) := Hs.get_old (Hs.get_old gm2)
      have g3 : (((s.put m (.lst (wds f ++ [.str z]))).new (.lst [.str bs[a]])).new (.lst [])).get ((s.put m (.lst (wds f ++ [.str z]))).new (.lst [.str bs[a]])).n = some (.lst []) := Hs.get_new _ _
      rw [add_lst g2 g3 (by simp [wds]; omega)]
      have y6 : ∀ s, addD (.int (a : Int)) (.int 1) s = .ok (.int ((a : Int) + 1)) s := fun s => rfl
      simp [y6]
      refine ⟨a + 1, f ++ [z], _, _, rfl, ?_, ?_, ?_, by omega, by simp; omega, ?_⟩
      · rw [Hs.get_new]
        simp [wds]
      · have := Hs.get_lt gm
        show S.n ≤ s.n + 1 + 1
        omega
      · exact fr1.trans (Fr.new.trans (Fr.new.trans Fr.new))
      · rw [hr, drop_at hs]
        show (match bs[a]? with
          | none => none
          | some b => if z = b then none else run bs (ss.drop (i + 1)) (a + 1) (f ++ [z])) = _
        rw [List.getElem?_eq_getElem hlt]
        exact if_neg hzb
/-- a list of these words, or None -/
def IsL (S s : Hs) (x : D) (r : Option (List Str)) : Prop := match r with
  | none => x = .non
  | some f => ∃ m, S.n ≤ m ∧ x = .ref m ∧ s.get m = some (.lst (wds f)) ∧ f.length < line
theorem made_ok (gb : S.get b = some (.lst (wds bs))) (hb : ∀ w ∈ bs, fit w) (hbl : bs.length < line) (gn : S.get n = some (.lst (ss.map enc))) (hss : ∀ s ∈ ss, fitS s) (hl : ss.length < line) : Ok (fun x s => Fr No S s ∧ IsL S s x (run bs ss 0 [])) (F__law_made [.ref b, .ref n] S) := by
  refine o_run rfl ?_
  show Wp _ _ (FB__law_made [some (.ref b), some (.ref n), none, none, none] S)
  rw [mk_eq]
  simp
  refine w_for (ss.map enc) (fun S1 => MkI S b n bs ss) ?_
  have gn2 : (S.new (.lst [])).get n = some (.lst (ss.map enc)) := Hs.get_old gn
  rw [iter_lst rfl gn2]
  have hit : ∀ i s, Fr No S s → (DI.lst n).next i s = some (ss.map enc)[i]? := (itm_lst (q := No) gn id).next
  refine ⟨(itm_lst (q := No) gn2 id).size, ⟨0, [], S.n, none, rfl, Hs.get_new S _, Nat.le_refl _, Fr.new, Nat.zero_le _, Nat.le_refl _, rfl⟩, fun i e s d I hd => ?_, fun e s I => ?_⟩
  · have fr : Fr No S s := by obtain ⟨_, _, _, _, _, _, _, fr, _⟩ := I; exact fr
    refine ⟨(hit i s fr).trans (congrArg some hd), [(2, d)], rfl, ?_⟩
    rw [List.getElem?_map] at hd
    obtain ⟨st, hst, rfl⟩ := Option.map_eq_some_iff.mp hd
    have hfit := hss st (List.mem_of_getElem? hst)
    have fin : Wp (MkI S b n bs ss (i + 1)) (fun x s => x = .non ∧ run bs ss 0 [] = none ∧ Fr No S s) (mkBody (e.set 2 (some (enc st))) s) := by
      cases st with
      | keep => exact mk_keep hst hl gb hb hbl I
      | leave => exact mk_leave hst hl gb hb hbl I
      | exch z => exact mk_exch hst hfit hl gb hb hbl I
      | put z => exact mk_put hst hl I
    exact fin.mono (fun _ _ z => z) fun x s ⟨e1, e2, f⟩ => ⟨f, by rw [e2]; exact e1⟩
  · obtain ⟨a, f, m, o, rfl, gm, hm, fr, ha, hf, hr⟩ := I
    refine ⟨(hit _ s fr).trans (by rw [List.getElem?_eq_none (Nat.le_refl _)]), ?_⟩
    have gb2 := fr.at_ _ _ id gb
    simp [len_lst gb2, eq_int]
    rw [hr, List.length_map, List.drop_length]
    have hf' : f.length ≤ ss.length := by simpa using hf
    by_cases h : a = bs.length
    · simp [h, wds, fr]
      show IsL S s _ (if bs.length = bs.length then some f else none)
      rw [if_pos rfl]
      exact ⟨m, hm, rfl, gm, by omega⟩
    · have h' : ¬ (a : Int) = (wds bs).length := by simp [wds]; omega
      simp [h', fr]
      show IsL S s _ (if a = bs.length then some f else none)
      rw [if_neg h]
      rfl
end
end K80

/-! QH: k80: what the program makes of a book; what is due. -/
namespace K80
open PySem MR
/-- a comprehension with a test, where neither test nor item makes anything -/
theorem lcf_ok {di : DI} {b : Bnd} {mt me : Ex} {env : EnvD} {S1 : Hs} {items : List D} {g : D → Option D} (I : Itm No S1 di items) (hl : items.length < line)
    (body : ∀ d ∈ items, ∃ us, b d = some us ∧ ∀ s, Fr No S1 s → mt (apD env us) s = .ok (.bl (g d).isSome) s ∧ ∀ y, g d = some y → me (apD env us) s = .ok y s) :
    ∀ (j i k : Nat) (s : Hs) (ys : List D), i + j = items.length → j < k → Fr No S1 s → s.get S1.n = some (.lst ys) → ys.length ≤ i → ys ++ (items.drop i).filterMap g = items.filterMap g →
      Ok (fun d s' => d = .ref S1.n ∧ Fr No S1 s' ∧ s'.get S1.n = some (.lst (items.filterMap g))) (mLcL di b mt me env S1.n k i s)
  | 0, i, k + 1, s, ys, hij, hk, fr, hg, hy, he => by
    have hi : i = items.length := by omega
    unfold mLcL
    rw [I.next i s fr, List.getElem?_eq_none (by omega)]
    subst hi
    rw [List.drop_length] at he
    simp at he
    subst he
    exact ⟨rfl, fr, hg⟩
  | j + 1, i, k + 1, s, ys, hij, hk, fr, hg, hy, he => by
    have hi : i < items.length := by omega
    obtain ⟨us, hb, h⟩ := body items[i] (List.getElem_mem hi)
    obtain ⟨h1, h2⟩ := h s fr
    rw [List.drop_eq_getElem_cons hi] at he
    unfold mLcL
    rw [I.next i s fr, List.getElem?_eq_getElem hi]
    simp only [hb]
    rw [h1]
    cases hg2 : g items[i] with
    | none =>
      rw [List.filterMap_cons_none hg2] at he
      exact lcf_ok I hl body j (i + 1) k s ys (by omega) (by omega) fr hg (by omega) he
    | some y =>
      rw [List.filterMap_cons_some hg2] at he
      simp only [Option.isSome_some]
      rw [h2 y hg2]
      simp only [hg]
      rw [if_pos (by omega)]
      exact lcf_ok I hl body j (i + 1) k _ (ys ++ [y]) (by omega) (by omega) (fr.put_new hg (Nat.le_refl _)) (Hs.get_put hg) (by simp; omega) (by rw [List.append_assoc]; exact he)
theorem o_lcf {P : D → Hs → Prop} {mi : ExI} {b : Bnd} {mt me : Ex} {vs : List Nat} {env : EnvD} {S : Hs} (items : List D) (g : D → Option D)
    (h : Ok (fun di S1 => Itm No S1 di items ∧ items.length < line ∧ (∀ d ∈ items, ∃ us, b d = some us ∧ ∀ s, Fr No S1 s → mt (apD (wipeD env vs) us) s = .ok (.bl (g d).isSome) s ∧ ∀ y, g d = some y → me (apD (wipeD env vs) us) s = .ok y s) ∧
      ∀ s', Fr No S1 s' → s'.get S1.n = some (.lst (items.filterMap g)) → P (.ref S1.n) s') (mi env S)) : Ok P (mLc mi b mt me vs env S) := by
  unfold mLc
  rw [Ok_bind]
  refine h.mono fun di S1 ⟨I, hl, body, fin⟩ => ?_
  have hz := I.size
  exact (lcf_ok I hl body items.length 0 _ (S1.new (.lst [])) [] (by omega) (by omega) Fr.new (Hs.get_new _ _) (Nat.le_refl _) rfl).mono fun d s' ⟨e, fr, g⟩ => by
    subst e
    exact fin s' fr g
section
variable {q q' : Nat → Prop} {S S' s : Hs} {k : Nat} {d v : D} {p : PyData} {b n : Nat} {bs : List Str} {ss : List Stp} {e : EnvD} {i : Nat}
def mdBody : SM := mSeq (mIfS (mOp2 neD (mOp2 ixD (mV 2) (mC (.int 0))) (mC (.str "put"))) (mSeq (mIfS (mOr (mOp2 eqD (mV 4) (mCall lenF (mCons (mV 0) (mNil)))) (mOp2 eqD (mV 2) (mTup (mCons (mC (.str "exchange")) (mCons (mOp2 ixD (mV 0) (mV 4)) (mNil)))))) (mRet (mC .non)) (mNx)) (mAugI 4 (mC (.int 1)))) (mNx)) (mIfS (mOp2 inD (mOp2 ixD (mV 2) (mC (.int 0))) (mTup (mCons (mC (.str "exchange")) (mCons (mC (.str "put")) (mNil))))) (mExp (mMeth "list" appendG (mV 3) (mCons (mOp2 ixD (mV 2) (mC (.int 1))) (mNil)))) (mIfS (mOp2 eqD (mV 2) (mC (.tup ((["keep"] : List Str).map D.str)))) (mExp (mMeth "list" appendG (mV 3) (mCons (mOp2 ixD (mV 0) (mOp2 subD (mV 4) (mC (.int 1)))) (mNil)))) (mNx)))
theorem md_eq : FB_mended = mSeq (mIfS (mOr (mNot (mCall isiF (mCons (mV 1) (mCons (mC (.ty "list")) (mNil))))) (mNot (mCall allF (mCons (mLc (mIter (mV 1)) (bName 2) (mTrue) (mOwn (pur F_is_step) [] (mCons (mV 2) (mNil))) [2]) (mNil))))) (mRet (mC .non)) (mNx)) (mSeq (mPar 3 4 (mCons (mLst (mNil)) (mCons (mC (.int 0)) (mNil)))) (mSeq (mFor (mIter (mV 1)) (bName 2) mdBody) (mRet (mIf (mOp2 eqD (mV 4) (mCall lenF (mCons (mV 0) (mNil)))) (mV 3) (mC .non))))) := rfl
theorem md_put {z : Str} (hs : ss[i]? = some (.put z)) (hl : ss.length < line) (I : MkI S b n bs ss i e s) : Wp (MkI S b n bs ss (i + 1)) (fun x s => x = .non ∧ run bs ss 0 [] = none ∧ Fr No S s) (mdBody (e.set 2 (some (enc (.put z)))) s) := by
  obtain ⟨a, f, m, o, rfl, gm, hm, fr, ha, hf, hr⟩ := I
  have hi := (List.getElem?_eq_some_iff.mp hs).1
  have x0 : ∀ s, ixD (.tup [.str "put", .str z]) (.int 0) s = .ok (.str "put") s := fun s => rfl
  have x1 : ∀ s, ixD (.tup [.str "put", .str z]) (.int 1) s = .ok (.str z) s := fun s => rfl
  have x2 : ∀ s, inD (.str "put") (.tup [.str "exchange", .str "put"]) s = .ok (.bl true) s := fun s => by kernel_rfl
  have x3 : ∀ s, neD (.str "put") (.str "put") s = .ok (.bl false) s := fun s => by kernel_rfl
  unfold mdBody
  simp [enc, x0, x1, x2, x3, tyD_lst gm, app_lst gm (show (wds f).length < line by simp [wds]; omega), show (2 : Nat) ≤ line by decide]
  refine ⟨a, f ++ [z], m, _, rfl, ?_, hm, fr.put_new gm hm, ha, by simp; omega, ?_⟩
  · rw [Hs.get_put gm]
    simp [wds]
  · rw [hr, drop_at hs]
    rfl
theorem md_keep (hs : ss[i]? = some .keep) (hl : ss.length < line) (gb : S.get b = some (.lst (wds bs))) (hb : ∀ w ∈ bs, fit w) (hbl : bs.length < line) (I : MkI S b n bs ss i e s) : Wp (MkI S b n bs ss (i + 1)) (fun x s => x = .non ∧ run bs ss 0 [] = none ∧ Fr No S s) (mdBody (e.set 2 (some (enc .keep))) s) := by
  obtain ⟨a, f, m, o, rfl, gm, hm, fr, ha, hf, hr⟩ := I
  have hi := (List.getElem?_eq_some_iff.mp hs).1
  have gb2 := fr.at_ _ _ id gb
  have x0 : ∀ s, ixD (.tup [.str "keep"]) (.int 0) s = .ok (.str "keep") s := fun s => rfl
  have x2 : ∀ s, inD (.str "keep") (.tup [.str "exchange", .str "put"]) s = .ok (.bl false) s := fun s => by kernel_rfl
  have x3 : ∀ s, neD (.str "keep") (.str "put") s = .ok (.bl true) s := fun s => by kernel_rfl
  have x4 : ∀ s, eqD (.tup [.str "keep"]) (.tup [.str "keep"]) s = .ok (.bl true) s := fun s => by kernel_rfl
  unfold mdBody
  simp [enc, x0, x2, x3, x4, len_lst gb2, eq_int, wds, show (2 : Nat) ≤ line by decide, show (1 : Nat) ≤ line by decide]
  by_cases h : a = bs.length
  · simp [h]
    refine ⟨?_, fr⟩
    rw [hr, drop_at hs]
    show (match bs[a]? with
      | none => none
      | some b => _) = none
    rw [List.getElem?_eq_none (by omega)]
  · have hlt : a < bs.length := by omega
    have hg : (wds bs)[a]? = some (.str bs[a]) := by simp [wds, hlt]
    have hx : ∀ s', s'.get b = some (.lst (wds bs)) → ixD (.ref b) (.int (a : Int)) s' = .ok (.str bs[a]) s' := fun s' g => ix_lst g hg
    have h' : ¬ (a : Int) = bs.length := by omega
    have y6 : ∀ s, subD (.int ((a : Int) + 1)) (.int 1) s = .ok (.int (a : Int)) s := fun s => by
      show Res.ok (D.int ((a : Int) + 1 - 1)) s = _
      rw [Int.add_sub_cancel]
    simp [h', hx s gb2, eq_t12 (lits "keep" (by simp)) (lits "exchange" (by simp)) (hb bs[a] (List.getElem_mem hlt)), y6, tyD_lst gm, app_lst gm (show (wds f).length < line by simp [wds]; omega)]
    refine ⟨a + 1, f ++ [bs[a]], m, _, rfl, ?_, hm, fr.put_new gm hm, by omega, by simp; omega, ?_⟩
    · rw [Hs.get_put gm]
      simp [wds]
    · rw [hr, drop_at hs]
      show (match bs[a]? with
        | none => none
        | some b => run bs (ss.drop (i + 1)) (a + 1) (f ++ [b])) = _
      rw [List.getElem?_eq_getElem hlt]
theorem md_leave (hs : ss[i]? = some .leave) (hl : ss.length < line) (gb : S.get b = some (.lst (wds bs))) (hb : ∀ w ∈ bs, fit w) (hbl : bs.length < line) (I : MkI S b n bs ss i e s) : Wp (MkI S b n bs ss (i + 1)) (fun x s => x = .non ∧ run bs ss 0 [] = none ∧ Fr No S s) (mdBody (e.set 2 (some (enc .leave))) s) := by
  obtain ⟨a, f, m, o, rfl, gm, hm, fr, ha, hf, hr⟩ := I
  have hi := (List.getElem?_eq_some_iff.mp hs).1
  have gb2 := fr.at_ _ _ id gb
  have x0 : ∀ s, ixD (.tup [.str "leave"]) (.int 0) s = .ok (.str "leave") s := fun s => rfl
  have x2 : ∀ s, inD (.str "leave") (.tup [.str "exchange", .str "put"]) s = .ok (.bl false) s := fun s => by kernel_rfl
  have x3 : ∀ s, neD (.str "leave") (.str "put") s = .ok (.bl true) s := fun s => by kernel_rfl
  have x4 : ∀ s, eqD (.tup [.str "leave"]) (.tup [.str "keep"]) s = .ok (.bl false) s := fun s => by kernel_rfl
  unfold mdBody
  simp [enc, x0, x2, x3, x4, len_lst gb2, eq_int, wds, show (2 : Nat) ≤ line by decide, show (1 : Nat) ≤ line by decide]
  by_cases h : a = bs.length
  · simp [h]
    refine ⟨?_, fr⟩
    rw [hr, drop_at hs]
    show (match bs[a]? with
      | none => none
      | some b => _) = none
    rw [List.getElem?_eq_none (by omega)]
  · have hlt : a < bs.length := by omega
    have hg : (wds bs)[a]? = some (.str bs[a]) := by simp [wds, hlt]
    have hx : ∀ s', s'.get b = some (.lst (wds bs)) → ixD (.ref b) (.int (a : Int)) s' = .ok (.str bs[a]) s' := fun s' g => ix_lst g hg
    have h' : ¬ (a : Int) = bs.length := by omega
    simp [h', hx s gb2, eq_t12 (lits "leave" (by simp)) (lits "exchange" (by simp)) (hb bs[a] (List.getElem_mem hlt))]
    refine ⟨a + 1, f, m, _, rfl, gm, hm, fr, by omega, by omega, ?_⟩
    rw [hr, drop_at hs]
    show (match bs[a]? with
      | none => none
      | some b => run bs (ss.drop (i + 1)) (a + 1) f) = _
    rw [List.getElem?_eq_getElem hlt]
theorem md_exch {z : Str} (hs : ss[i]? = some (.exch z)) (hz : fit z) (hl : ss.length < line) (gb : S.get b = some (.lst (wds bs))) (hb : ∀ w ∈ bs, fit w) (hbl : bs.length < line) (I : MkI S b n bs ss i e s) : Wp (MkI S b n bs ss (i + 1)) (fun x s => x = .non ∧ run bs ss 0 [] = none ∧ Fr No S s) (mdBody (e.set 2 (some (enc (.exch z)))) s) := by
  obtain ⟨a, f, m, o, rfl, gm, hm, fr, ha, hf, hr⟩ := I
  have hi := (List.getElem?_eq_some_iff.mp hs).1
  have gb2 := fr.at_ _ _ id gb
  have x0 : ∀ s, ixD (.tup [.str "exchange", .str z]) (.int 0) s = .ok (.str "exchange") s := fun s => rfl
  have x1 : ∀ s, ixD (.tup [.str "exchange", .str z]) (.int 1) s = .ok (.str z) s := fun s => rfl
  have x2 : ∀ s, inD (.str "exchange") (.tup [.str "exchange", .str "put"]) s = .ok (.bl true) s := fun s => by kernel_rfl
  have x3 : ∀ s, neD (.str "exchange") (.str "put") s = .ok (.bl true) s := fun s => by kernel_rfl
  unfold mdBody
  simp [enc, x0, x1, x2, x3, len_lst gb2, eq_int, show (2 : Nat) ≤ line by decide, show (1 : Nat) ≤ line by decide]
  by_cases h : a = bs.length
  · simp [h, wds]
    refine ⟨?_, fr⟩
    rw [hr, drop_at hs]
    show (match bs[a]? with
      | none => none
      | some b => _) = none
    rw [List.getElem?_eq_none (by omega)]
  · have hlt : a < bs.length := by omega
    have hg : (wds bs)[a]? = some (.str bs[a]) := by simp [wds, hlt]
    have hx : ∀ s', s'.get b = some (.lst (wds bs)) → ixD (.ref b) (.int (a : Int)) s' = .ok (.str bs[a]) s' := fun s' g => ix_lst g hg
    have h' : ¬ (a : Int) = (wds bs).length := by simp [wds]; omega
    simp [h', hx _ gb2, eq_t22 (lits "exchange" (by simp)) hz (hb bs[a] (List.getElem_mem hlt)), tyD_lst gm, app_lst gm (show (wds f).length < line by simp [wds]; omega)]
    by_cases hzb : z = bs[a]
    · simp [hzb]
      refine ⟨?_, fr⟩
      rw [hr, drop_at hs]
      show (match bs[a]? with
        | none => none
        | some b => if z = b then none else _) = none
      rw [List.getElem?_eq_getElem hlt]
      exact if_pos hzb
    · simp [hzb]
      refine ⟨a + 1, f ++ [z], m, _, rfl, ?_, hm, fr.put_new gm hm, by omega, by simp; omega, ?_⟩
      · rw [Hs.get_put gm]
        simp [wds]
      · rw [hr, drop_at hs]
        show (match bs[a]? with
          | none => none
          | some b => if z = b then none else run bs (ss.drop (i + 1)) (a + 1) (f ++ [z])) = _
        rw [List.getElem?_eq_getElem hlt]
        exact if_neg hzb
/-- what is due -/
def dueV (bs : List Str) (p : PyData) : Option (List Str) := match p with
  | .list ps => if ps.all stepB then (match mapO form ps with
    | some ss => run bs ss 0 []
    | none => none) else none
  | _ => none
theorem step_form (h : stepB p = true) : formB p = true := by
  unfold stepB at h
  unfold formB
  cases e : form p with
  | some s => rfl
  | none => rw [e] at h; cases h
theorem bls_allP {f : PyData → Bool} : ∀ {cs : List PyData} {zs : List D}, zs.length = cs.length → (∀ (m : Nat) y, zs[m]? = some y → ∃ c, cs[m]? = some c ∧ y = .bl (f c)) → ∃ bs, mapO blOf zs = some bs ∧ bs.all id = cs.all f
  | [], [], _, _ => ⟨[], rfl, rfl⟩
  | [], _ :: _, l, _ => nomatch l
  | _ :: _, [], l, _ => nomatch l
  | c :: cs, z :: zs, l, h => by
    obtain ⟨c', e, e2⟩ := h 0 z rfl
    cases e
    subst e2
    obtain ⟨bs, e1, e2⟩ := bls_allP (f := f) (cs := cs) (zs := zs) (Nat.succ.inj l) fun m y hy => h (m + 1) y hy
    exact ⟨f c :: bs, by unfold mapO; rw [e1] <;> rfl, by rw [List.all_cons, List.all_cons, e2]; rfl⟩
theorem mended_ok (h : Dn q S k v p) (hk : k ≤ 20) (gb : S.get b = some (.lst (wds bs))) (hb : ∀ w ∈ bs, fit w) (hbl : bs.length < line) : Ok (fun x s => Fr No S s ∧ IsL S s x (dueV bs p)) (F_mended [.ref b, v] S) := by
  have i1 := h.isi (b := "list") (by simp)
  have hnx := h.noX
  refine o_run rfl ?_
  show Wp _ _ (FB_mended [some (.ref b), some v, none, none, none] S)
  rw [md_eq]
  cases h with
  | @lst k n ds ps hq g l m r =>
    simp [i1, tyOf]
    refine o_lc No ds (fun _ i y _ => ∃ p, ps[i]? = some p ∧ y = .bl (stepB p)) ?_
    rw [iter_lst rfl g]
    refine ⟨itm_lst g id, Nat.le_of_lt m, id, fun i d hd => ⟨[(2, d)], rfl, fun s fr hl => ?_⟩, fun _ _ _ _ _ z => z, fun s' zs fr hl g2 l2 hz => ?_⟩
    · obtain ⟨p, hp⟩ := there l.symm hd
      have dn := (r i d p hd hp).fr fr.any
      simp [dn.noX, is_step_ok dn, Fr.refl]
      exact ⟨p, hp, rfl⟩
    · obtain ⟨bs2, e1, e2⟩ := bls_allP (l2.trans l) hz
      rw [allF_of g2 e1, e2]
      cases hall : ps.all stepB with
      | false =>
        simp
        refine ⟨fr, ?_⟩
        show IsL S s' .non (if ps.all stepB then _ else none)
        rw [hall]
        rfl
      | true =>
        simp
        obtain ⟨ss, f1, f2, f3⟩ := forms_of l r (by
          rw [List.all_eq_true] at hall ⊢
          exact fun c hc => step_form (hall c hc))
        have hdue : dueV bs (.list ps) = run bs ss 0 [] := by
          unfold dueV
          simp only [hall, if_true, f1]
        have hl2 : ss.length < line := by
          have := congrArg List.length f2
          simp at this
          omega
        rw [hdue]
        subst f2
        have gn1 : s'.get n = some (.lst (ss.map enc)) := fr.at_ _ _ id g
        have gb1 := fr.at_ _ _ id gb
        refine w_for (ss.map enc) (fun S1 => MkI S b n bs ss) ?_
        rw [iter_lst rfl (Hs.get_old gn1)]
        have hit : ∀ i s, Fr No S s → (DI.lst n).next i s = some (ss.map enc)[i]? := (itm_lst (q := No) g id).next
        refine ⟨(itm_lst (q := No) (Hs.get_old gn1) id).size, ⟨0, [], s'.n, none, rfl, Hs.get_new _ _, fr.n, fr.trans Fr.new, Nat.zero_le _, Nat.le_refl _, rfl⟩, fun i e s d I hd => ?_, fun e s I => ?_⟩
        · have fr2 : Fr No S s := by obtain ⟨_, _, _, _, _, _, _, fr, _⟩ := I; exact fr
          refine ⟨(hit i s fr2).trans (congrArg some hd), [(2, d)], rfl, ?_⟩
          rw [List.getElem?_map] at hd
          obtain ⟨st, hst, rfl⟩ := Option.map_eq_some_iff.mp hd
          have hfit := f3 st (List.mem_of_getElem? hst)
          have fin : Wp (MkI S b n bs ss (i + 1)) (fun x s => x = .non ∧ run bs ss 0 [] = none ∧ Fr No S s) (mdBody (e.set 2 (some (enc st))) s) := by
            cases st with
            | keep => exact md_keep hst hl2 gb hb hbl I
            | leave => exact md_leave hst hl2 gb hb hbl I
            | exch z => exact md_exch hst hfit hl2 gb hb hbl I
            | put z => exact md_put hst hl2 I
          exact fin.mono (fun _ _ z => z) fun x s ⟨e1, e2, f⟩ => ⟨f, by rw [e2]; exact e1⟩
        · obtain ⟨a, f, m, o, rfl, gm, hm, fr2, ha, hf, hr⟩ := I
          refine ⟨(hit _ s fr2).trans (by rw [List.getElem?_eq_none (Nat.le_refl _)]), ?_⟩
          have gb2 := fr2.at_ _ _ id gb
          simp [len_lst gb2, eq_int]
          rw [hr, List.length_map, List.drop_length]
          have hf' : f.length ≤ ss.length := by simpa using hf
          by_cases h : a = bs.length
          · simp [h, wds, fr2]
            show IsL S s _ (if bs.length = bs.length then some f else none)
            rw [if_pos rfl]
            exact ⟨m, hm, rfl, gm, by omega⟩
          · have h' : ¬ (a : Int) = (wds bs).length := by simp [wds]; omega
            simp [h', fr2]
            show IsL S s _ (if a = bs.length then some f else none)
            rw [if_neg h]
            rfl
  | _ => simp [i1, tyOf, Fr.refl, dueV, IsL]
end
end K80

/-! QI: k80: what is due; books; mended_by. -/
namespace K80
open PySem MR
section
variable {q q' : Nat → Prop} {S S' s : Hs} {k : Nat} {d v : D} {p : PyData} {b n : Nat} {bs : List Str} {ss : List Stp} {e : EnvD} {i : Nat}
theorem are_pur (h : Dn q S k v p) (hk : k ≤ 20) : Ok (fun x s => x = .bl (areB p) ∧ Fr No S s) (pur F__law_are_steps [v] S) := pur_any rfl fun S' hS => by
  cases hf : frees [v] with
  | false =>
    have e := hS hf
    subst e
    exact are_ok h hk
  | true => exact are_ok (h.free (q' := No) (Bool.and_eq_true_iff.mp hf).1) hk
/-- what the law asks of a step's text -/
def txtG (d : D) : Option D := match d with
  | .tup [_, .str z] => some (.bl (speltB z))
  | _ => none
theorem txt_all : ∀ ss : List Stp, ∃ bs, mapO blOf ((ss.map enc).filterMap txtG) = some bs ∧ bs.all id = ss.all okS
  | [] => ⟨[], rfl, rfl⟩
  | s :: ss => by
    obtain ⟨bs, e1, e2⟩ := txt_all ss
    cases s with
    | keep => exact ⟨bs, e1, by simpa [okS] using e2⟩
    | leave => exact ⟨bs, e1, by simpa [okS] using e2⟩
    | exch z => exact ⟨speltB z :: bs, by show mapO blOf (.bl (speltB z) :: (ss.map enc).filterMap txtG) = _; unfold mapO; rw [e1] <;> rfl, by simp [okS, e2]⟩
    | put z => exact ⟨speltB z :: bs, by show mapO blOf (.bl (speltB z) :: (ss.map enc).filterMap txtG) = _; unfold mapO; rw [e1] <;> rfl, by simp [okS, e2]⟩
theorem step_all : ∀ {ps : List PyData} {ss : List Stp}, mapO form ps = some ss → ps.all stepB = ss.all okS
  | [], ss, h => by
    cases h
    rfl
  | p :: ps, ss, h => by
    unfold mapO at h
    cases e : form p with
    | none => rw [e] at h; cases h
    | some s =>
      rw [e] at h
      cases e2 : mapO form ps with
      | none => simp only [e2] at h; cases h
      | some ts =>
        simp only [e2] at h
        cases h
        rw [List.all_cons, List.all_cons, step_all e2]
        congr 1
        unfold stepB
        rw [e]
theorem due_none (h : ∀ ps, p = .list ps → ps.all formB = false) : dueV bs p = none := by
  cases p with
  | list ps =>
    have h1 := h ps rfl
    have h2 : ps.all stepB = false := by
      cases e : ps.all stepB with
      | false => rfl
      | true =>
        rw [List.all_eq_true] at e
        have : ps.all formB = true := by
          rw [List.all_eq_true]
          exact fun c hc => step_form (e c hc)
        rw [h1] at this
        cases this
    unfold dueV
    simp only [h2]
    rfl
  | _ => rfl
theorem due_ok (h : Dn q S k v p) (hk : k ≤ 20) (gb : S.get b = some (.lst (wds bs))) (hb : ∀ w ∈ bs, fit w) (hbl : bs.length < line) : Ok (fun x s => Fr No S s ∧ IsL S s x (dueV bs p)) (F__law_due [.ref b, v] S) := by
  have hnx := h.noX
  refine o_run rfl ?_
  show Wp _ _ (FB__law_due [some (.ref b), some v, none] S)
  unfold FB__law_due
  simp [hnx]
  refine (are_pur h hk).mono fun x s ⟨hx, fr⟩ => ?_
  subst hx
  cases ha : areB p with
  | false =>
    simp
    refine ⟨fr, ?_⟩
    rw [due_none fun ps e => by subst e; exact ha]
    rfl
  | true =>
    simp
    cases h with
    | @lst k n ds ps hq g l m r =>
      obtain ⟨ss, f1, f2, f3⟩ := forms_of l r ha
      have hl2 : ss.length < line := by
        have := congrArg List.length f2
        simp at this
        omega
      subst f2
      have g1 := fr.at_ n _ id g
      have gb1 := fr.at_ _ _ id gb
      refine o_lcf (ss.map enc) txtG ?_
      rw [iter_lst rfl g1]
      refine ⟨itm_lst g1 id, by simpa using hl2, fun d hd => ⟨[(2, d)], rfl, fun s2 fr2 => ?_⟩, fun s' fr2 g2 => ?_⟩
      · obtain ⟨st, hst, rfl⟩ := List.mem_map.mp hd
        have hf := f3 st hst
        cases st with
        | keep => exact ⟨by kernel_rfl, fun y hy => nomatch hy⟩
        | leave => exact ⟨by kernel_rfl, fun y hy => nomatch hy⟩
        | exch z =>
          refine ⟨by kernel_rfl, fun y hy => ?_⟩
          cases hy
          exact is_word_ok (S := s2) hf.2
        | put z =>
          refine ⟨by kernel_rfl, fun y hy => ?_⟩
          cases hy
          exact is_word_ok (S := s2) hf.2
      · obtain ⟨bs2, e1, e2⟩ := txt_all ss
        rw [allF_of g2 e1, e2]
        have hdue : dueV bs (.list ps) = if ss.all okS then run bs ss 0 [] else none := by
          unfold dueV
          simp only [step_all f1, f1]
        rw [hdue]
        cases ss.all okS with
        | false =>
          simp
          exact ⟨fr.trans fr2, rfl⟩
        | true =>
          simp
          rw [pur_raw (by rfl)]
          refine (made_ok (fr2.at_ _ _ id gb1) hb hbl (fr2.at_ _ _ id g1) f3 hl2).mono fun x s3 ⟨fr3, hx⟩ => ⟨(fr.trans fr2).trans fr3, ?_⟩
          cases hr : run bs ss 0 [] with
          | none => rw [hr] at hx; exact hx
          | some f =>
            rw [hr] at hx
            obtain ⟨m, h1, h2⟩ := hx
            exact ⟨m, Nat.le_trans (fr.trans fr2).n h1, h2⟩
    | _ => cases ha
theorem is_book_ok (gb : S.get b = some (.lst (wds bs))) (hb : ∀ w ∈ bs, fit w ∧ speltB w = true) (hbl : bs.length < line) : Ok (fun x s => x = .bl true ∧ Fr No S s) (F_is_book [.ref b] S) := by
  have i1 : isiF [.ref b, .ty "list"] S = .ok (.bl true) S := by
    have t : tyN (.ref b) S = some "list" := by
      unfold tyN
      simp only [gb]
    have e : L2.kitB "list" "list" = some true := by decide +kernel
    unfold isiF
    simp only [t, e]
  refine o_run rfl ?_
  show Wp _ _ (FB_is_book [some (.ref b), none] S)
  unfold FB_is_book
  simp [i1]
  refine o_lc No (wds bs) (fun _ _ y _ => y = .bl true) ?_
  rw [iter_lst rfl gb]
  refine ⟨itm_lst gb id, by simp [wds]; omega, id, fun i d hd => ⟨[(1, d)], rfl, fun s fr hl => ?_⟩, fun _ _ _ _ _ z => z, fun s' zs fr hl g2 l2 hz => ?_⟩
  · unfold wds at hd
    rw [List.getElem?_map] at hd
    obtain ⟨w, hw, rfl⟩ := Option.map_eq_some_iff.mp hd
    obtain ⟨h1, h2⟩ := hb w (List.mem_of_getElem? hw)
    simp [is_spelt_ok (Dn.str (q := No) (k := 0) (S := s) h1), speltP, h2, Fr.refl]
  · rw [allF_true g2 hz]
    exact ⟨rfl, fr⟩
theorem check_ok (gb : S.get b = some (.lst (wds bs))) (hb : ∀ w ∈ bs, fit w ∧ speltB w = true) (hbl : bs.length < line) : Ok (fun x s => x = .non ∧ Fr No S s) (F_check_book [.ref b] S) := by
  refine o_run rfl ?_
  show Wp _ _ (FB_check_book [some (.ref b)] S)
  unfold FB_check_book
  simp
  rw [pur_raw (by rfl)]
  refine (is_book_ok gb hb hbl).mono fun x s ⟨hx, fr⟩ => ?_
  subst hx
  simp [fr]
/-- mended_by: a list, or the error with the very value -/
theorem by_ok (h : Dn q S k v p) (hk : k ≤ 20) (gb : S.get b = some (.lst (wds bs))) (hb : ∀ w ∈ bs, fit w ∧ speltB w = true) (hbl : bs.length < line) :
    ∃ s, Fr No S s ∧ (match dueV bs p with
      | some f => ∃ x, F_mended_by [.ref b, v] S = .ok x s ∧ IsL S s x (some f)
      | none => F_mended_by [.ref b, v] S = .err "InvalidMending" v s) := by
  have hnx := h.noX
  obtain ⟨c, s1, e1, rfl, fr1⟩ := (check_ok gb hb hbl).eq
  have h1 : Dn No s1 k v p := (h.weak (fun n z => z.elim)).fr fr1
  obtain ⟨x, s2, e2, fr2, hx⟩ := (mended_ok h1 hk (fr1.at_ _ _ id gb) (fun w hw => (hb w hw).1) hbl).eq
  have e1' : pur F_check_book [.ref b] S = .ok .non s1 := by rw [pur_raw (by rfl)]; exact e1
  have e2' : pur F_mended [.ref b, v] s1 = .ok x s2 := by rw [pur_raw (by rfl)]; exact e2
  refine ⟨s2, fr1.trans fr2, ?_⟩
  have key : FB_mended_by [some (.ref b), some v, none] S = mSeq (mIfS (mOp2 isD (mV 2) (mC .non)) (mRaise "InvalidMending" (mV 1)) (mNx)) (mRet (mV 2)) [some (.ref b), some v, some x] s2 := by
    unfold FB_mended_by
    simp [mSeq, mExp, mOwn, mCons, mNil, mV, Res.bind, Res.toS, e1', hnx]
    simp [mSet, mOwn, mCons, mNil, mV, Res.bind, Res.toS, e2', hnx]
  cases hd : dueV bs p with
  | none =>
    rw [hd] at hx
    have hx : x = .non := hx
    subst hx
    show runB 2 3 FB_mended_by [.ref b, v] S = _
    unfold runB
    rw [if_pos (by rfl)]
    show (match FB_mended_by [some (.ref b), some v, none] S with
      | .nx _ S1 => Res.ok D.non S1
      | .rt d S1 => .ok d S1
      | .err c d _ S1 => .err c d S1
      | _ => .bad) = _
    rw [key]
    simp [mSeq, mIfS, mOp2, mC, mV, Res.bind, Res.toS, isD, mRaise, hnx]
  | some f =>
    rw [hd] at hx
    obtain ⟨m, hm, rfl, gm, hl⟩ := hx
    refine ⟨.ref m, ?_, m, Nat.le_trans fr1.n hm, rfl, gm, hl⟩
    show runB 2 3 FB_mended_by [.ref b, v] S = _
    unfold runB
    rw [if_pos (by rfl)]
    show (match FB_mended_by [some (.ref b), some v, none] S with
      | .nx _ S1 => Res.ok D.non S1
      | .rt d S1 => .ok d S1
      | .err c d _ S1 => .err c d S1
      | _ => .bad) = _
    rw [key]
    simp [mSeq, mIfS, mOp2, mC, mV, Res.bind, Res.toS, isD, mNx, mRet, noX]
end
end K80

/-! QJ: k80: the law's judgement of one value, where it is data. -/
namespace K80
open PySem MR
section
variable {q q' : Nat → Prop} {S S' s : Hs} {k : Nat} {d v x : D} {p : PyData} {b n t : Nat} {bs : List Str} {ss : List Stp} {e : EnvD} {i : Nat}
theorem ne_bl (a b : Bool) : neD (.bl a) (.bl b) S = .ok (.bl (!(a == b))) S := by
  unfold neD
  rw [eq_bl]
theorem neX_self (h : Dn q S k x p) (hk : k ≤ 40) : neX x x S = .ok (.bl false) S := by
  unfold neX
  split
  · rfl
  · rw [h.ne h hk hk, h.refl]
    rfl
theorem eqX_self (h : Dn q S k x p) (hk : k ≤ 40) : eqX x x S = .ok (.bl true) S := by
  unfold eqX
  split
  · rfl
  · rw [h.eq h hk hk, h.refl]
theorem pop_lst {m : Nat} {xs : List D} {y : D} (g : S.get m = some (.lst (xs ++ [y]))) : popG (.ref m) [] S = .ok y (S.put m (.lst xs)) := by
  unfold popG
  simp [g]
theorem is_ok (h : Dn q S k x p) (hk : k ≤ 30) (ow : Own S k x p) (gt : S.get t = some (.lst [.str "mending", x])) (ht : ∀ n, x = .ref n → n ≠ t) (hsm : ∀ ps, p = .list ps → ps.length + 1 < line) : Ok (fun y s => y = .bl true ∧ Fr No S s) (F__law_is [.ref t, .str "mending", x] S) := by
  have i1 := h.isi (b := "list") (by simp)
  have i2 := h.isi (b := "dict") (by simp)
  have i3 := h.isi (b := "bool") (by simp)
  have hnx := h.noX
  have x0 : ixD (.ref t) (.int 0) S = .ok (.str "mending") S := ix_lst (i := 0) gt rfl
  have x1 : ixD (.ref t) (.int 1) S = .ok x S := ix_lst (i := 1) gt rfl
  have x2 : neD (.str "mending") (.str "mending") S = .ok (.bl false) S := by kernel_rfl
  have x3 := neX_self h (by omega)
  refine o_run rfl ?_
  show Wp _ _ (FB__law_is [some (.ref t), some (.str "mending"), some x, none] S)
  unfold FB__law_is
  cases h with
  | @lst k n ds ps hq g l m r =>
    obtain ⟨ds', ps', g', ep, l', m', r'⟩ := ow n rfl
    rw [g] at g'
    cases g'
    cases ep
    have gn := Hs.get_put (c' := .lst (ds ++ [.str "told"])) g
    have hnt := ht n rfl
    have gt1 : (S.put n (.lst (ds ++ [.str "told"]))).get t = some (.lst [.str "mending", .ref n]) := by
      rw [Hs.get_put_ne (Hs.get_lt g) hnt.symm]
      exact gt
    have fr1 : Fr (· = n) S (S.put n (.lst (ds ++ [.str "told"]))) := Fr.put g rfl
    have dn1 : Dn No (S.put n (.lst (ds ++ [.str "told"]))) (k + 2) (.ref n) (.list (ps ++ [.str "told"])) := .lst id gn (by simp [l]) (by
      have := hsm ps rfl
      rw [List.length_append]
      show ds.length + 1 < line
      omega) fun i d p a b => by
      by_cases hi : i < ds.length
      · rw [List.getElem?_append_left hi] at a
        rw [List.getElem?_append_left (by omega)] at b
        exact ((r' i d p a b).fr fr1).weak fun _ z => z.elim
      · rw [List.getElem?_append_right (by omega)] at a
        rw [List.getElem?_append_right (by omega), ← l] at b
        cases e : i - ds.length with
        | zero =>
          rw [e] at a b
          cases a
          cases b
          exact .str (lits "told" (by simp))
        | succ j =>
          rw [e] at a
          simp at a
    simp [i1, i3, tyOf, x0, x1, x2, x3, ne_bl, tyD_lst g, app_lst g m]
    have x4 : ixD (.ref t) (.int 1) (S.put n (.lst (ds ++ [.str "told"]))) = .ok (.ref n) (S.put n (.lst (ds ++ [.str "told"]))) := ix_lst (i := 1) gt1 rfl
    rw [x4]
    simp [eqX_self dn1 (by omega), tyD_lst gn, pop_lst gn]
    refine ⟨fun a c _ hc => ?_, Nat.le_refl _⟩
    by_cases ha : a = n
    · subst ha
      rw [Hs.get_put gn, ← hc, g]
    · rw [Hs.get_put_ne (Hs.get_lt gn) ha, Hs.get_put_ne (Hs.get_lt g) ha]
      exact hc
  | _ => simp [i1, i2, i3, tyOf, x0, x1, x2, x3, hnx, ne_bl, Fr.refl]
end
end K80

/-! QK: k80: the law's judgement of one value that is data. -/
namespace K80
open PySem MR
section
variable {q q' : Nat → Prop} {S S' s : Hs} {k : Nat} {d v x : D} {p : PyData} {b n t : Nat} {bs : List Str} {ss : List Stp} {env e1 : EnvD} {i j : Nat}
theorem wds_dn {m : Nat} {f : List Str} (g : S.get m = some (.lst (wds f))) (hf : ∀ w ∈ f, fit w) (hl : f.length < line) : Dn No S 1 (.ref m) (.list (f.map .str)) := .lst id g (by simp [wds]) (by simpa [wds] using hl) fun i d p a b => by
  unfold wds at a
  rw [List.getElem?_map] at a b
  obtain ⟨w, hw, rfl⟩ := Option.map_eq_some_iff.mp a
  rw [hw] at b
  cases b
  exact .str (hf w (List.mem_of_getElem? hw))
theorem same8 (h : Dn q S k v p) (hk : k ≤ 7) : Ok (fun x s => Fr No S s ∧ Dn (· < S.n) s 7 x p ∧ Own s 7 x p) (pur (F__law_same 8) [v] S) := same_pur (same_ok 7) (h.up hk)
theorem exact8 {k' : Nat} {d' : D} (h : Dn q S k d p) (h' : Dn q' S k' d' p) (hk : k ≤ 7) (hk' : k' ≤ 7) : Ok (fun x s => x = .bl true ∧ Fr No S s) (pur (F__law_exact 8) [d, d'] S) := exact_pur (k := 7) (k' := 7) (fun a b => exact_ok 7 (by omega) a b) (h.up hk) (h'.up hk')
theorem try_nx {m : SM} {x : Str} (h : m env S = .nx e1 s) : mTryK isa kn m x i j env S = .nx e1 s := by
  unfold mTryK
  rw [h]
theorem try_err {m : SM} {x c : Str} {f : D} (h : m env S = .err c f e1 s) (h1 : c ∈ kn) (h2 : isa c x = true) : mTryK isa kn m x i j env S = .nx ((e1.set j (some (.er c f))).set i none) s := by
  unfold mTryK
  rw [h]
  simp only [if_pos h1, h2, if_true]
theorem run_mem : ∀ {ss : List Stp} {a : Nat} {f g : List Str}, run bs ss a f = some g → (∀ w ∈ bs, fit w) → (∀ s ∈ ss, fitS s) → (∀ w ∈ f, fit w) → ∀ w ∈ g, fit w
  | [], a, f, g, h, _, _, hf => by
    unfold run at h
    split at h
    · cases h
      exact hf
    · cases h
  | .put z :: r, a, f, g, h, hb, hs, hf => run_mem (ss := r) h hb (fun s h => hs s (List.mem_cons_of_mem _ h)) fun w hw => by
      rcases List.mem_append.mp hw with hw | hw
      · exact hf w hw
      · cases List.mem_singleton.mp hw
        exact hs (.put z) List.mem_cons_self
  | .keep :: r, a, f, g, h, hb, hs, hf => by
    have h' : (match bs[a]? with
      | none => none
      | some b => run bs r (a + 1) (f ++ [b])) = some g := h
    cases e : bs[a]? with
    | none => rw [e] at h'; cases h'
    | some b =>
      rw [e] at h'
      exact run_mem (ss := r) h' hb (fun s h => hs s (List.mem_cons_of_mem _ h)) fun w hw => by
        rcases List.mem_append.mp hw with hw | hw
        · exact hf w hw
        · cases List.mem_singleton.mp hw
          exact hb b (List.mem_of_getElem? e)
  | .leave :: r, a, f, g, h, hb, hs, hf => by
    have h' : (match bs[a]? with
      | none => none
      | some b => run bs r (a + 1) f) = some g := h
    cases e : bs[a]? with
    | none => rw [e] at h'; cases h'
    | some b =>
      rw [e] at h'
      exact run_mem (ss := r) h' hb (fun s h => hs s (List.mem_cons_of_mem _ h)) hf
  | .exch z :: r, a, f, g, h, hb, hs, hf => by
    have h' : (match bs[a]? with
      | none => none
      | some b => if z = b then none else run bs r (a + 1) (f ++ [z])) = some g := h
    cases e : bs[a]? with
    | none => rw [e] at h'; cases h'
    | some b =>
      rw [e] at h'
      simp only at h'
      split at h'
      · cases h'
      · exact run_mem (ss := r) h' hb (fun s h => hs s (List.mem_cons_of_mem _ h)) fun w hw => by
          rcases List.mem_append.mp hw with hw | hw
          · exact hf w hw
          · cases List.mem_singleton.mp hw
            exact hs (.exch z) List.mem_cons_self
theorem due_fit (h : Dn q S k v p) (hb : ∀ w ∈ bs, fit w) {f : List Str} (e : dueV bs p = some f) : ∀ w ∈ f, fit w := by
  cases h with
  | @lst k n ds ps hq g l m r =>
    have e' : (if ps.all stepB then (match mapO form ps with
      | some ss => run bs ss 0 []
      | none => none) else none) = some f := e
    split at e'
    · rename_i ha
      obtain ⟨ss, f1, f2, f3⟩ := forms_of l r (by
        rw [List.all_eq_true] at ha ⊢
        exact fun c hc => step_form (ha c hc))
      rw [f1] at e'
      exact run_mem e' hb f3 fun w hw => by cases hw
    · cases e'
  | _ => cases e
theorem right_ok (h : Dn q S k v p) (hk : k ≤ 7) (hsm : ∀ ps, p = .list ps → ps.length + 1 < line) (gb : S.get b = some (.lst (wds bs))) (hb : ∀ w ∈ bs, fit w ∧ speltB w = true) (hbl : bs.length < line) : Ok (fun x s => x = .bl true ∧ Fr No S s) (F__law_steps_right [.ref b, v] S) := by
  have hnx := h.noX
  have hb1 : ∀ w ∈ bs, fit w := fun w hw => (hb w hw).1
  refine o_run rfl ?_
  show Wp _ _ (FB__law_steps_right [some (.ref b), some v, none, none, none, none, none, none] S)
  unfold FB__law_steps_right
  rw [Wp_seq, Wp_asg, o_tup]
  simp only [o_cons, o_own, o_v, o_call, o_mC, o_nil, List.getElem?_cons_zero, List.getElem?_cons_succ, hnx, noX_ref, true_and, List.append_nil]
  rw [pur_raw (by rfl)]
  refine (due_ok h (by omega) gb hb1 hbl).mono fun due s1 ⟨fr1, hdue⟩ => ?_
  have gb1 := fr1.at_ _ _ id gb
  have l1 : listF [.ref b] s1 = .ok (.ref s1.n) (s1.new (.lst (wds bs))) := by
    unfold listF
    simp only [listOf_get gb1]
  rw [l1]
  have fr2 : Fr No S (s1.new (.lst (wds bs))) := fr1.trans Fr.new
  have g5 : (s1.new (.lst (wds bs))).get s1.n = some (.lst (wds bs)) := Hs.get_new _ _
  have h2 := (h.weak (q' := No) fun n z => z.elim).fr fr2
  simp only [Ok_ok]
  refine ⟨show (4 : Nat) ≤ line by decide, ?_⟩
  simp only [bTup, List.length_cons, List.length_nil, List.zip_cons_cons, List.zip_nil_right, if_true, apD, List.foldl_cons, List.foldl_nil, List.set_cons_succ, List.set_cons_zero]
  rw [Wp_seq, Wp_set]
  simp only [o_own, o_cons, o_nil, o_v, List.getElem?_cons_zero, List.getElem?_cons_succ, hnx, true_and, List.append_nil]
  refine (same8 h2 hk).mono fun g s3 ⟨fr3, hg, ow⟩ => ?_
  have hgx := hg.noX
  have f03 : Fr No S s3 := fr2.trans fr3
  have gb3 := f03.at_ _ _ id gb
  have g53 := fr3.at_ _ _ id g5
  have hv3 := (h.weak (q' := No) fun n z => z.elim).fr f03
  obtain ⟨s4, fr4, hby⟩ := by_ok hg (by omega) g53 hb hbl
  simp only [List.set_cons_succ, List.set_cons_zero]
  rw [Wp_seq]
  have gb4 := fr4.at_ _ _ id gb3
  have g54 := fr4.at_ _ _ id g53
  have hg4 := hg.fr fr4.any
  have hv4 := hv3.fr fr4
  have hneq : neD (.ref s1.n) (.ref b) s4 = .ok (.bl false) s4 := by
    have a := wds_dn g54 hb1 hbl
    have c := wds_dn gb4 hb1 hbl
    rw [a.ne c (by omega) (by omega), a.refl]
    rfl
  cases hd : dueV bs p with
  | none =>
    rw [hd] at hdue hby
    have hdue : due = .non := hdue
    subst hdue
    have eb : mSet 7 (mOwn (pur F_mended_by) [] (mCons (mV 5) (mCons (mV 2) mNil))) [some (.ref b), some v, some g, none, some .non, some (.ref s1.n), some .non, some .non] s3 = .err "InvalidMending" g [some (.ref b), some v, some g, none, some .non, some (.ref s1.n), some .non, some .non] s4 := by
      have hby : F_mended_by [.ref s1.n, g] s3 = .err "InvalidMending" g s4 := hby
      have : pur F_mended_by [.ref s1.n, g] s3 = .err "InvalidMending" g s4 := by rw [pur_raw (by rfl)]; exact hby
      simp [mSet, mOwn, mCons, mNil, mV, Res.bind, Res.toS, hgx, this]
    rw [try_err eb (by simp [kn]) (by decide +kernel)]
    simp only [Wp_nx, List.set_cons_succ, List.set_cons_zero]
    simp [hneq, hgx, hnx, isD, isnotD]
    refine (exact8 hg4 hv4 (by omega) hk).mono fun y s5 ⟨hy, fr5⟩ => ?_
    subst hy
    simp [mVal, hgx, kn, show (2 : Nat) ≤ line by decide]
    rw [pur_raw (by rfl)]
    have hg5 := (hg4.fr fr5.any).weak (q' := No) (fun n z => z.elim) |>.fr (Fr.new (c := .lst [.str "mending", g]))
    have ow5 := ((ow.fr fr4).fr fr5).fr (Fr.new (c := .lst [.str "mending", g]))
    have f5 : Fr No S (s5.new (.lst [.str "mending", g])) := ((f03.trans fr4).trans fr5).trans Fr.new
    refine (is_ok hg5 (by omega) ow5 (Hs.get_new _ _) (fun n e => ?_) hsm).mono fun y s6 ⟨hy, fr6⟩ => ⟨hy, f5.trans fr6⟩
    subst e
    obtain ⟨ds, ps, gx, _⟩ := ow n rfl
    have := Hs.get_lt (fr5.at_ _ _ id (fr4.at_ _ _ id gx))
    omega
  | some f =>
    rw [hd] at hdue hby
    obtain ⟨md, hmd, rfl, gd, hfl⟩ := hdue
    obtain ⟨told, e4, mt, hmt, rfl, gt, _⟩ := hby
    have hff := due_fit h hb1 hd
    have eb : mSet 7 (mOwn (pur F_mended_by) [] (mCons (mV 5) (mCons (mV 2) mNil))) [some (.ref b), some v, some g, none, some (.ref md), some (.ref s1.n), some .non, some .non] s3 = .nx [some (.ref b), some v, some g, none, some (.ref md), some (.ref s1.n), some .non, some (.ref mt)] s4 := by
      have : pur F_mended_by [.ref s1.n, g] s3 = .ok (.ref mt) s4 := by rw [pur_raw (by rfl)]; exact e4
      simp [mSet, mOwn, mCons, mNil, mV, Res.bind, Res.toS, hgx, this]
    rw [try_nx eb]
    have gd4 : s4.get md = some (.lst (wds f)) := (Fr.trans (Fr.new (c := .lst (wds bs))) (fr3.trans fr4)).at_ _ _ id gd
    have gd3 : s3.get md = some (.lst (wds f)) := (Fr.trans (Fr.new (c := .lst (wds bs))) fr3).at_ _ _ id gd
    simp only [Wp_nx]
    simp [hneq, hgx, hnx, isD, isnotD]
    refine (exact8 hg4 hv4 (by omega) hk).mono fun y s5 ⟨hy, fr5⟩ => ?_
    subst hy
    have gt5 := fr5.at_ _ _ id gt
    have gd5 := fr5.at_ _ _ id gd4
    simp
    refine (exact8 (wds_dn gt5 hff hfl) (wds_dn gd5 hff hfl) (by omega) (by omega)).mono fun y s6 ⟨hy, fr6⟩ => ?_
    subst hy
    have gt6 := fr6.at_ _ _ id gt5
    simp [tyD_lst gt6, app_lst gt6 (show (wds f).length < line by simpa [wds] using hfl)]
    rw [pur_raw (by rfl)]
    have f36 : Fr No s3 (s6.put mt (.lst (wds f ++ [.str "more"]))) := ((fr4.trans fr5).trans fr6).put_new gt6 hmt
    obtain ⟨s7, fr7, hby2⟩ := by_ok (hg.fr f36.any) (by omega) (f36.at_ _ _ id g53) hb hbl
    rw [hd] at hby2
    obtain ⟨x2, e7, m2, hm2, rfl, g2, _⟩ := hby2
    rw [e7]
    have gd7 := fr7.at_ _ _ id (f36.at_ _ _ id gd3)
    simp
    refine (exact8 (wds_dn g2 hff hfl) (wds_dn gd7 hff hfl) (by omega) (by omega)).mono fun y s8 ⟨hy, fr8⟩ => ⟨hy, ((f03.trans f36).trans fr7).trans fr8⟩
end
end K80

/-! QL: k80: the law's judgement of a dict with at most one key. -/
namespace K80
open PySem MR
open L2 (kitB)
/-- the law's own dicts -/
def Few (kvs : List (List L2.Key × D)) : Prop := kvs = [] ∨ kvs = [([.inr "keep"], .non)]
section
variable {q q' : Nat → Prop} {S S' s : Hs} {k : Nat} {d v x : D} {p : PyData} {b n m t : Nat} {bs : List Str} {env e1 : EnvD} {i j : Nat} {kvs : List (List L2.Key × D)}
theorem Few.len (h : Few kvs) : kvs.length ≤ 1 := by
  rcases h with rfl | rfl <;> decide
theorem Few.at_ (h : Few kvs) {k : List L2.Key} {i : Nat} (e : (kvs.map (·.1))[i]? = some k) : valT kvs k = some .non := by
  rcases h with rfl | rfl
  · cases e
  · match i, e with
    | 0, e => cases e; rfl
    | i + 1, e => cases e
theorem kitd : ∀ b ∈ ["bool", "str", "tuple", "list", "dict"], kitB "dict" b = some ("dict" == b) := by decide +kernel
theorem isi_dict (g : S.get n = some (.dt kvs)) {b : String} (hb : b ∈ ["bool", "str", "tuple", "list", "dict"]) : isiF [.ref n, .ty b] S = .ok (.bl ("dict" == b)) S := by
  have t : tyN (.ref n) S = some "dict" := by
    unfold tyN
    simp only [g]
  unfold isiF
  simp only [t, kitd b hb]
theorem isi_dict2 (g : S.get n = some (.dt kvs)) : isiF [.ref n, .tup [.ty "list", .ty "tuple"]] S = .ok (.bl false) S := by
  have t : tyN (.ref n) S = some "dict" := by
    unfold tyN
    simp only [g]
  have e : kitBs "dict" [.ty "list", .ty "tuple"] = some false := by decide +kernel
  unfold isiF
  simp only [t, e]
theorem o_lock {P : D → Hs → Prop} {me : Ex} (h0 : env[i]? = some (some (.ref n))) (g : S.get n = some (.dt kvs)) (h : Ok (fun d s => s.get n = some (.dtf kvs) ∧ P d (s.put n (.dt kvs))) (me env (S.put n (.dtf kvs)))) : Ok P (mLock i me env S) := by
  obtain ⟨d, s, e, g2, hp⟩ := h.eq
  unfold mLock
  simp only [h0, g, e, g2]
  exact hp
theorem itm_keysT {ks : List (List L2.Key)} : Itm q S (.keysT ks) (ks.map D.key) := ⟨by simp [DI.size], fun i s fr => by
  show some (ks[i]?.map D.key) = _
  rw [List.getElem?_map]⟩
theorem keysT_ev {P : DI → Hs → Prop} (h0 : env[i]? = some (some (.ref n))) (g : S.get n = some (.dtf kvs)) : Ok P (mKeysT (mV i) env S) = P (.keysT (kvs.map (·.1))) S := by
  unfold mKeysT
  simp [h0, g]
theorem dget_ok {k : List L2.Key} (g : S.get n = some (.dt kvs) ∨ S.get n = some (.dtf kvs)) (e : valT kvs k = some d) : dgetTD (.ref n) (.key k) S = .ok d S := by
  have h : kvT S n = some kvs := by
    unfold kvT
    rcases g with g | g <;> simp only [g]
  unfold dgetTD
  simp only [h, e]
theorem same_non (k : Nat) : pur (F__law_same (k + 1)) [.non] S = .ok .non S := pur_val rfl rfl ((same_ok k (q := No) (S := S0) (.non)).mono fun x s ⟨_, h, _⟩ => by cases h; rfl)
theorem exact_non (k : Nat) (hk : k ≤ 30) : pur (F__law_exact (k + 1)) [.non, .non] S = .ok (.bl true) S := pur_val rfl rfl ((exact_ok k (q := No) (q' := No) (S := S0) hk (.non) (.non)).mono fun x s h => h.1)
/-- a cell written and written back -/
theorem fr_back {c c' : Cell} (g : S.get n = some c) (f : Fr (· = n) S S') (h : S'.get n = some c) : Fr No S S' := ⟨fun m c' _ e => by
  by_cases hm : m = n
  · subst hm
    rw [g] at e
    cases e
    exact h
  · exact f.at_ m c' hm e, f.n⟩
theorem same_dict (hf : Few kvs) (g : S.get n = some (.dt kvs)) : Ok (fun x s => Fr No S s ∧ ∃ m, x = .ref m ∧ S.n ≤ m ∧ s.get m = some (.dt kvs)) (pur (F__law_same 8) [.ref n] S) := by
  rw [pur_raw (by rfl)]
  show Ok _ (runB 1 3 (FB__law_same (F__law_same 7)) [.ref n] S)
  refine o_run rfl ?_
  show Wp _ _ (FB__law_same (F__law_same 7) [some (.ref n), none, none] S)
  unfold FB__law_same
  simp [isi_dict g]
  refine o_lock rfl g ?_
  have g1 := Hs.get_put (c' := .dtf kvs) g
  refine o_lc No ((kvs.map (·.1)).map D.key) (fun _ i y _ => ∃ k, (kvs.map (·.1))[i]? = some k ∧ y = .tup [.key k, .non]) ?_
  rw [keysT_ev rfl g1]
  refine ⟨itm_keysT, by have := hf.len; simp; have : line = 16777216 := rfl; omega, id, fun i d hd => ⟨[(2, d)], rfl, fun s fr hl => ?_⟩, fun _ _ _ _ _ z => z, fun s' zs fr hl g2 l2 hz => ?_⟩
  · rw [List.getElem?_map] at hd
    obtain ⟨k, hk, rfl⟩ := Option.map_eq_some_iff.mp hd
    have e := dget_ok (S := s) (.inr (fr.at_ _ _ id g1)) (hf.at_ hk)
    have e2 := same_non (S := s) 6
    simp [e, e2, show (2 : Nat) ≤ line by decide, Fr.refl]
    simpa using hk
  · have gn2 := fr.at_ _ _ id g1
    refine ⟨gn2, ?_⟩
    have hne : S.n ≠ n := by
      have := Hs.get_lt g
      omega
    have g3 : (s'.put n (.dt kvs)).get S.n = some (.lst zs) := by
      rw [Hs.get_put_ne (Hs.get_lt gn2) hne]
      exact g2
    have fr2 : Fr No S (s'.put n (.dt kvs)) := fr_back (c' := .dt kvs) g ((Fr.put (q := (· = n)) g rfl).trans (fr.any.trans (Fr.put (q := (· = n)) gn2 rfl))) (Hs.get_put gn2)
    rcases hf with rfl | rfl
    · have ez : zs = [] := List.length_eq_zero_iff.mp (by simpa using l2)
      subst ez
      unfold dictTF
      have g3' : (s'.put n (.dt [])).get (S.put n (.dtf [])).n = some (.lst []) := g3
      simp only [g3', Ok_ok]
      exact ⟨fr2.trans Fr.new, _, rfl, fr2.n, Hs.get_new _ _⟩
    · have l3 : zs.length = 1 := by simpa using l2
      match zs, l3, hz with
      | [z], _, hz =>
        obtain ⟨k, hk, rfl⟩ := hz 0 z rfl
        cases hk
        unfold dictTF
        have g3' : (s'.put n (.dt [([.inr "keep"], .non)])).get (S.put n (.dtf [([.inr "keep"], .non)])).n = some (.lst [.tup [.key [.inr "keep"], .non]]) := g3
        simp only [g3', Ok_ok]
        exact ⟨fr2.trans Fr.new, _, rfl, fr2.n, Hs.get_new _ _⟩
theorem listT_ok (g : S.get n = some (.dt kvs)) : listTF [.ref n] S = .ok (.ref S.n) (S.new (.lst (kvs.map fun kv => .tup (kv.1.map kD)))) := by
  have h : kvT S n = some kvs := by
    unfold kvT
    simp only [g]
  unfold listTF
  simp only [h]
def keysP (kvs : List (List L2.Key × D)) : PyData := match kvs with
  | [] => .list []
  | _ => .list [.tuple [.str "keep"]]
theorem keys_dn (hf : Few kvs) (g : S.get n = some (.lst (kvs.map fun kv => .tup (kv.1.map kD)))) : Dn No S 2 (.ref n) (keysP kvs) := by
  rcases hf with rfl | rfl
  · exact .lst id g rfl (show (0 : Nat) < line by decide) fun i d p a => by simp at a
  · exact .lst id g rfl (show (1 : Nat) < line by decide) fun i d p a b => by
      match i, a, b with
      | 0, a, b =>
        cases a
        cases b
        exact tup1_dn (lits "keep" (by simp))
      | i + 1, a, b => simp at a
theorem exact_dict (hf : Few kvs) (g : S.get m = some (.dt kvs)) (g' : S.get n = some (.dt kvs)) : Ok (fun x s => x = .bl true ∧ Fr No S s) (pur (F__law_exact 8) [.ref m, .ref n] S) := by
  rw [pur_raw (by rfl)]
  show Ok _ (runB 2 6 (FB__law_exact (F__law_exact 7)) [.ref m, .ref n] S)
  refine o_run rfl ?_
  show Wp _ _ (FB__law_exact (F__law_exact 7) [some (.ref m), some (.ref n), none, none, none, none] S)
  unfold FB__law_exact
  simp [isi_dict g, isi_dict g', isi_dict2 g, show (2 : Nat) ≤ line by decide]
  rw [listT_ok g]
  simp
  rw [listT_ok (Hs.get_old g')]
  simp
  have d1 := keys_dn hf (Hs.get_old (c' := .lst (kvs.map fun kv => .tup (kv.1.map kD))) (Hs.get_new S (.lst (kvs.map fun kv => .tup (kv.1.map kD)))))
  have d2 := keys_dn hf (Hs.get_new (S.new (.lst (kvs.map fun kv => .tup (kv.1.map kD)))) (.lst (kvs.map fun kv => .tup (kv.1.map kD))))
  refine (exact_pur (k := 6) (k' := 6) (fun a b => exact_ok 6 (by omega) a b) (d1.up (by omega)) (d2.up (by omega))).mono fun x s ⟨hx, fr⟩ => ?_
  subst hx
  have frS : Fr No S s := Fr.trans (Fr.new.trans Fr.new) fr
  have gm := frS.at_ _ _ id g
  have gn := frS.at_ _ _ id g'
  simp
  refine o_lock rfl gm ?_
  have g1 := Hs.get_put (c' := .dtf kvs) gm
  have gn1 : (s.put m (.dtf kvs)).get n = some (.dt kvs) ∨ (s.put m (.dtf kvs)).get n = some (.dtf kvs) := by
    by_cases h : n = m
    · subst h
      exact .inr g1
    · rw [Hs.get_put_ne (Hs.get_lt gm) h]
      exact .inl gn
  refine o_lc No ((kvs.map (·.1)).map D.key) (fun _ _ y _ => y = .bl true) ?_
  rw [keysT_ev rfl g1]
  refine ⟨itm_keysT, by have := hf.len; simp; have : line = 16777216 := rfl; omega, id, fun i d hd => ⟨[(3, d)], rfl, fun s2 fr2 hl => ?_⟩, fun _ _ _ _ _ z => z, fun s' zs fr2 hl g2 l2 hz => ?_⟩
  · rw [List.getElem?_map] at hd
    obtain ⟨k, hk, rfl⟩ := Option.map_eq_some_iff.mp hd
    have e := dget_ok (S := s2) (.inr (fr2.at_ _ _ id g1)) (hf.at_ hk)
    have e' := dget_ok (S := s2) (gn1.imp (fr2.at_ _ _ id) (fr2.at_ _ _ id)) (hf.at_ hk)
    have e2 := exact_non (S := s2) 6 (by omega)
    simp [e, e', e2, Fr.refl]
  · have gm2 := fr2.at_ _ _ id g1
    refine ⟨gm2, ?_⟩
    have hne : s.n ≠ m := by
      have := Hs.get_lt gm
      omega
    have g3 : (s'.put m (.dt kvs)).get (s.put m (.dtf kvs)).n = some (.lst zs) := by
      show (s'.put m (.dt kvs)).get s.n = _
      rw [Hs.get_put_ne (Hs.get_lt gm2) hne]
      exact g2
    have fr3 : Fr No s (s'.put m (.dt kvs)) := fr_back (c' := .dt kvs) gm ((Fr.put (q := (· = m)) gm rfl).trans (fr2.any.trans (Fr.put (q := (· = m)) gm2 rfl))) (Hs.get_put gm2)
    rw [allF_true g3 hz]
    exact ⟨rfl, frS.trans fr3⟩
theorem is_dict (hf : Few kvs) (g : S.get m = some (.dt kvs)) (gt : S.get t = some (.lst [.str "mending", .ref m])) (ht : m ≠ t) : Ok (fun y s => y = .bl true ∧ Fr No S s) (F__law_is [.ref t, .str "mending", .ref m] S) := by
  have x0 : ixD (.ref t) (.int 0) S = .ok (.str "mending") S := ix_lst (i := 0) gt rfl
  have x1 : ixD (.ref t) (.int 1) S = .ok (.ref m) S := ix_lst (i := 1) gt rfl
  have x2 : neD (.str "mending") (.str "mending") S = .ok (.bl false) S := by kernel_rfl
  have x3 : neX (.ref m) (.ref m) S = .ok (.bl false) S := by
    unfold neX selfD
    simp [g]
  have gm := Hs.get_put (c' := .odd kvs) g
  have x4 : ixD (.ref t) (.int 1) (S.put m (.odd kvs)) = .ok (.ref m) (S.put m (.odd kvs)) := ix_lst (i := 1) (by rw [Hs.get_put_ne (Hs.get_lt g) ht.symm]; exact gt) rfl
  have x5 : eqX (.ref m) (.ref m) (S.put m (.odd kvs)) = .ok (.bl true) (S.put m (.odd kvs)) := by
    unfold eqX selfD
    simp [gm]
  refine o_run rfl ?_
  show Wp _ _ (FB__law_is [some (.ref t), some (.str "mending"), some (.ref m), none] S)
  unfold FB__law_is
  have put : ∀ {P : EnvD → Hs → Prop} {Q : D → Hs → Prop}, Wp P Q (mPutT (mV 2) (mC (.str "told")) (mC .non) [some (.ref t), some (.str "mending"), some (.ref m), none] S) = P [some (.ref t), some (.str "mending"), some (.ref m), none] (S.put m (.odd kvs)) := fun {P Q} => by
    have e : putTD (.ref m) (.str "told") .non S = some (S.put m (.odd kvs)) := by
      have e0 : (Str.ofString "told") = told := rfl
      unfold putTD
      simp only [e0, if_true, g, hf.len]
    unfold mPutT
    simp [e]
  have pop : ∀ {P : D → Hs → Prop} {o : Option D}, Ok P (mPopT (mV 2) (mCons (mC (.str "told")) mNil) [some (.ref t), some (.str "mending"), some (.ref m), o] (S.put m (.odd kvs))) = P .non ((S.put m (.odd kvs)).put m (.dt kvs)) := fun {P o} => by
    have e : popTG (.ref m) [.str "told"] (S.put m (.odd kvs)) = .ok .non ((S.put m (.odd kvs)).put m (.dt kvs)) := by
      have e0 : (Str.ofString "told") = told := rfl
      unfold popTG
      simp only [e0, if_true, gm]
    have e2 : isOdd (.ref m) (S.put m (.odd kvs)) = true := by
      unfold isOdd
      simp only [gm]
    unfold mPopT
    simp [e2, e]
  simp [isi_dict g, x0, x1, x2, x3, ne_bl, put, x4, x5, pop]
  exact fr_back (c' := .dt kvs) g ((Fr.put (q := (· = m)) g rfl).trans (Fr.put (q := (· = m)) gm rfl)) (Hs.get_put gm)
end
end K80

/-! QM: k80: the law's judgement of a dict. -/
namespace K80
open PySem MR
section
variable {S S' s : Hs} {b n m t : Nat} {bs : List Str} {kvs : List (List L2.Key × D)}
theorem by_dict (g : S.get n = some (.dt kvs)) (gb : S.get b = some (.lst (wds bs))) (hb : ∀ w ∈ bs, fit w ∧ speltB w = true) (hbl : bs.length < line) : ∃ s, Fr No S s ∧ F_mended_by [.ref b, .ref n] S = .err "InvalidMending" (.ref n) s := by
  obtain ⟨c, s1, e1, rfl, fr1⟩ := (check_ok gb hb hbl).eq
  have g1 := fr1.at_ _ _ id g
  have e1' : pur F_check_book [.ref b] S = .ok .non s1 := by rw [pur_raw (by rfl)]; exact e1
  have e2' : pur F_mended [.ref b, .ref n] s1 = .ok .non s1 := by
    rw [pur_raw (by rfl)]
    have i1 := isi_dict g1 (b := "list") (by simp)
    have : Ok (fun x s => x = .non ∧ s = s1) (F_mended [.ref b, .ref n] s1) := by
      refine o_run rfl ?_
      show Wp _ _ (FB_mended [some (.ref b), some (.ref n), none, none, none] s1)
      rw [md_eq]
      simp [i1]
    obtain ⟨x, s, e, rfl, rfl⟩ := this.eq
    exact e
  refine ⟨s1, fr1, ?_⟩
  have key : FB_mended_by [some (.ref b), some (.ref n), none] S = mSeq (mIfS (mOp2 isD (mV 2) (mC .non)) (mRaise "InvalidMending" (mV 1)) (mNx)) (mRet (mV 2)) [some (.ref b), some (.ref n), some .non] s1 := by
    unfold FB_mended_by
    simp [mSeq, mExp, mOwn, mCons, mNil, mV, Res.bind, Res.toS, e1', noX]
    simp [mSet, mOwn, mCons, mNil, mV, Res.bind, Res.toS, e2', noX]
  show runB 2 3 FB_mended_by [.ref b, .ref n] S = _
  unfold runB
  rw [if_pos (by rfl)]
  show (match FB_mended_by [some (.ref b), some (.ref n), none] S with
    | .nx _ S1 => Res.ok D.non S1
    | .rt d S1 => .ok d S1
    | .err c d _ S1 => .err c d S1
    | _ => .bad) = _
  rw [key]
  simp [mSeq, mIfS, mOp2, mC, mV, Res.bind, Res.toS, isD, mRaise, noX]
theorem due_dict (g : S.get n = some (.dt kvs)) : Ok (fun x s => x = .non ∧ s = S) (F__law_due [.ref b, .ref n] S) := by
  have i1 := isi_dict g (b := "list") (by simp)
  have a : pur F__law_are_steps [.ref n] S = .ok (.bl false) S := by
    rw [pur_raw (by rfl)]
    have : Ok (fun x s => x = .bl false ∧ s = S) (F__law_are_steps [.ref n] S) := by
      refine o_run rfl ?_
      show Wp _ _ (FB__law_are_steps [some (.ref n), none, none] S)
      rw [as_eq]
      simp [i1]
    obtain ⟨x, s, e, rfl, rfl⟩ := this.eq
    exact e
  refine o_run rfl ?_
  show Wp _ _ (FB__law_due [some (.ref b), some (.ref n), none] S)
  unfold FB__law_due
  simp [a]
theorem right_dict (hf : Few kvs) (g : S.get n = some (.dt kvs)) (gb : S.get b = some (.lst (wds bs))) (hb : ∀ w ∈ bs, fit w ∧ speltB w = true) (hbl : bs.length < line) : Ok (fun x s => x = .bl true ∧ Fr No S s) (F__law_steps_right [.ref b, .ref n] S) := by
  have hb1 : ∀ w ∈ bs, fit w := fun w hw => (hb w hw).1
  refine o_run rfl ?_
  show Wp _ _ (FB__law_steps_right [some (.ref b), some (.ref n), none, none, none, none, none, none] S)
  unfold FB__law_steps_right
  rw [Wp_seq, Wp_asg, o_tup]
  simp only [o_cons, o_own, o_v, o_call, o_mC, o_nil, List.getElem?_cons_zero, List.getElem?_cons_succ, noX_ref, true_and, List.append_nil]
  rw [pur_raw (by rfl)]
  refine (due_dict (b := b) g).mono fun due s1 ⟨hdue, hs1⟩ => ?_
  subst hdue hs1
  have l1 : listF [.ref b] s1 = .ok (.ref s1.n) (s1.new (.lst (wds bs))) := by
    unfold listF
    simp only [listOf_get gb]
  rw [l1]
  have g5 : (s1.new (.lst (wds bs))).get s1.n = some (.lst (wds bs)) := Hs.get_new _ _
  have g2 : (s1.new (.lst (wds bs))).get n = some (.dt kvs) := Hs.get_old g
  simp only [Ok_ok]
  refine ⟨show (4 : Nat) ≤ line by decide, ?_⟩
  simp only [bTup, List.length_cons, List.length_nil, List.zip_cons_cons, List.zip_nil_right, if_true, apD, List.foldl_cons, List.foldl_nil, List.set_cons_succ, List.set_cons_zero]
  rw [Wp_seq, Wp_set]
  simp only [o_own, o_cons, o_nil, o_v, List.getElem?_cons_zero, List.getElem?_cons_succ, noX_ref, true_and, List.append_nil]
  refine (same_dict hf g2).mono fun x s3 ⟨fr3, m, hx, hm, gm⟩ => ?_
  subst hx
  have f03 : Fr No s1 s3 := Fr.new.trans fr3
  have gb3 := f03.at_ _ _ id gb
  have gn3 := f03.at_ _ _ id g
  have g53 := fr3.at_ _ _ id g5
  obtain ⟨s4, fr4, hby⟩ := by_dict gm g53 hb hbl
  simp only [List.set_cons_succ, List.set_cons_zero]
  rw [Wp_seq]
  have gb4 := fr4.at_ _ _ id gb3
  have g54 := fr4.at_ _ _ id g53
  have gm4 := fr4.at_ _ _ id gm
  have gn4 := fr4.at_ _ _ id gn3
  have hneq : neD (.ref s1.n) (.ref b) s4 = .ok (.bl false) s4 := by
    have a := wds_dn g54 hb1 hbl
    have c := wds_dn gb4 hb1 hbl
    rw [a.ne c (by omega) (by omega), a.refl]
    rfl
  have eb : mSet 7 (mOwn (pur F_mended_by) [] (mCons (mV 5) (mCons (mV 2) mNil))) [some (.ref b), some (.ref n), some (.ref m), none, some .non, some (.ref s1.n), some .non, some .non] s3 = .err "InvalidMending" (.ref m) [some (.ref b), some (.ref n), some (.ref m), none, some .non, some (.ref s1.n), some .non, some .non] s4 := by
    have : pur F_mended_by [.ref s1.n, .ref m] s3 = .err "InvalidMending" (.ref m) s4 := by rw [pur_raw (by rfl)]; exact hby
    simp [mSet, mOwn, mCons, mNil, mV, Res.bind, Res.toS, noX, this]
  rw [try_err eb (by simp [kn]) (by decide +kernel)]
  simp only [Wp_nx, List.set_cons_succ, List.set_cons_zero]
  simp [hneq, isD, isnotD]
  refine (exact_dict hf gm4 gn4).mono fun y s5 ⟨hy, fr5⟩ => ?_
  subst hy
  simp [mVal, kn, show (2 : Nat) ≤ line by decide]
  rw [pur_raw (by rfl)]
  have gm5 := fr5.at_ _ _ id gm4
  have f5 : Fr No s1 (s5.new (.lst [.str "mending", .ref m])) := ((f03.trans fr4).trans fr5).trans Fr.new
  refine (is_dict hf (Hs.get_old gm5) (Hs.get_new _ _) ?_).mono fun y s6 ⟨hy, fr6⟩ => ⟨hy, f5.trans fr6⟩
  have := Hs.get_lt gm5
  omega
end
end K80

/-! QN: k80: the purse's draws. -/
namespace K80D
open PySem MR
open L2 (atI ixN)
open K80 (F__law_mixed FB__law_mixed F__law_draw FB__law_draw)
def ofS (r : SRes) : Res D := match r with
  | .nx _ S1 => .ok .non S1
  | .rt d S1 => .ok d S1
  | .err c d _ S1 => .err c d S1
  | _ => .bad
theorem seqE {m : Ex} {b : SM} {env : EnvD} {S S1 : Hs} {d : D} (h : m env S = .ok d S1) : mSeq (mExp m) b env S = b env S1 := by
  unfold mSeq mExp
  rw [h]
  rfl
theorem own1 {F : Fn} {m : Ex} {dD : List D} {env : EnvD} {S S1 : Hs} {d : D} (h : m env S = .ok d S1) : mOwn F dD (mCons m mNil) env S = F (d :: dD) S1 := by
  unfold mOwn mCons
  rw [h]
  rfl
theorem pur_val {F : Fn} {ds : List D} {d : D} {S S1 : Hs} (hf : frees ds = true) (e : F ds S0 = .ok d S1) (hd : free d = true) : pur F ds S = .ok d S := by
  unfold pur
  rw [if_pos hf, e]
  cases d <;> first | (simp only [hd]; rfl) | cases hd
theorem pur_raw {F : Fn} {ds : List D} {S : Hs} (hf : frees ds = false) : pur F ds S = F ds S := by
  unfold pur
  rw [hf]
  rfl
theorem lg {i : Int} {k : Nat} (h : i.natAbs < 2 ^ k) : i.natAbs.log2 ≤ k := by
  by_cases h0 : i.natAbs = 0
  · rw [h0]
    exact Nat.zero_le _
  · exact Nat.le_of_lt ((Nat.log2_lt h0).mpr h)
theorem mul_ok {i j : Int} {S : Hs} (h : i.natAbs < 2 ^ 250) (h' : j.natAbs < 2 ^ 250) : mulD (.int i) (.int j) S = .ok (.int (i * j)) S := by
  have a := lg h
  have b := lg h'
  show (if i.natAbs.log2 + j.natAbs.log2 < 1000000 then Res.ok (D.int (i * j)) S else .bad) = _
  rw [if_pos (by omega)]
theorem op2 {g : D → D → Hs → Res D} {ma mb : Ex} {env : EnvD} {S S1 S2 : Hs} {x y : D} (ha : ma env S = .ok x S1) (hb : mb env S1 = .ok y S2) : mOp2 g ma mb env S = g x y S2 := by
  unfold mOp2
  rw [ha]
  show (mb env S1).bind _ = _
  rw [hb]
  rfl
theorem seqSet {i : Nat} {m : Ex} {b : SM} {env : EnvD} {S S1 : Hs} {d : D} (h : m env S = .ok d S1) : mSeq (mSet i m) b env S = b (env.set i (some d)) S1 := by
  unfold mSeq mSet
  rw [h]
  rfl
theorem setE {i : Nat} {m : Ex} {env : EnvD} {S S1 : Hs} {d : D} (h : m env S = .ok d S1) : mSet i m env S = .nx (env.set i (some d)) S1 := by
  unfold mSet
  rw [h]
  rfl
theorem retE {m : Ex} {env : EnvD} {S S1 : Hs} {d : D} (h : m env S = .ok d S1) : mRet m env S = .rt d S1 := by
  unfold mRet
  rw [h]
  rfl
theorem seqN {a b : SM} {env env1 : EnvD} {S S1 : Hs} (h : a env S = .nx env1 S1) : mSeq a b env S = b env1 S1 := by
  unfold mSeq
  rw [h]
theorem ifE {m : Ex} {a b : SM} {env : EnvD} {S S1 : Hs} {k : Bool} (h : m env S = .ok (.bl k) S1) : mIfS m a b env S = if k then a env S1 else b env S1 := by
  unfold mIfS
  rw [h]
  rfl
theorem call1 {f : List D → Hs → Res D} {m : Ex} {env : EnvD} {S S1 : Hs} {d : D} (h : m env S = .ok d S1) : mCall f (mCons m mNil) env S = f [d] S1 := by
  unfold mCall mCons
  rw [h]
  rfl
theorem mixed_ok {b c d : Int} (hb : 0 ≤ b ∧ b < 2147483648) (hc : 0 ≤ c ∧ c < 1048576) (hd : 0 ≤ d ∧ d ≤ 64) : ∃ v : Int, 0 ≤ v ∧ v < 2147483587 ∧ ∀ S, pur F__law_mixed [.int b, .int c, .int d] S = .ok (.int v) S := by
  let x1 : Int := b * 69069 + 104729 * c * c
  let x2 : Int := (x1 + 7919 * d + c).fmod 2147483647
  let x3 : Int := (x2 * x2 + 40503).fmod 2147483629
  have h2 : 0 ≤ x2 ∧ x2 < 2147483647 := ⟨Int.fmod_nonneg_of_pos _ (by decide), Int.fmod_lt_of_pos _ (by decide)⟩
  have h3 : 0 ≤ x3 ∧ x3 < 2147483629 := ⟨Int.fmod_nonneg_of_pos _ (by decide), Int.fmod_lt_of_pos _ (by decide)⟩
  refine ⟨(x3 * 48271).fmod 2147483587, Int.fmod_nonneg_of_pos _ (by decide), Int.fmod_lt_of_pos _ (by decide), fun S => pur_val (S1 := S0) rfl ?_ rfl⟩
  show ofS (FB__law_mixed [some (.int b), some (.int c), some (.int d), none] S0) = _
  unfold FB__law_mixed
  have m1 : mulD (.int b) (.int 69069) S0 = .ok (.int (b * 69069)) S0 := mul_ok (by omega) (by decide)
  have m2 : mulD (.int 104729) (.int c) S0 = .ok (.int (104729 * c)) S0 := mul_ok (by decide) (by omega)
  have m3 : mulD (.int (104729 * c)) (.int c) S0 = .ok (.int (104729 * c * c)) S0 := mul_ok (by omega) (by omega)
  have m4 : mulD (.int 7919) (.int d) S0 = .ok (.int (7919 * d)) S0 := mul_ok (by decide) (by omega)
  have m5 : mulD (.int x2) (.int x2) S0 = .ok (.int (x2 * x2)) S0 := mul_ok (by omega) (by omega)
  have m6 : mulD (.int x3) (.int 48271) S0 = .ok (.int (x3 * 48271)) S0 := mul_ok (by omega) (by decide)
  rw [seqSet (d := .int x1) (S1 := S0), seqSet (d := .int x2) (S1 := S0), seqSet (d := .int x3) (S1 := S0), retE (d := .int ((x3 * 48271).fmod 2147483587)) (S1 := S0)]
  · rfl
  · rw [op2 (x := .int (x3 * 48271)) (y := .int 2147483587) (S1 := S0) (S2 := S0) _ rfl]
    · rfl
    · rw [call1 (d := .int (x3 * 48271)) (S1 := S0)]
      · rfl
      · rw [op2 (x := .int x3) (y := .int 48271) (S1 := S0) (S2 := S0) rfl rfl]
        exact m6
  · rw [op2 (x := .int (x2 * x2 + 40503)) (y := .int 2147483629) (S1 := S0) (S2 := S0) _ rfl]
    · rfl
    · rw [call1 (d := .int (x2 * x2 + 40503)) (S1 := S0)]
      · rfl
      · rw [op2 (x := .int (x2 * x2)) (y := .int 40503) (S1 := S0) (S2 := S0) _ rfl]
        · rfl
        · rw [op2 (x := .int x2) (y := .int x2) (S1 := S0) (S2 := S0) rfl rfl]
          exact m5
  · rw [op2 (x := .int (x1 + 7919 * d + c)) (y := .int 2147483647) (S1 := S0) (S2 := S0) _ rfl]
    · rfl
    · rw [call1 (d := .int (x1 + 7919 * d + c)) (S1 := S0)]
      · rfl
      · rw [op2 (x := .int (x1 + 7919 * d)) (y := .int c) (S1 := S0) (S2 := S0) _ rfl]
        · rfl
        · rw [op2 (x := .int x1) (y := .int (7919 * d)) (S1 := S0) (S2 := S0) rfl _]
          · rfl
          · rw [op2 (x := .int 7919) (y := .int d) (S1 := S0) (S2 := S0) rfl rfl]
            exact m4
  · rw [op2 (x := .int (b * 69069)) (y := .int (104729 * c * c)) (S1 := S0) (S2 := S0)]
    · rfl
    · rw [op2 (x := .int b) (y := .int 69069) (S1 := S0) (S2 := S0) rfl rfl]
      exact m1
    · rw [op2 (x := .int (104729 * c)) (y := .int c) (S1 := S0) (S2 := S0) _ rfl]
      · exact m3
      · rw [op2 (x := .int 104729) (y := .int c) (S1 := S0) (S2 := S0) rfl rfl]
        exact m2
theorem loop_inv {di : DI} {b : Bnd} {body : SM} {n : Nat} (I : Nat → EnvD → Hs → Prop) (step : ∀ i env S, i < n → I i env S → ∃ d us env' S', di.next i S = some (some d) ∧ b d = some us ∧ body (apD env us) S = .nx env' S' ∧ I (i + 1) env' S')
    (stop : ∀ env S, I n env S → di.next n S = some none) : ∀ (j i k : Nat) (env : EnvD) (S : Hs), i + j = n → j < k → I i env S → ∃ env' S', mLoop di b body k i env S = .nx env' S' ∧ I n env' S'
  | 0, i, k + 1, env, S, hij, hk, hI => by
    have e : i = n := by omega
    subst e
    refine ⟨env, S, ?_, hI⟩
    unfold mLoop
    rw [stop env S hI]
  | j + 1, i, k + 1, env, S, hij, hk, hI => by
    obtain ⟨d, us, env', S', h1, h2, h3, h4⟩ := step i env S (by omega) hI
    obtain ⟨env2, S2, h5, h6⟩ := loop_inv I step stop j (i + 1) k env' S' (by omega) (by omega) h4
    refine ⟨env2, S2, ?_, h6⟩
    unfold mLoop
    rw [h1]
    simp only [h2, h3]
    exact h5
theorem for_inv {mi : ExI} {b : Bnd} {body : SM} {env : EnvD} {S S1 : Hs} {di : DI} {n : Nat} (hi : mi env S = .ok di S1) (hn : n ≤ di.size S1) (I : Nat → EnvD → Hs → Prop) (h0 : I 0 env S1)
    (step : ∀ i env S, i < n → I i env S → ∃ d us env' S', di.next i S = some (some d) ∧ b d = some us ∧ body (apD env us) S = .nx env' S' ∧ I (i + 1) env' S') (stop : ∀ env S, I n env S → di.next n S = some none) :
    ∃ env' S', mFor mi b body env S = .nx env' S' ∧ I n env' S' := by
  unfold mFor
  rw [hi]
  exact loop_inv I step stop n 0 _ env S1 (by omega) (by omega) h0
structure Kp (p : Nat) (S S' : Hs) : Prop where
  at_ : ∀ n c, n ≠ p → S.get n = some c → S'.get n = some c
  n : S.n ≤ S'.n
theorem Kp.refl (p : Nat) (S : Hs) : Kp p S S := ⟨fun _ _ _ h => h, Nat.le_refl _⟩
theorem Kp.trans {p : Nat} {S S' S'' : Hs} (a : Kp p S S') (b : Kp p S' S'') : Kp p S S'' := ⟨fun n c h e => b.at_ n c h (a.at_ n c h e), Nat.le_trans a.n b.n⟩
theorem Kp.put {p : Nat} {S : Hs} {c0 c : Cell} (h : S.get p = some c0) : Kp p S (S.put p c) := ⟨fun n c' hn e => by rw [Hs.get_put_ne (Hs.get_lt h) hn]; exact e, Nat.le_refl _⟩
theorem Kp.new {p : Nat} {S : Hs} {c : Cell} : Kp p S (S.new c) := ⟨fun n c' hn e => Hs.get_old e, Nat.le_succ _⟩
structure Pu (S : Hs) (p : Nat) (c0 : Int) : Prop where
  ex : ∃ a b c d : Int, S.get p = some (.lst [.int a, .int b, .int c, .int d]) ∧ (0 ≤ b ∧ b < 2147483648) ∧ (0 ≤ c ∧ c ≤ c0) ∧ (0 ≤ d ∧ d ≤ 64)
theorem ixr {S : Hs} {p : Nat} {l : List D} {i : Int} {d : D} (h : S.get p = some (.lst l)) (e : atI l i = some d) : ixD (.ref p) (.int i) S = .ok d S := by
  show (match MR.listOf S p with
    | some xs => (match atI xs i with
      | some d => Res.ok d S
      | none => .bad : Res D)
    | none => .bad) = _
  unfold MR.listOf
  rw [h]
  simp only [e]
theorem putr {S : Hs} {p : Nat} {l : List D} {i : Int} {j : Nat} {v : D} (h : S.get p = some (.lst l)) (e : ixN l.length i = some j) : putD (.ref p) (.int i) v S = some (S.put p (.lst (l.set j v))) := by
  unfold putD
  simp only [h, e]
theorem putE {mo mi mv : Ex} {env : EnvD} {S S1 S2 S3 S4 : Hs} {o i v : D} (hv : mv env S = .ok v S1) (ho : mo env S1 = .ok o S2) (hi : mi env S2 = .ok i S3) (h : putD o i v S3 = some S4) : mPut mo mi mv env S = .nx env S4 := by
  unfold mPut
  rw [hv]
  show (mo env S1).toS _ _ = _
  rw [ho]
  show (mi env S2).toS _ _ = _
  rw [hi]
  show (match putD o i v S3 with
    | some S4 => SRes.nx env S4
    | none => .bad) = _
  rw [h]
theorem own3 {F : Fn} {m1 m2 m3 : Ex} {env : EnvD} {S S1 S2 S3 : Hs} {d1 d2 d3 : D} (h1 : m1 env S = .ok d1 S1) (h2 : m2 env S1 = .ok d2 S2) (h3 : m3 env S2 = .ok d3 S3) : mOwn F [] (mCons m1 (mCons m2 (mCons m3 mNil))) env S = F [d1, d2, d3] S3 := by
  unfold mOwn mCons
  rw [h1]
  show (Res.bind (Res.bind (m2 env S1) _) _).bind _ = _
  rw [h2]
  show (Res.bind (Res.bind (Res.bind (m3 env S2) _) _) _).bind _ = _
  rw [h3]
  rfl
theorem own2 {F : Fn} {m1 m2 : Ex} {env : EnvD} {S S1 S2 : Hs} {d1 d2 : D} (h1 : m1 env S = .ok d1 S1) (h2 : m2 env S1 = .ok d2 S2) : mOwn F [] (mCons m1 (mCons m2 mNil)) env S = F [d1, d2] S2 := by
  unfold mOwn mCons
  rw [h1]
  show (Res.bind (Res.bind (m2 env S1) _) _).bind _ = _
  rw [h2]
  rfl
def drawR : ExI := mRange1 (mCons (mOp2 addD (mC (.int 1)) (mOp2 fdivD (mBits (mV 1)) (mC (.int 28)))) (mNil))
def drawB : SM := mSeq (mPut (mV 0) (mC (.int 2)) (mOp2 addD (mOp2 ixD (mV 0) (mC (.int 2))) (mC (.int 1)))) (mSet 2 (mOp2 addD (mOp2 mulD (mV 2) (mC (.int 2147483587))) (mOwn (pur F__law_mixed) [] (mCons (mOp2 ixD (mV 0) (mC (.int 1))) (mCons (mOp2 ixD (mV 0) (mC (.int 2))) (mCons (mOp2 ixD (mV 0) (mC (.int 3))) (mNil)))))))
theorem draw_eq : FB__law_draw = mSeq (mIfS (mOp2 gtD (mOp2 ixD (mV 0) (mC (.int 0))) (mC (.int 0))) (mSeq (mSet 4 (mOp2 modD (mCall intF (mCons (mOp2 ixD (mV 0) (mC (.int 0))) (mNil))) (mV 1))) (mSeq (mPut (mV 0) (mC (.int 0)) (mOp2 fdivD (mOp2 ixD (mV 0) (mC (.int 0))) (mV 1))) (mRet (mV 4)))) (mNx)) (mSeq (mSet 2 (mC (.int 0))) (mSeq (mFor drawR (bName 3) drawB) (mRet (mOp2 modD (mCall intF (mCons (mV 2) (mNil))) (mV 1))))) := rfl
theorem drawB_ok {p : Nat} {m f : Int} {S : Hs} {o3 : Option D} {a b c d : Int} (hp : S.get p = some (.lst [.int a, .int b, .int c, .int d])) (hb : 0 ≤ b ∧ b < 2147483648) (hc : 0 ≤ c ∧ c < 1048575) (hd : 0 ≤ d ∧ d ≤ 64) (hf : 0 ≤ f ∧ f < 2 ^ 200) :
    ∃ f' : Int, (0 ≤ f' ∧ f' < (f + 1) * 2147483587) ∧ drawB [some (.ref p), some (.int m), some (.int f), o3, none] S = .nx [some (.ref p), some (.int m), some (.int f'), o3, none] (S.put p (.lst [.int a, .int b, .int (c + 1), .int d])) := by
  obtain ⟨v, v0, v1, hv⟩ := mixed_ok (b := b) (c := c + 1) (d := d) hb ⟨by omega, by omega⟩ hd
  refine ⟨f * 2147483587 + v, ⟨by omega, by omega⟩, ?_⟩
  unfold drawB
  have hp' := Hs.get_put hp (c' := .lst [.int a, .int b, .int (c + 1), .int d])
  rw [seqN (putE (v := .int (c + 1)) (o := .ref p) (i := .int 2) (S1 := S) (S2 := S) (S3 := S) (S4 := S.put p (.lst [.int a, .int b, .int (c + 1), .int d])) ?_ rfl rfl (putr (j := 2) (v := .int (c + 1)) hp rfl))]
  · rw [setE (d := .int (f * 2147483587 + v)) (S1 := S.put p (.lst [.int a, .int b, .int (c + 1), .int d]))]
    · rfl
    · rw [op2 (x := .int (f * 2147483587)) (y := .int v)]
      · rfl
      · rw [op2 (x := .int f) (y := .int 2147483587) rfl rfl]
        exact mul_ok (by omega) (by decide)
      · rw [own3 (d1 := .int b) (d2 := .int (c + 1)) (d3 := .int d)]
        · exact hv _
        · rw [op2 (x := .ref p) (y := .int 1) rfl rfl]
          exact ixr hp' rfl
        · rw [op2 (x := .ref p) (y := .int 2) rfl rfl]
          exact ixr hp' rfl
        · rw [op2 (x := .ref p) (y := .int 3) rfl rfl]
          exact ixr hp' rfl
  · rw [op2 (x := .int c) (y := .int 1) (S1 := S) (S2 := S) _ rfl]
    · rfl
    · rw [op2 (x := .ref p) (y := .int 2) rfl rfl]
      exact ixr hp rfl
theorem draw_ok {p n : Nat} {m : Int} {S : Hs} {c0 : Int} (hr : ∀ S, drawR [some (.ref p), some (.int m), some (.int 0), none, none] S = .ok (.rng 0 n) S) (hn : n ≤ 4) (hm : 0 < m) (hl : m.natAbs.log2 < 9000) (P : Pu S p c0) (hc0 : c0 < 1000000) :
    ∃ (r : Int) (S' : Hs), 0 ≤ r ∧ r < m ∧ F__law_draw [.ref p, .int m] S = .ok (.int r) S' ∧ Kp p S S' ∧ S'.n = S.n ∧ Pu S' p (c0 + 4) := by
  obtain ⟨a, b, c, d, hp, hb, hc, hd⟩ := P.ex
  have hF : ∀ r S', FB__law_draw [some (.ref p), some (.int m), none, none, none] S = .rt (.int r) S' → F__law_draw [.ref p, .int m] S = .ok (.int r) S' := fun r S' e => by
    show ofS (FB__law_draw [some (.ref p), some (.int m), none, none, none] S) = _
    rw [e]
    rfl
  have ix0 : (mOp2 ixD (mV 0) (mC (.int 0))) [some (.ref p), some (.int m), none, none, none] S = .ok (.int a) S := by
    rw [op2 (x := .ref p) (y := .int 0) rfl rfl]
    exact ixr hp rfl
  have hg : (mOp2 gtD (mOp2 ixD (mV 0) (mC (.int 0))) (mC (.int 0))) [some (.ref p), some (.int m), none, none, none] S = .ok (.bl (decide (0 < a))) S := by
    rw [op2 (x := .int a) (y := .int 0) ix0 rfl]
    rfl
  by_cases ha : 0 < a
  · refine ⟨a.fmod m, S.put p (.lst [.int (a / m), .int b, .int c, .int d]), Int.fmod_nonneg_of_pos _ hm, Int.fmod_lt_of_pos _ hm, hF _ _ ?_, Kp.put hp, rfl, ⟨_, b, c, d, Hs.get_put hp, hb, ⟨hc.1, by omega⟩, hd⟩⟩
    rw [draw_eq]
    unfold mSeq
    rw [ifE hg, decide_eq_true ha, if_pos rfl]
    have e1 : (mSeq (mSet 4 (mOp2 modD (mCall intF (mCons (mOp2 ixD (mV 0) (mC (.int 0))) (mNil))) (mV 1))) (mSeq (mPut (mV 0) (mC (.int 0)) (mOp2 fdivD (mOp2 ixD (mV 0) (mC (.int 0))) (mV 1))) (mRet (mV 4)))) [some (.ref p), some (.int m), none, none, none] S = .rt (.int (a.fmod m)) (S.put p (.lst [.int (a / m), .int b, .int c, .int d])) := by
      rw [seqSet (d := .int (a.fmod m)) (S1 := S)]
      · rw [seqN (putE (v := .int (a / m)) (o := .ref p) (i := .int 0) (S1 := S) (S2 := S) (S3 := S) (S4 := S.put p (.lst [.int (a / m), .int b, .int c, .int d])) ?_ rfl rfl (putr (j := 0) (v := .int (a / m)) hp rfl))]
        · rfl
        · rw [op2 (x := .int a) (y := .int m) (S1 := S) (S2 := S) _ rfl]
          · show (if (decide (0 < m) && decide (m.natAbs.log2 < 9000)) = true then Res.ok (D.int (a / m)) S else .bad) = _
            rw [decide_eq_true hm, decide_eq_true hl]
            rfl
          · rw [op2 (x := .ref p) (y := .int 0) rfl rfl]
            exact ixr hp rfl
      · rw [op2 (x := .int a) (y := .int m) (S1 := S) (S2 := S) _ rfl]
        · show (if decide (m ≠ 0) = true then Res.ok (D.int (a.fmod m)) S else .bad) = _
          rw [decide_eq_true (by omega)]
          rfl
        · rw [call1 ix0]
          rfl
    rw [show (mSeq (mSet 4 (mOp2 modD (mCall intF (mCons (mOp2 ixD (mV 0) (mC (.int 0))) (mNil))) (mV 1))) (mSeq (mPut (mV 0) (mC (.int 0)) (mOp2 fdivD (mOp2 ixD (mV 0) (mC (.int 0))) (mV 1))) (mRet (mV 4)))) = _ from rfl] at e1
    unfold mSeq at e1
    rw [e1]
  · let J : Nat → EnvD → Hs → Prop := fun i env S' => ∃ (f c' : Int) (o3 : Option D), env = [some (.ref p), some (.int m), some (.int f), o3, none] ∧ (0 ≤ f ∧ f < 2147483587 ^ i) ∧ (0 ≤ c' ∧ c' ≤ c0 + i) ∧ S'.get p = some (.lst [.int a, .int b, .int c', .int d]) ∧ Kp p S S' ∧ S'.n = S.n
    obtain ⟨env', S', h1, f, c', o3, rfl, hf, hc', hp', k', n'⟩ := for_inv (mi := drawR) (b := bName 3) (body := drawB) (env := [some (.ref p), some (.int m), some (.int 0), none, none]) (S := S) (S1 := S) (di := .rng 0 n) (n := n) (hr S) (Nat.le_refl _) J
      ⟨0, c, none, rfl, ⟨Int.le_refl _, by decide⟩, ⟨hc.1, by omega⟩, hp, Kp.refl _ _, rfl⟩ (fun i env S1 hi hJ => by
        obtain ⟨f, c', o3, rfl, hf, hc', hp', k', n'⟩ := hJ
        have hf2 : f < 2 ^ 200 := Int.lt_of_lt_of_le hf.2 (by
          have h4 : i ≤ 4 := by omega
          have : i = 0 ∨ i = 1 ∨ i = 2 ∨ i = 3 ∨ i = 4 := by omega
          rcases this with rfl | rfl | rfl | rfl | rfl <;> decide)
        obtain ⟨f', hf', e⟩ := drawB_ok (m := m) (o3 := some (.int (0 + i))) hp' hb ⟨hc'.1, by omega⟩ hd ⟨hf.1, hf2⟩
        refine ⟨.int (0 + i), [(3, .int (0 + i))], _, _, ?_, rfl, e, f', c' + 1, _, rfl, ⟨hf'.1, ?_⟩, ⟨by omega, by omega⟩, Hs.get_put hp', k'.trans (Kp.put hp'), n'⟩
        · show some (if i < n then some (D.int (0 + i)) else none) = _
          rw [if_pos hi]
        · have : (f + 1) * 2147483587 ≤ 2147483587 ^ i * 2147483587 := Int.mul_le_mul_of_nonneg_right (by omega) (by decide)
          rw [Int.pow_succ]
          omega) fun env S1 hJ => by
        show some (if n < n then some (D.int (0 + n)) else none) = _
        rw [if_neg (Nat.lt_irrefl _)]
    refine ⟨f.fmod m, S', Int.fmod_nonneg_of_pos _ hm, Int.fmod_lt_of_pos _ hm, hF _ _ ?_, k', n', ⟨a, b, c', d, hp', hb, ⟨hc'.1, by omega⟩, hd⟩⟩
    have ha' : decide (0 < a) = false := decide_eq_false ha
    rw [draw_eq]
    refine (seqN (env1 := [some (.ref p), some (.int m), none, none, none]) (S1 := S) ?_).trans ((seqSet (d := .int 0) (S1 := S) rfl).trans ((seqN (env1 := [some (.ref p), some (.int m), some (.int f), o3, none]) (S1 := S') h1).trans (retE (d := .int (f.fmod m)) (S1 := S') ?_)))
    · rw [ifE hg, ha', if_neg Bool.false_ne_true]
      rfl
    · rw [op2 (x := .int f) (y := .int m) (S1 := S') (S2 := S') rfl rfl]
      show (if decide (m ≠ 0) = true then Res.ok (D.int (f.fmod m)) S' else .bad) = _
      rw [decide_eq_true (by omega)]
      rfl
end K80D

/-! QO: k80: draws, words. -/
namespace K80
open PySem MR
open K80D (Pu)
/-- a comprehension over which something is kept -/
theorem lcJ_ok {di : DI} {b : Bnd} {me : Ex} {env : EnvD} {q : Nat → Prop} {S1 : Hs} {items : List D} {R : Nat → D → Hs → Prop} (J : Nat → Hs → Prop) (I : Itm q S1 di items) (hl : items.length ≤ line)
    (body : ∀ i d, items[i]? = some d → ∃ us, b d = some us ∧ ∀ s, Fr q S1 s → S1.n < s.n → J i s → Ok (fun y s' => Fr q s s' ∧ J (i + 1) s' ∧ R i y s') (me (apD env us) s)) (hq : ¬ q S1.n)
    (jput : ∀ i s c0 c, s.get S1.n = some c0 → J i s → J i (s.put S1.n c))
    (stab : ∀ i y s s', Fr (fun m => q m ∨ m = S1.n) s s' → R i y s → R i y s') :
    ∀ (j i k : Nat) (s : Hs) (ys : List D), i + j = items.length → j < k → Fr q S1 s → S1.n < s.n → J i s → s.get S1.n = some (.lst ys) → ys.length = i → (∀ m y, ys[m]? = some y → R m y s) →
      Ok (fun d s' => d = .ref S1.n ∧ Fr q S1 s' ∧ J items.length s' ∧ ∃ zs, s'.get S1.n = some (.lst zs) ∧ zs.length = items.length ∧ ∀ m y, zs[m]? = some y → R m y s') (mLcL di b mTrue me env S1.n k i s)
  | 0, i, k + 1, s, ys, hij, hk, fr, hn, hJ, hg, hy, hR => by
    have hi : i = items.length := by omega
    unfold mLcL
    rw [I.next i s fr, List.getElem?_eq_none (by omega)]
    exact ⟨rfl, fr, hi ▸ hJ, ys, hg, by omega, hR⟩
  | j + 1, i, k + 1, s, ys, hij, hk, fr, hn, hJ, hg, hy, hR => by
    have hi : i < items.length := by omega
    obtain ⟨us, hb, h⟩ := body i items[i] (List.getElem?_eq_getElem hi)
    obtain ⟨y, s', e, fr', hJ', r⟩ := (h s fr hn hJ).eq
    have g' : s'.get S1.n = some (.lst ys) := fr'.at_ _ _ hq hg
    unfold mLcL
    rw [I.next i s fr, List.getElem?_eq_getElem hi]
    simp only [hb]
    show Ok _ (match me (apD env us) s with
      | .ok y S4 => match S4.get S1.n with
        | some (.lst acc) => if acc.length < line then mLcL di b mTrue me env S1.n k (i + 1) (S4.put S1.n (.lst (acc ++ [y]))) else .bad
        | _ => .bad
      | _ => .bad)
    rw [e]
    simp only [g']
    rw [if_pos (by omega)]
    have fr2 : Fr (fun m => q m ∨ m = S1.n) s' (s'.put S1.n (.lst (ys ++ [y]))) := Fr.put g' (.inr rfl)
    refine lcJ_ok J I hl body hq jput stab j (i + 1) k _ (ys ++ [y]) (by omega) (by omega) ((fr.trans fr').put_new g' (Nat.le_refl _)) (Nat.lt_of_lt_of_le hn fr'.n) (jput _ _ _ _ g' hJ') (Hs.get_put g') (by simp [hy]) fun m z hm => ?_
    by_cases hm2 : m < ys.length
    · rw [List.getElem?_append_left hm2] at hm
      exact stab m z s' _ fr2 (stab m z s s' (fr'.mono fun _ z => .inl z) (hR m z hm))
    · rw [List.getElem?_append_right (by omega)] at hm
      have : m = i := by
        have hl2 := (List.getElem?_eq_some_iff.mp hm).1
        simp at hl2
        omega
      subst this
      rw [← hy] at hm
      simp at hm
      subst hm
      exact stab _ _ s' _ fr2 r
theorem o_lcJ {P : D → Hs → Prop} {mi : ExI} {b : Bnd} {me : Ex} {vs : List Nat} {env : EnvD} {S : Hs} (q : Nat → Prop) (items : List D) (J : Nat → Hs → Prop) (R : Hs → Nat → D → Hs → Prop)
    (h : Ok (fun di S1 => Itm q S1 di items ∧ items.length ≤ line ∧ ¬ q S1.n ∧ J 0 (S1.new (.lst [])) ∧ (∀ i s c0 c, s.get S1.n = some c0 → J i s → J i (s.put S1.n c)) ∧
      (∀ i d, items[i]? = some d → ∃ us, b d = some us ∧ ∀ s, Fr q S1 s → S1.n < s.n → J i s → Ok (fun y s' => Fr q s s' ∧ J (i + 1) s' ∧ R S1 i y s') (me (apD (wipeD env vs) us) s)) ∧
      (∀ i y s s', Fr (fun m => q m ∨ m = S1.n) s s' → R S1 i y s → R S1 i y s') ∧
      ∀ s' zs, Fr q S1 s' → S1.n < s'.n → J items.length s' → s'.get S1.n = some (.lst zs) → zs.length = items.length → (∀ m y, zs[m]? = some y → R S1 m y s') → P (.ref S1.n) s') (mi env S)) : Ok P (mLc mi b mTrue me vs env S) := by
  unfold mLc
  rw [Ok_bind]
  refine h.mono fun di S1 ⟨I, hl, hq, j0, jput, body, stab, fin⟩ => ?_
  have hz := I.size
  exact (lcJ_ok J I hl body hq jput stab items.length 0 _ (S1.new (.lst [])) [] (by omega) (by omega) Fr.new (Nat.lt_succ_self _) j0 (Hs.get_new _ _) rfl fun m y e => by simp at e).mono fun d s' ⟨e, fr, hJ, zs, g, l, r⟩ => by
    subst e
    exact fin s' zs fr (Hs.get_lt g) hJ g l r
section
variable {S S' s : Hs} {p n : Nat} {c0 : Int}
theorem _root_.K80D.Pu.lt (P : Pu S p c0) : p < S.n := by
  obtain ⟨a, b, c, d, g, _⟩ := P.ex
  exact Hs.get_lt g
theorem _root_.K80D.Pu.fr {q : Nat → Prop} (P : Pu S p c0) (f : Fr q S S') (h : ¬ q p) : Pu S' p c0 := by
  obtain ⟨a, b, c, d, g, r⟩ := P.ex
  exact ⟨a, b, c, d, f.at_ _ _ h g, r⟩
theorem _root_.K80D.Pu.le {c1 : Int} (P : Pu S p c0) (h : c0 ≤ c1) : Pu S p c1 := by
  obtain ⟨a, b, c, d, g, r1, r2, r3⟩ := P.ex
  exact ⟨a, b, c, d, g, r1, ⟨r2.1, by omega⟩, r3⟩
theorem _root_.K80D.Pu.put {c : Cell} {c1 : Cell} (P : Pu S p c0) (g : S.get n = some c1) (h : n ≠ p) : Pu (S.put n c) p c0 := K80D.Pu.fr P (Fr.put (q := (· = n)) g rfl) fun z => h z.symm
theorem bits_small {m : Nat} (h0 : 0 < m) (h : m < 2 ^ 27) : (Builtin.Int.intBits (m : Int) : Nat) < 28 := by
  unfold Builtin.Int.intBits
  have hne : ¬ ((m : Int) == 0) = true := by simp; omega
  rw [if_neg hne]
  have : (m : Int).natAbs = m := Int.natAbs_natCast m
  rw [this]
  have := (Nat.log2_lt (by omega)).mpr h
  omega
theorem drawR_small {m : Nat} (h0 : 0 < m) (h : m < 2 ^ 27) (S : Hs) : K80D.drawR [some (.ref p), some (.int (m : Int)), some (.int 0), none, none] S = .ok (.rng 0 1) S := by
  have hb := bits_small h0 h
  have e : fdivD (.int ((Builtin.Int.intBits (m : Int) : Nat) : Int)) (.int 28) S = .ok (.int 0) S := by
    show (if (decide ((0 : Int) < 28) && decide ((28 : Int).natAbs.log2 < 9000)) = true then Res.ok (D.int (((Builtin.Int.intBits (m : Int) : Nat) : Int) / 28)) S else .bad) = _
    rw [if_pos (by decide +kernel)]
    have : (((Builtin.Int.intBits (m : Int) : Nat) : Int) / 28) = 0 := by omega
    rw [this]
  have e2 : mOp2 addD (mC (.int 1)) (mOp2 fdivD (mBits (mV 1)) (mC (.int 28))) [some (.ref p), some (.int (m : Int)), some (.int 0), none, none] S = .ok (.int 1) S := by
    have e3 : mOp2 fdivD (mBits (mV 1)) (mC (.int 28)) [some (.ref p), some (.int (m : Int)), some (.int 0), none, none] S = .ok (.int 0) S := by
      rw [K80D.op2 (x := .int ((Builtin.Int.intBits (m : Int) : Nat) : Int)) (y := .int 28) (S1 := S) (S2 := S) rfl rfl, e]
    rw [K80D.op2 (x := .int 1) (y := .int 0) (S1 := S) (S2 := S) rfl e3]
    rfl
  unfold K80D.drawR mRange1 mCons
  rw [e2]
  rfl
/-- one draw -/
theorem draw_w {m : Nat} (P : Pu S p c0) (hc : c0 < 900000) (h0 : 0 < m) (h : m < 2 ^ 27) : Ok (fun x s => ∃ r : Nat, x = .int (r : Int) ∧ r < m ∧ Fr (· = p) S s ∧ s.n = S.n ∧ Pu s p (c0 + 4)) (pur F__law_draw [.ref p, .int (m : Int)] S) := by
  have hlog : (m : Int).natAbs.log2 < 9000 := by
    rw [Int.natAbs_natCast]
    have := (Nat.log2_lt (by omega)).mpr h
    omega
  obtain ⟨r, S', r0, r1, e, k', n', P'⟩ := K80D.draw_ok (m := (m : Int)) (n := 1) (fun S => drawR_small h0 h S) (by omega) (by omega) hlog P (by omega)
  obtain ⟨r', rfl⟩ := Int.eq_ofNat_of_zero_le r0
  rw [pur_raw (by rfl)]
  exact Ok.of e ⟨r', rfl, by omega, ⟨fun a c ha g => k'.at_ a c ha g, k'.n⟩, n', P'⟩
theorem one_ok {w : Nat} {xs : List D} (P : Pu S p c0) (hc : c0 < 900000) (g : S.get w = some (.lst xs)) (hw : w ≠ p) (h0 : 0 < xs.length) (h : xs.length < 2 ^ 27) :
    Ok (fun x s => ∃ r : Nat, xs[r]? = some x ∧ Fr (· = p) S s ∧ s.n = S.n ∧ Pu s p (c0 + 4)) (pur F__law_one_of [.ref p, .ref w] S) := by
  rw [pur_raw (by rfl)]
  refine o_run rfl ?_
  show Wp _ _ (FB__law_one_of [some (.ref p), some (.ref w)] S)
  unfold FB__law_one_of
  simp [len_lst g]
  refine (draw_w P hc h0 h).mono fun x s ⟨r, hx, hr, fr, hn, P'⟩ => ?_
  subst hx
  have g' := fr.at_ _ _ hw g
  rw [ix_lst g' (List.getElem?_eq_getElem hr)]
  exact ⟨⟨r, List.getElem?_eq_getElem hr⟩, fr, hn, P'⟩
theorem fit_spelt {w : Str} (h : speltB w = true) : fit w := by
  unfold speltB at h
  rw [Bool.and_eq_true, Bool.and_eq_true] at h
  obtain ⟨⟨h1, h2⟩, h3⟩ := h
  have h2 := of_decide_eq_true h2
  refine ⟨?_, by have : line = 16777216 := rfl; omega⟩
  unfold PyData.strOk
  rw [← Array.all_toList, List.all_eq_true]
  intro c hc
  have h4 := List.all_eq_true.mp h3 c hc
  unfold letB at h4
  have := of_decide_eq_true (Bool.and_eq_true_iff.mp h4).2
  exact decide_eq_true (by omega)
theorem join_sgn (cs : List Nat) : (Txt.join "" (cs.map fun c => (⟨#[c]⟩ : Str))).cps.toList = cs := by
  have go : ∀ (cs : List Nat) (acc : Array Nat), ((cs.map fun c => (⟨#[c]⟩ : Str)).foldl (fun acc p => acc ++ ("" : Str).cps ++ p.cps) acc).toList = acc.toList ++ cs := by
    intro cs
    induction cs with
    | nil => intro acc; simp
    | cons c cs ih =>
      intro acc
      have e : ("" : Str).cps = #[] := rfl
      rw [List.map_cons, List.foldl_cons, ih]
      simp [e]
  cases cs with
  | nil => rfl
  | cons c cs =>
    show (((cs.map fun c => (⟨#[c]⟩ : Str)).foldl (fun acc p => acc ++ ("" : Str).cps ++ p.cps) #[c])).toList = _
    rw [go]
    rfl
theorem abc_at {r : Nat} (h : r < 26) : ixD (.str "abcdefghijklmnopqrstuvwxyz") (.int (r : Int)) S = .ok (.str ⟨#[97 + r]⟩) S := by
  refine ix_str (by decide +kernel) ?_
  rw [letters, List.getElem?_range' h]
  simp
theorem let_at {r : Nat} (h : r < 26) : letB (97 + r) = true := by
  unfold letB
  rw [decide_eq_true (by omega), decide_eq_true (by omega)]
  rfl
theorem mapO_sgn : ∀ {zs : List D}, (∀ (m : Nat) (y : D), zs[m]? = some y → ∃ c : Nat, letB c = true ∧ y = D.str ⟨#[c]⟩) → ∃ cs : List Nat, mapO strOf zs = some (cs.map fun c => ⟨#[c]⟩) ∧ cs.all letB = true ∧ cs.length = zs.length
  | [], _ => ⟨[], rfl, rfl, rfl⟩
  | z :: zs, h => by
    obtain ⟨c, hc, e⟩ := h 0 z rfl
    subst e
    obtain ⟨cs, e1, e2, e3⟩ := mapO_sgn (zs := zs) fun (m : Nat) (y : D) hy => h (m + 1) y hy
    exact ⟨c :: cs, by unfold mapO; rw [e1] <;> rfl, by simp [hc, e2], by simp [e3]⟩
theorem word_ok (P : Pu S p c0) (hc : c0 < 800000) : Ok (fun x s => ∃ w, x = .str w ∧ speltB w = true ∧ Fr (· = p) S s ∧ Pu s p (c0 + 44)) (pur F__law_word [.ref p] S) := by
  rw [pur_raw (by rfl)]
  refine o_run rfl ?_
  show Wp _ _ (FB__law_word [some (.ref p), none, none] S)
  unfold FB__law_word
  simp
  refine (draw_w (m := 3) P (by omega) (by decide) (by decide)).mono fun x s1 ⟨r1, hx, hr1, fr1, hn1, P1⟩ => ?_
  subst hx
  simp [eq_int]
  have rest : ∀ m : Nat, 0 < m → m ≤ 8 → Ok (fun x s => ∃ r : Nat, x = .int (r : Int) ∧ r < m ∧ Fr (· = p) s1 s ∧ s.n = s1.n ∧ Pu s p (c0 + 4 + 4)) (pur F__law_draw [.ref p, .int (m : Int)] s1) := fun m h0 h8 => draw_w P1 (by omega) h0 (by omega)
  have go : ∀ (s2 : Hs) (r2 : Nat) (z : Int), z = 1 + (r2 : Int) → r2 < 8 → Fr (· = p) s1 s2 → Pu s2 p (c0 + 4 + 4) → Ok (fun x s => ∃ w, x = .str w ∧ speltB w = true ∧ Fr (· = p) S s ∧ Pu s p (c0 + 44)) (mMeth "str" joinG (mC (.str "")) (mCons (mLc (mRange1 (mCons (mV 1) mNil)) (bName 2) mTrue (mOp2 ixD (mC (.str "abcdefghijklmnopqrstuvwxyz")) (mOwn (pur F__law_draw) [] (mCons (mV 0) (mCons (mC (.int 26)) mNil)))) [2]) mNil) [some (.ref p), some (.int z), none] s2) := fun s2 r2 z hz0 h8 fr2 P2 => by
    simp
    refine ⟨rfl, ?_⟩
    refine o_lcJ (· = p) (rngL 0 (r2 + 1)) (fun i s => Pu s p (c0 + 4 + 4 + 4 * (i : Int))) (fun _ _ y _ => ∃ c : Nat, letB c = true ∧ y = D.str ⟨#[c]⟩) ?_
    have er : mRange1 (mCons (mV 1) mNil) [some (.ref p), some (.int z), none] s2 = .ok (.rng 0 (r2 + 1)) s2 := by
      have e1 : -(2 ^ 62) ≤ z ∧ z < 2 ^ 62 := ⟨by omega, by omega⟩
      have e2 : z.toNat = r2 + 1 := by omega
      show (if -(2 ^ 62) ≤ z ∧ z < 2 ^ 62 then Res.ok (DI.rng 0 z.toNat) s2 else .bad) = _
      rw [if_pos e1, e2]
    rw [er]
    have hp2 := P2.lt
    refine ⟨itm_rng, by rw [rngL_len]; have : line = 16777216 := rfl; omega, fun z => by omega, (P2.fr (Fr.new (q := No)) id).le (by omega), fun i s c1 c g hJ => K80D.Pu.put hJ g (by omega), fun i d hd => ⟨[(2, d)], rfl, fun s fr hl hJ => ?_⟩, fun _ _ _ _ _ z => z, fun s' zs fr hl hJ g2 l2 hz => ?_⟩
    · have hi : i < r2 + 1 := by
        have := (List.getElem?_eq_some_iff.mp hd).1
        rwa [rngL_len] at this
      simp
      refine (draw_w (m := 26) hJ (by omega) (by decide) (by decide)).mono fun x s3 ⟨r3, hx, hr3, fr3, hn3, P3⟩ => ?_
      subst hx
      rw [abc_at hr3]
      exact ⟨fr3, P3.le (by omega), _, let_at hr3, rfl⟩
    · obtain ⟨cs, e1, e2, e3⟩ := mapO_sgn hz
      have ecs : ∀ l : List Nat, ((l.map fun c => (⟨#[c]⟩ : Str)).map (·.length)).sum = l.length := fun l => by
        induction l with
        | nil => rfl
        | cons a l ih =>
          rw [List.map_cons, List.map_cons, List.sum_cons, ih, List.length_cons]
          show 1 + l.length = _
          omega
      have hcl : cs.length = r2 + 1 := by rw [e3, l2, rngL_len]
      have e4 : joinG (.str "") [.ref s2.n] s' = .ok (.str (Txt.join "" (cs.map fun c => ⟨#[c]⟩))) s' := by
        unfold joinG
        simp only [listOf_get g2, e1]
        rw [if_pos (by
          rw [ecs, hcl, List.length_map]
          show r2 + 1 + cs.length * 0 ≤ line
          have : line = 16777216 := rfl
          omega)]
      rw [e4]
      refine ⟨_, rfl, ?_, fr1.trans (fr2.trans fr), hJ.le (by rw [rngL_len]; omega)⟩
      have hj := join_sgn cs
      have hz2 : (Txt.join "" (cs.map fun c => (⟨#[c]⟩ : Str))).cps.size = r2 + 1 := by
        rw [← Array.length_toList, hj, hcl]
      unfold speltB
      rw [hj, hz2, decide_eq_true (by omega), decide_eq_true (by omega), e2]
      rfl
  by_cases h : r1 = 0
  · simp [h]
    refine (rest 8 (by omega) (by omega)).mono fun x s2 ⟨r2, hx, hr2, fr2, hn2, P2⟩ => ?_
    subst hx
    obtain ⟨z, hz⟩ : ∃ z : Int, z = 1 + (r2 : Int) := ⟨_, rfl⟩
    have a1 : ∀ s, addD (.int 1) (.int (r2 : Int)) s = .ok (.int z) s := fun s => by
      rw [hz]
      rfl
    rw [a1, Ok_ok]
    simpa using go s2 r2 z hz (by omega) fr2 P2
  · simp [h]
    refine (rest 3 (by omega) (by omega)).mono fun x s2 ⟨r2, hx, hr2, fr2, hn2, P2⟩ => ?_
    subst hx
    obtain ⟨z, hz⟩ : ∃ z : Int, z = 1 + (r2 : Int) := ⟨_, rfl⟩
    have a1 : ∀ s, addD (.int 1) (.int (r2 : Int)) s = .ok (.int z) s := fun s => by
      rw [hz]
      rfl
    rw [a1, Ok_ok]
    simpa using go s2 r2 z hz (by omega) fr2 P2
end
end K80

/-! QP: k80: the list of drawn words. -/
namespace K80
open PySem MR
open K80D (Pu)
section
variable {S S' s : Hs} {p n : Nat} {c0 : Int}
theorem len_str {w : Str} (h : w.cps.size ≤ line) : lenF [.str w] S = .ok (.int (w.cps.size : Nat)) S := by
  show (if w.cps.size ≤ line then Res.ok (D.int w.cps.size) S else .bad) = _
  rw [if_pos h]
theorem slice_str {w : Str} {lo hi : Option Int} (h : w.cps.size ≤ line) : sliceD (.str w) lo hi S = .ok (.str (L2.cutS w lo hi)) S := by
  show (if w.cps.size ≤ line then Res.ok (D.str (L2.cutS w lo hi)) S else .bad) = _
  rw [if_pos h]
theorem cuts_to (w : Str) (k : Nat) (hk : k ≤ w.cps.size) : (L2.cutS w none (some (k : Int))).cps.toList = w.cps.toList.take k := by
  unfold L2.cutS
  rw [HT.sIx_none, HT.sIx_nat]
  have hl : w.length = w.cps.size := rfl
  rw [hl, Nat.min_eq_left hk]
  simp
theorem cuts_from (w : Str) (k : Nat) (hk : k ≤ w.cps.size) : (L2.cutS w (some (k : Int)) none).cps.toList = w.cps.toList.drop k := by
  unfold L2.cutS
  rw [HT.sIx_none, HT.sIx_nat]
  have hl : w.length = w.cps.size := rfl
  rw [hl, Nat.min_eq_left hk, List.take_of_length_le (by simp)]
theorem spelt_at {w : Str} (h : speltB w = true) : 0 < w.cps.size ∧ w.cps.size < 9 ∧ ∀ c ∈ w.cps.toList, letB c = true := by
  unfold speltB at h
  rw [Bool.and_eq_true, Bool.and_eq_true] at h
  exact ⟨of_decide_eq_true h.1.1, of_decide_eq_true h.1.2, List.all_eq_true.mp h.2⟩
theorem spelt_of {w : Str} (h0 : 0 < w.cps.size) (h9 : w.cps.size < 9) (h : ∀ c ∈ w.cps.toList, letB c = true) : speltB w = true := by
  unfold speltB
  rw [decide_eq_true h0, decide_eq_true h9, List.all_eq_true.mpr h]
  rfl
/-- one sign of a word is another one -/
theorem bend_ok {w : Str} {k c : Nat} (h : speltB w = true) (hk : k < w.cps.size) (hc : letB c = true) : speltB (L2.cutS w none (some (k : Int)) ++ ⟨#[c]⟩ ++ L2.cutS w (some ((k + 1 : Nat) : Int)) none) = true ∧ (L2.cutS w none (some (k : Int))).length = k ∧ (L2.cutS w (some ((k + 1 : Nat) : Int)) none).length = w.cps.size - (k + 1) := by
  obtain ⟨h0, h9, hl⟩ := spelt_at h
  have a := cuts_to w k (by omega)
  have b := cuts_from w (k + 1) (by omega)
  have la : (L2.cutS w none (some (k : Int))).cps.size = k := by
    rw [← Array.length_toList, a, List.length_take, Array.length_toList]
    omega
  have lb : (L2.cutS w (some ((k + 1 : Nat) : Int)) none).cps.size = w.cps.size - (k + 1) := by
    rw [← Array.length_toList, b, List.length_drop, Array.length_toList]
  have e : (L2.cutS w none (some (k : Int)) ++ ⟨#[c]⟩ ++ L2.cutS w (some ((k + 1 : Nat) : Int)) none).cps = (L2.cutS w none (some (k : Int))).cps ++ #[c] ++ (L2.cutS w (some ((k + 1 : Nat) : Int)) none).cps := rfl
  refine ⟨spelt_of ?_ ?_ ?_, la, lb⟩
  · rw [e]
    simp
    omega
  · rw [e]
    simp only [Array.size_append, la, lb]
    show k + 1 + (w.cps.size - (k + 1)) < 9
    omega
  · rw [e]
    intro x hx
    simp only [Array.toList_append, List.mem_append, a, b] at hx
    rcases hx with (hx | hx) | hx
    · exact hl x (List.mem_of_mem_take hx)
    · simp at hx
      subst hx
      exact hc
    · exact hl x (List.mem_of_mem_drop hx)
theorem one_spelt {c : Nat} (h : letB c = true) : speltB ⟨#[c]⟩ = true := spelt_of (show (0 : Nat) < 1 by decide) (show (1 : Nat) < 9 by decide) fun x hx => by
  simp at hx
  subst hx
  exact h
theorem inB_wds {w : Str} {m : Nat} {ws : List Str} (g : S.get m = some (.lst (wds ws))) : inB (.str w) (.ref m) S = some ((wds ws).any fun y => eqFl y (.str w)) := by
  have hf : (wds ws).all flatD = true := by
    rw [List.all_eq_true]
    intro x hx
    obtain ⟨z, _, rfl⟩ := List.mem_map.mp hx
    rfl
  unfold inB
  simp only [listOf_get g, hf]
  rfl
/-- a letter, if it is not among the words -/
def freeG (ws : List Str) (d : D) : Option D := if (wds ws).any (fun y => eqFl y d) = true then none else some d
theorem any_mem {ws : List Str} {w : Str} (h : (wds ws).any (fun y => eqFl y (.str w)) = true) : w ∈ ws := by
  obtain ⟨x, hx, e⟩ := List.any_eq_true.mp h
  obtain ⟨z, hz, rfl⟩ := List.mem_map.mp hx
  have e' : (z == w) = true := e
  rw [beq_iff_eq] at e'
  exact e' ▸ hz
theorem four_in {ws : List Str} (hl : ws.length ≤ 3) {a b c d : Str} (ha : a ∈ ws) (hb : b ∈ ws) (hc : c ∈ ws) (hd : d ∈ ws) (ab : a ≠ b) (ac : a ≠ c) (ad : a ≠ d) (bc : b ≠ c) (bd : b ≠ d) (cd : c ≠ d) : False := by
  match ws, hl with
  | [], _ => cases ha
  | [x], _ =>
    simp at ha hb
    exact ab (ha.trans hb.symm)
  | [x, y], _ =>
    simp only [List.mem_cons, List.not_mem_nil, or_false] at ha hb hc
    rcases ha with rfl | rfl <;> rcases hb with rfl | rfl <;> rcases hc with rfl | rfl <;> contradiction
  | [x, y, z], _ =>
    simp only [List.mem_cons, List.not_mem_nil, or_false] at ha hb hc hd
    rcases ha with rfl | rfl | rfl <;> rcases hb with rfl | rfl | rfl <;> rcases hc with rfl | rfl | rfl <;> rcases hd with rfl | rfl | rfl <;> contradiction
abbrev abc : Str := "abcdefghijklmnopqrstuvwxyz"
theorem abc_mem {c : Nat} (h1 : 97 ≤ c) (h2 : c ≤ 122) : D.str ⟨#[c]⟩ ∈ sgnL abc := by
  unfold sgnL
  rw [letters]
  exact List.mem_map.mpr ⟨c, List.mem_range'_1.mpr ⟨by omega, by omega⟩, rfl⟩
theorem abc_let {d : D} (h : d ∈ sgnL abc) : ∃ c, letB c = true ∧ d = .str ⟨#[c]⟩ := by
  unfold sgnL at h
  rw [letters] at h
  obtain ⟨c, hc, rfl⟩ := List.mem_map.mp h
  have := List.mem_range'_1.mp hc
  exact ⟨c, by unfold letB; rw [decide_eq_true (by omega), decide_eq_true (by omega)]; rfl, rfl⟩
theorem free_one {ws : List Str} (hl : ws.length ≤ 3) : ∃ c rest, (sgnL abc).filterMap (freeG ws) = .str ⟨#[c]⟩ :: rest ∧ letB c = true := by
  cases e : (sgnL abc).filterMap (freeG ws) with
  | nil =>
    have all : ∀ c, 97 ≤ c → c ≤ 122 → (⟨#[c]⟩ : Str) ∈ ws := fun c h1 h2 => by
      have hn : freeG ws (.str ⟨#[c]⟩) = none := by
        cases e2 : freeG ws (.str ⟨#[c]⟩) with
        | none => rfl
        | some d =>
          have : d ∈ (sgnL abc).filterMap (freeG ws) := List.mem_filterMap.mpr ⟨_, abc_mem h1 h2, e2⟩
          rw [e] at this
          cases this
      unfold freeG at hn
      split at hn
      · rename_i h
        exact any_mem h
      · cases hn
    exact (four_in hl (all 97 (by omega) (by omega)) (all 98 (by omega) (by omega)) (all 99 (by omega) (by omega)) (all 100 (by omega) (by omega)) (by decide) (by decide) (by decide) (by decide) (by decide) (by decide)).elim
  | cons x rest =>
    have : x ∈ (sgnL abc).filterMap (freeG ws) := by
      rw [e]
      exact List.mem_cons_self
    obtain ⟨d, hd, h⟩ := List.mem_filterMap.mp this
    unfold freeG at h
    split at h
    · cases h
    · cases h
      obtain ⟨c, hc, rfl⟩ := abc_let hd
      exact ⟨c, rest, rfl, hc⟩
/-- where the making of words stands -/
def WdI (S : Hs) (p : Nat) (z : Int) (fd : Nat) (base : Str) (near : Bool) (spot : Nat) (c0 : Int) (i : Nat) (e : EnvD) (s : Hs) : Prop := ∃ (ws : List Str) (o2 o7 : Option D), e = [some (.ref p), some (.int z), o2, some (.str base), some (.bl near), some (.int (spot : Int)), some (.ref fd), o7, none] ∧ s.get fd = some (.lst (wds ws)) ∧ ws.length = i ∧ (∀ w ∈ ws, speltB w = true) ∧ Fr (· = p) S s ∧ Pu s p (c0 + 60 * (i : Int))
def wdEnd : SM := mSeq (mIfS (mOp2 inD (mV 7) (mV 6)) (mSet 7 (mOp2 ixD (mLc (mIter (mCall listSF (mCons (mC (.str "abcdefghijklmnopqrstuvwxyz")) (mNil)))) (bName 8) (mOp2 notinD (mV 8) (mV 6)) (mV 8) [8]) (mC (.int 0)))) (mNx)) (mExp (mMeth "list" appendG (mV 6) (mCons (mV 7) (mNil))))
def wdRest : SM := mSeq (mIfS (mNot (mV 4)) (mSet 7 (mOwn (pur F__law_word) [] (mCons (mV 0) (mNil)))) (mNx)) wdEnd
def wdBody : SM := mSeq (mSet 7 (mOp2 addD (mOp2 addD (mSlice (mV 3) mNoPart (mPart (mV 5))) (mOp2 ixD (mC (.str "abcdefghijklmnopqrstuvwxyz")) (mOwn (pur F__law_draw) [] (mCons (mV 0) (mCons (mC (.int 26)) (mNil)))))) (mSlice (mV 3) (mPart (mOp2 addD (mV 5) (mC (.int 1)))) mNoPart))) wdRest
theorem wd_eq : FB__law_words = mSeq (mPar 3 4 (mCons (mOwn (pur F__law_word) [] (mCons (mV 0) (mNil))) (mCons (mOp2 eqD (mOwn (pur F__law_draw) [] (mCons (mV 0) (mCons (mC (.int 3)) (mNil)))) (mC (.int 0))) (mNil)))) (mSeq (mAsg (bTup [5, 6]) (mTup (mCons (mOwn (pur F__law_draw) [] (mCons (mV 0) (mCons (mCall lenF (mCons (mV 3) (mNil))) (mNil)))) (mCons (mLst (mNil)) (mNil))))) (mSeq (mFor (mRange1 (mCons (mV 1) (mNil))) (bName 2) wdBody) (mRet (mV 6)))) := rfl
/-- the last half of a turn -/
theorem wd_end {z : Int} {fd i spot : Nat} {base w : Str} {near : Bool} {ws : List Str} {o2 : Option D} (hw : speltB w = true) (g : s.get fd = some (.lst (wds ws))) (hl : ws.length = i) (hi : i ≤ 3) (hs : ∀ w ∈ ws, speltB w = true) (fr : Fr (· = p) S s) (hfd : fd ≠ p) (hn : S.n ≤ fd) (P : Pu s p (c0 + 60 * ((i + 1 : Nat) : Int))) :
    Wp (WdI S p z fd base near spot c0 (i + 1)) (fun _ _ => False) (wdEnd [some (.ref p), some (.int z), o2, some (.str base), some (.bl near), some (.int (spot : Int)), some (.ref fd), some (.str w), none] s) := by
  have ln : line = 16777216 := rfl
  have hi2 : inD (.str w) (.ref fd) s = .ok (.bl ((wds ws).any fun y => eqFl y (.str w))) s := by
    unfold inD
    rw [inB_wds g]
  have fin : ∀ (s' : Hs) (w' : Str), Fr No s s' → speltB w' = true → Wp (WdI S p z fd base near spot c0 (i + 1)) (fun _ _ => False) (mExp (mMeth "list" appendG (mV 6) (mCons (mV 7) (mNil))) [some (.ref p), some (.int z), o2, some (.str base), some (.bl near), some (.int (spot : Int)), some (.ref fd), some (.str w'), none] s') := fun s' w' f hw' => by
    have g' := f.at_ _ _ id g
    simp [tyD_lst g', app_lst g' (show (wds ws).length < line by simp [wds]; omega)]
    refine ⟨ws ++ [w'], o2, _, rfl, ?_, by simp [hl], fun v hv => ?_, (fr.trans f.any).put_new g' hn, K80D.Pu.put (P.fr f id) g' hfd⟩
    · rw [Hs.get_put g']
      simp [wds]
    · rcases List.mem_append.mp hv with hv | hv
      · exact hs v hv
      · cases List.mem_singleton.mp hv
        exact hw'
  unfold wdEnd
  rw [Wp_seq, Wp_if]
  cases hb : (wds ws).any fun y => eqFl y (.str w) with
  | false =>
    rw [hb] at hi2
    simpa [hi2] using fin s w Fr.refl hw
  | true =>
    rw [hb] at hi2
    simp [hi2]
    refine o_lcf (sgnL abc) (freeG ws) ?_
    have e1 : mIter (mCall listSF (mCons (mC (.str "abcdefghijklmnopqrstuvwxyz")) (mNil))) [some (.ref p), some (.int z), o2, some (.str base), some (.bl near), some (.int (spot : Int)), some (.ref fd), some (.str w), none] s = .ok (.lst s.n) (s.new (.lst (sgnL abc))) := by
      unfold mIter
      have e2 : mCall listSF (mCons (mC (.str "abcdefghijklmnopqrstuvwxyz")) (mNil)) [some (.ref p), some (.int z), o2, some (.str base), some (.bl near), some (.int (spot : Int)), some (.ref fd), some (.str w), none] s = .ok (.ref s.n) (s.new (.lst (sgnL abc))) := by
        show listSF [.str abc] s = _
        unfold listSF
        simp only []
        rw [if_pos (by decide +kernel)]
        rfl
      rw [e2]
      show (match MR.listOf (s.new (.lst (sgnL abc))) s.n with
        | some _ => Res.ok (DI.lst s.n) (s.new (.lst (sgnL abc)))
        | none => .bad) = _
      rw [listOf_get (Hs.get_new _ _)]
    rw [e1]
    refine ⟨itm_lst (Hs.get_new _ _) id, by decide +kernel, fun d hd => ⟨[(8, d)], rfl, fun s2 f2 => ?_⟩, fun s2 f2 g2 => ?_⟩
    · obtain ⟨c, hc, rfl⟩ := abc_let hd
      have g3 := f2.at_ _ _ id (Hs.get_old (c' := .lst (sgnL abc)) g)
      have e3 : notinD (.str ⟨#[c]⟩) (.ref fd) s2 = .ok (.bl (!((wds ws).any fun y => eqFl y (.str ⟨#[c]⟩)))) s2 := by
        unfold notinD
        rw [inB_wds g3]
      refine ⟨?_, fun y hy => ?_⟩
      · show mOp2 notinD (mV 8) (mV 6) [some (.ref p), some (.int z), o2, some (.str base), some (.bl near), some (.int (spot : Int)), some (.ref fd), some (.str w), some (.str ⟨#[c]⟩)] s2 = _
        rw [K80D.op2 (x := .str ⟨#[c]⟩) (y := .ref fd) (S1 := s2) (S2 := s2) rfl rfl, e3]
        unfold freeG
        cases (wds ws).any fun y => eqFl y (.str ⟨#[c]⟩) <;> rfl
      · unfold freeG at hy
        split at hy
        · cases hy
        · cases hy
          rfl
    · obtain ⟨c, rest, e4, hc⟩ := free_one (ws := ws) (by omega)
      rw [e4] at g2
      have f3 : Fr No s s2 := Fr.trans Fr.new f2
      have e5 : ixD (.ref (s.new (.lst (sgnL abc))).n) (.int 0) s2 = .ok (.str ⟨#[c]⟩) s2 := ix_lst (i := 0) g2 rfl
      rw [e5]
      simpa using fin s2 ⟨#[c]⟩ f3 (one_spelt hc)
theorem words_ok {m : Nat} {z : Int} (hz : z = (m : Int)) (P : Pu S p c0) (hc : c0 < 700000) (h1 : 1 ≤ m) (h4 : m ≤ 4) : Ok (fun x s => ∃ w ws, x = .ref w ∧ s.get w = some (.lst (wds ws)) ∧ S.n ≤ w ∧ ws.length = m ∧ (∀ v ∈ ws, speltB v = true) ∧ Fr (· = p) S s ∧ Pu s p (c0 + 300)) (pur F__law_words [.ref p, .int z] S) := by
  rw [pur_raw (by rfl)]
  refine o_run rfl ?_
  show Wp _ _ (FB__law_words [some (.ref p), some (.int z), none, none, none, none, none, none, none] S)
  rw [wd_eq]
  simp
  refine (word_ok P (by omega)).mono fun x s1 ⟨base, hx, hb, fr1, P1⟩ => ?_
  subst hx
  refine (draw_w (m := 3) P1 (by omega) (by decide) (by decide)).mono fun x s2 ⟨r2, hx, hr2, fr2, hn2, P2⟩ => ?_
  subst hx
  obtain ⟨hb0, hb9, hbl⟩ := spelt_at hb
  have hfit := fit_spelt hb
  simp [eq_int, len_str hfit.2]
  refine (draw_w (m := base.cps.size) P2 (by omega) hb0 (by omega)).mono fun x s3 ⟨spot, hx, hr3, fr3, hn3, P3⟩ => ?_
  subst hx
  simp [bTup, apD, show (2 : Nat) ≤ line by decide]
  have hS3 : S.n ≤ s3.n := (fr1.trans (fr2.trans fr3)).n
  have hp3 := P3.lt
  refine w_for (rngL 0 m) (fun _ => WdI S p z s3.n base (decide (r2 = 0)) spot (c0 + 44 + 4 + 4)) ?_
  have er : mRange1 (mCons (mV 1) mNil) [some (.ref p), some (.int z), none, some (.str base), some (.bl (decide (r2 = 0))), some (.int (spot : Int)), some (.ref s3.n), none, none] (s3.new (.lst [])) = .ok (.rng 0 m) (s3.new (.lst [])) := by
    show (if -(2 ^ 62) ≤ z ∧ z < 2 ^ 62 then Res.ok (DI.rng 0 z.toNat) (s3.new (.lst [])) else .bad) = _
    rw [if_pos ⟨by omega, by omega⟩, hz, Int.toNat_natCast]
  rw [er]
  refine ⟨(itm_rng (q := No)).size, ⟨[], none, none, rfl, Hs.get_new _ _, rfl, fun w hw => (by cases hw), (fr1.trans (fr2.trans fr3)).trans Fr.new, (P3.fr (Fr.new (q := No)) id).le (by omega)⟩, fun i e s d I hd => ?_, fun e s I => ?_⟩
  · have hi : i < m := by
      have := (List.getElem?_eq_some_iff.mp hd).1
      rwa [rngL_len] at this
    refine ⟨((itm_rng (q := No) (S := s)).next i s Fr.refl).trans (congrArg some hd), [(2, d)], rfl, ?_⟩
    obtain ⟨ws, o2, o7, rfl, g, hl, hs, fr, PI⟩ := I
    unfold wdBody
    rw [Wp_seq, Wp_set]
    simp [slice_str hfit.2]
    refine (draw_w (m := 26) PI (by omega) (by decide) (by decide)).mono fun x s4 ⟨r4, hx, hr4, fr4, hn4, P4⟩ => ?_
    subst hx
    rw [abc_at hr4]
    have hlet := let_at hr4
    obtain ⟨hw, l1, l2⟩ := bend_ok hb hr3 hlet
    have hln : line = 16777216 := rfl
    have a1 : ∀ s, addD (.str (L2.cutS base none (some (spot : Int)))) (.str ⟨#[97 + r4]⟩) s = .ok (.str (L2.cutS base none (some (spot : Int)) ++ ⟨#[97 + r4]⟩)) s := fun s => by
      show (if (L2.cutS base none (some (spot : Int))).length + 1 ≤ line then Res.ok (D.str (L2.cutS base none (some (spot : Int)) ++ ⟨#[97 + r4]⟩)) s else .bad) = _
      rw [if_pos (by rw [l1]; omega)]
    have a2 : ∀ s, addD (.int (spot : Int)) (.int 1) s = .ok (.int ((spot + 1 : Nat) : Int)) s := fun s => rfl
    have a3 : ∀ s, addD (.str (L2.cutS base none (some (spot : Int)) ++ ⟨#[97 + r4]⟩)) (.str (L2.cutS base (some ((spot + 1 : Nat) : Int)) none)) s = .ok (.str (L2.cutS base none (some (spot : Int)) ++ ⟨#[97 + r4]⟩ ++ L2.cutS base (some ((spot + 1 : Nat) : Int)) none)) s := fun s => by
      have l3 : (L2.cutS base none (some (spot : Int)) ++ ⟨#[97 + r4]⟩ : Str).length = (L2.cutS base none (some (spot : Int))).length + 1 := by
        show ((L2.cutS base none (some (spot : Int))).cps ++ #[97 + r4]).size = _
        rw [Array.size_append]
        rfl
      show (if (L2.cutS base none (some (spot : Int)) ++ ⟨#[97 + r4]⟩ : Str).length + (L2.cutS base (some ((spot + 1 : Nat) : Int)) none).length ≤ line then Res.ok (D.str _) s else .bad) = _
      rw [if_pos (by rw [l3, l1, l2]; omega)]
    simp only [Ok_ok, a1, a2, In_int, slice_str hfit.2, a3]
    have g4 := fr4.at_ _ _ (show ¬ s3.n = p by omega) g
    unfold wdRest
    rw [Wp_seq, Wp_if]
    simp only [o_not, o_v, List.getElem?_cons_zero, List.getElem?_cons_succ, noX_bl, true_and, Bl_bl, List.set_cons_succ, List.set_cons_zero]
    cases hnear : decide (r2 = 0) with
    | true =>
      simp only [Bool.not_true, Bool.false_eq_true, if_false, Wp_mNx]
      exact (wd_end hw g4 hl (by omega) hs (fr.trans fr4) (by omega) hS3 (P4.le (by omega))).mono (fun _ _ z => z) fun _ _ z => z.elim
    | false =>
      simp only [Bool.not_false, if_true, Wp_set, o_own, o_cons, o_nil, o_v, List.getElem?_cons_zero, noX_ref, true_and, List.append_nil]
      refine (word_ok P4 (by omega)).mono fun x s5 ⟨w5, hx, hw5, fr5, P5⟩ => ?_
      subst hx
      simp only [List.set_cons_succ, List.set_cons_zero]
      exact (wd_end hw5 (fr5.at_ _ _ (show ¬ s3.n = p by omega) g4) hl (by omega) hs ((fr.trans fr4).trans fr5) (by omega) hS3 (P5.le (by omega))).mono (fun _ _ z => z) fun _ _ z => z.elim
  · obtain ⟨ws, o2, o7, rfl, g, hl, hs, fr, PI⟩ := I
    refine ⟨((itm_rng (q := No) (S := s)).next _ s Fr.refl).trans (by rw [List.getElem?_eq_none (Nat.le_refl _)]), ?_⟩
    rw [rngL_len] at hl PI
    simp
    exact ⟨ws, g, hS3, hl, hs, fr, PI.le (by omega)⟩
end
end K80

/-! QR: k80: the drawn steps. -/
namespace K80
open PySem MR
open K80D (Pu)
theorem w_forE {P : EnvD → Hs → Prop} {Q : D → Hs → Prop} {mi : ExI} {b : Bnd} {body : SM} {env : EnvD} {S : Hs}
    (h : Ok (fun di S1 => ∃ (items : List D) (I : Nat → EnvD → Hs → Prop), items.length ≤ di.size S1 ∧ I 0 env S1 ∧ (∀ i e s d, I i e s → items[i]? = some d → di.next i s = some (some d) ∧ ∃ us, b d = some us ∧ Wp (I (i + 1)) Q (body (apD e us) s)) ∧
      ∀ e s, I items.length e s → di.next items.length s = some none ∧ P e s) (mi env S)) : Wp P Q (mFor mi b body env S) := by
  unfold mFor
  rw [Wp_toS]
  exact h.mono fun di S1 ⟨items, I, hz, h0, step, stop⟩ => loop_ok I step stop items.length 0 _ env S1 (by omega) (by omega) h0
section
variable {S S' s : Hs} {p n w b st : Nat} {c0 : Int} {ws bs : List Str} {e : EnvD}
/-- an int within a machine's walk -/
def Rg (f : Nat → Prop) (ds : List D) : Prop := match ds with
  | [.int j] => 0 ≤ j ∧ j < 1000000 ∧ f j.toNat
  | _ => False
theorem o_range1 {P : DI → Hs → Prop} {ms : Exs} {env : EnvD} (h : Ok (fun ds s => Rg (fun n => P (.rng 0 n) s) ds) (ms env S)) : Ok P (mRange1 ms env S) := by
  obtain ⟨ds, s, e, h⟩ := h.eq
  unfold mRange1
  rw [e]
  match ds, h with
  | [.int j], ⟨h0, h1, h2⟩ =>
    show Ok P (if -(2 ^ 62) ≤ j ∧ j < 2 ^ 62 then Res.ok (DI.rng 0 j.toNat) s else .bad)
    rw [if_pos ⟨by omega, by omega⟩]
    exact h2
theorem one_wd (P : Pu S p c0) (hc : c0 < 900000) (g : S.get w = some (.lst (wds ws))) (hw : w ≠ p) (h0 : 0 < ws.length) (h : ws.length < 1000) (hs : ∀ v ∈ ws, speltB v = true) :
    Ok (fun x s => ∃ v, x = .str v ∧ speltB v = true ∧ Fr (· = p) S s ∧ s.n = S.n ∧ Pu s p (c0 + 4)) (pur F__law_one_of [.ref p, .ref w] S) := by
  refine (one_ok P hc g hw (by simpa [wds] using h0) (by simp [wds]; omega)).mono fun x s ⟨r, hx, fr, hn, P'⟩ => ?_
  unfold wds at hx
  rw [List.getElem?_map] at hx
  obtain ⟨v, hv, rfl⟩ := Option.map_eq_some_iff.mp hx
  exact ⟨v, rfl, hs v (List.mem_of_getElem? hv), fr, hn, P'⟩
def emp : List Str := [""]
/-- a growing list of steps -/
structure StO (S : Hs) (p w st : Nat) (ws : List Str) (n : Nat) (c : Int) (s : Hs) : Prop where
  ss : ∃ ss : List Stp, s.get st = some (.lst (ss.map enc)) ∧ (∀ x ∈ ss, fitS x) ∧ ss.length ≤ n
  fr : Fr (fun m => m = p ∨ m = st) S s
  pu : Pu s p c
  gw : s.get w = some (.lst (wds ws))
theorem StO.draw {n : Nat} {c : Int} (h : StO S p w st ws n c s) (hn : st ≠ p) (hw : w ≠ p) (f : Fr (· = p) s S') (P : Pu S' p (c + 4)) : StO S p w st ws n (c + 4) S' := by
  obtain ⟨⟨ss, g, h1, h2⟩, h3, h4, h5⟩ := h
  exact ⟨⟨ss, f.at_ _ _ hn g, h1, h2⟩, h3.trans (f.mono fun _ z => .inl z), P, f.at_ _ _ hw h5⟩
theorem StO.app {n : Nat} {c : Int} {x : Stp} {Q : D → Hs → Prop} (h : StO S p w st ws n c s) (hn : st ≠ p) (hw : w ≠ st) (hx : fitS x) (hl : n < 100000) (k : ∀ s', StO S p w st ws (n + 1) c s' → Q .non s') : tyD "list" (.ref st) s = true ∧ Ok Q (appendG (.ref st) [enc x] s) := by
  obtain ⟨⟨ss, g, h1, h2⟩, h3, h4, h5⟩ := h
  have ln : line = 16777216 := rfl
  refine ⟨tyD_lst g, ?_⟩
  rw [app_lst g (by simp; omega)]
  refine k _ ⟨⟨ss ++ [x], ?_, fun y hy => ?_, by simp; omega⟩, h3.trans (Fr.put g (.inr rfl)), K80D.Pu.put h4 g hn, ?_⟩
  · rw [Hs.get_put g]
    simp
  · rcases List.mem_append.mp hy with hy | hy
    · exact h1 y hy
    · cases List.mem_singleton.mp hy
      exact hx
  · rw [Hs.get_put_ne (Hs.get_lt g) hw]
    exact h5
theorem StO.more {n m : Nat} {c c' : Int} (h : StO S p w st ws n c s) (hn : n ≤ m) (hc : c ≤ c') : StO S p w st ws m c' s := by
  obtain ⟨⟨ss, g, h1, h2⟩, h3, h4, h5⟩ := h
  exact ⟨⟨ss, g, h1, by omega⟩, h3, h4.le hc, h5⟩
def dsIn : SM := mExp (mMeth "list" appendG (mV 3) (mCons (mTup (mCons (mC (.str "put")) (mCons (mOwn (pur F__law_one_of) [] (mCons (mV 0) (mCons (mV 1) (mNil)))) (mNil)))) (mNil)))
def dsEnd : SM := mIfS (mOp2 neD (mV 4) (mC (.str ""))) (mExp (mMeth "list" appendG (mV 3) (mCons (mIf (mOp2 eqD (mV 6) (mC (.int 0))) (mTup (mCons (mC (.str "leave")) (mNil))) (mIf (mOp2 eqD (mV 6) (mC (.int 1))) (mTup (mCons (mC (.str "exchange")) (mCons (mOwn (pur F__law_one_of) [] (mCons (mV 0) (mCons (mV 1) (mNil)))) (mNil)))) (mTup (mCons (mC (.str "keep")) (mNil))))) (mNil)))) (mNx)
def dsRest : SM := mSeq (mSet 6 (mOwn (pur F__law_draw) [] (mCons (mV 0) (mCons (mC (.int 4)) (mNil))))) dsEnd
def dsBody : SM := mSeq (mFor (mRange1 (mCons (mOp2 mulD (mOwn (pur F__law_draw) [] (mCons (mV 0) (mCons (mC (.int 3)) (mNil)))) (mOwn (pur F__law_draw) [] (mCons (mV 0) (mCons (mC (.int 2)) (mNil))))) (mNil))) (bName 5) dsIn) dsRest
theorem ds_eq : FB__law_drawn_steps = mSeq (mSet 3 (mLst (mNil))) (mSeq (mFor (mIter (mOp2 addD (mV 2) (mLst (mCons (mC (.str "")) (mNil))))) (bName 4) dsBody) (mRet (mV 3))) := rfl
theorem ds_in {n : Nat} {c : Int} {o4 o5 o6 : Option D} (h : StO S p w st ws n c s) (hn : st ≠ p) (hw : w ≠ p) (hws : w ≠ st) (h0 : 0 < ws.length) (h1 : ws.length < 1000) (hs : ∀ v ∈ ws, speltB v = true) (hl : n < 100000) (hc : c < 900000) :
    Wp (fun e' s' => e' = [some (.ref p), some (.ref w), some (.ref b), some (.ref st), o4, o5, o6] ∧ StO S p w st ws (n + 1) (c + 4) s') (fun _ _ => False) (dsIn [some (.ref p), some (.ref w), some (.ref b), some (.ref st), o4, o5, o6] s) := by
  unfold dsIn
  have ty : tyD "list" (.ref st) s = true := by
    obtain ⟨⟨ss, g, _⟩, _⟩ := h
    exact tyD_lst g
  simp [ty]
  refine (one_wd h.pu hc h.gw hw h0 h1 hs).mono fun x s2 ⟨v, hx, hv, fr, _, P2⟩ => ?_
  subst hx
  refine ⟨show (2 : Nat) ≤ line by decide, ?_⟩
  have h2 := h.draw hn hw fr P2
  exact (h2.app (x := .put v) (Q := fun _ s' => StO S p w st ws (n + 1) (c + 4) s') hn hws (fit_spelt hv) hl fun s' z => z).2
theorem ds_end {n : Nat} {c : Int} {r : Nat} {job : Str} {o5 : Option D} (h : StO S p w st ws n c s) (hn : st ≠ p) (hw : w ≠ p) (hws : w ≠ st) (h0 : 0 < ws.length) (h1 : ws.length < 1000) (hs : ∀ v ∈ ws, speltB v = true) (hl : n < 100000) (hc : c < 900000) (hj : fit job) :
    Wp (fun e' s' => e' = [some (.ref p), some (.ref w), some (.ref b), some (.ref st), some (.str job), o5, some (.int (r : Int))] ∧ StO S p w st ws (n + 1) (c + 4) s') (fun _ _ => False) (dsEnd [some (.ref p), some (.ref w), some (.ref b), some (.ref st), some (.str job), o5, some (.int (r : Int))] s) := by
  unfold dsEnd
  have ty : tyD "list" (.ref st) s = true := by
    obtain ⟨⟨ss, g, _⟩, _⟩ := h
    exact tyD_lst g
  have l1 : (1 : Nat) ≤ line := by decide
  have fin : ∀ x : Stp, fitS x → Ok (fun _ s' => StO S p w st ws (n + 1) (c + 4) s') (appendG (.ref st) [enc x] s) := fun x hx => (h.app (x := x) (Q := fun _ s' => StO S p w st ws (n + 1) (c + 4) s') hn hws hx hl fun s' z => z.more (Nat.le_refl _) (by omega)).2
  simp [ne_str hj (lits "" (by simp)), ty, eq_int, l1]
  by_cases hjj : job = ""
  · simp [hjj]
    exact h.more (by omega) (by omega)
  · simp [hjj]
    by_cases h2 : r = 0
    · simp [h2]
      exact fin .leave trivial
    · simp [h2]
      by_cases h3 : (r : Int) = 1
      · simp [h3]
        refine (one_wd h.pu hc h.gw hw h0 h1 hs).mono fun x s2 ⟨v, hx, hv, fr, _, P2⟩ => ?_
        subst hx
        refine ⟨show (2 : Nat) ≤ line by decide, ?_⟩
        have h4 := h.draw hn hw fr P2
        exact (h4.app (x := .exch v) (Q := fun _ s' => StO S p w st ws (n + 1) (c + 4) s') hn hws (fit_spelt hv) hl fun s' z => z).2
      · simp [h3]
        exact fin .keep trivial
theorem ds_turn {n : Nat} {c : Int} {job : Str} {o5 o6 : Option D} (h : StO S p w st ws n c s) (hn : st ≠ p) (hw : w ≠ p) (hws : w ≠ st) (h0 : 0 < ws.length) (h1 : ws.length < 1000) (hs : ∀ v ∈ ws, speltB v = true) (hl : n < 90000) (hc : c < 800000) (hj : fit job) :
    Wp (fun e' s' => (∃ o5 o6, e' = [some (.ref p), some (.ref w), some (.ref b), some (.ref st), some (.str job), o5, o6]) ∧ StO S p w st ws (n + 3) (c + 24) s') (fun _ _ => False) (dsBody [some (.ref p), some (.ref w), some (.ref b), some (.ref st), some (.str job), o5, o6] s) := by
  unfold dsBody
  rw [Wp_seq]
  refine w_forE (o_range1 ?_)
  simp only [o_cons, o_nil, o_op2, o_own, o_v, o_mC, List.getElem?_cons_zero, List.getElem?_cons_succ, noX_ref, true_and, List.append_nil]
  refine (draw_w (m := 3) h.pu (by omega) (by decide) (by decide)).mono fun x s1 ⟨r1, hx, hr1, fr1, _, P1⟩ => ?_
  subst hx
  have k1 := h.draw hn hw fr1 P1
  refine (draw_w (m := 2) P1 (by omega) (by decide) (by decide)).mono fun x s2 ⟨r2, hx, hr2, fr2, _, P2⟩ => ?_
  subst hx
  have k2 := k1.draw hn hw fr2 P2
  have hm : mulD (.int (r1 : Int)) (.int (r2 : Int)) s2 = .ok (.int ((r1 * r2 : Nat) : Int)) s2 := by
    have hb : (r1 : Int).natAbs.log2 + (r2 : Int).natAbs.log2 < 1000000 := by
      rw [Int.natAbs_natCast, Int.natAbs_natCast]
      have a := Nat.log2_le_self r1
      have b := Nat.log2_le_self r2
      omega
    show (if (r1 : Int).natAbs.log2 + (r2 : Int).natAbs.log2 < 1000000 then Res.ok (D.int ((r1 : Int) * (r2 : Int))) s2 else .bad) = _
    rw [if_pos hb, Int.natCast_mul]
  have hle : r1 * r2 ≤ 2 := by
    have : r1 * r2 ≤ 2 * 1 := Nat.mul_le_mul (by omega) (by omega)
    omega
  rw [hm]
  simp only [Ok_ok]
  refine ⟨by omega, by omega, ?_⟩
  rw [Int.toNat_natCast]
  refine ⟨rngL 0 (r1 * r2), fun i e' s' => (∃ o5, e' = [some (.ref p), some (.ref w), some (.ref b), some (.ref st), some (.str job), o5, o6]) ∧ StO S p w st ws (n + i) (c + 4 + 4 + 4 * (i : Int)) s', (itm_rng (q := No)).size, ⟨⟨o5, rfl⟩, k2.more (Nat.le_refl _) (by omega)⟩, fun i e s d ⟨⟨o, he⟩, k⟩ hd => ?_, fun e s ⟨⟨o, he⟩, k⟩ => ?_⟩
  · subst he
    have hi : i < r1 * r2 := by
      have := (List.getElem?_eq_some_iff.mp hd).1
      rwa [rngL_len] at this
    refine ⟨((itm_rng (q := No) (S := s)).next i s Fr.refl).trans (congrArg some hd), [(5, d)], rfl, ?_⟩
    exact (ds_in (o4 := some (.str job)) (o5 := some d) (o6 := o6) k hn hw hws h0 h1 hs (by omega) (by omega)).mono (fun e' s' ⟨he, k'⟩ => ⟨⟨_, he⟩, k'.more (by omega) (by omega)⟩) fun _ _ z => z.elim
  · subst he
    refine ⟨((itm_rng (q := No) (S := s)).next _ s Fr.refl).trans (by rw [List.getElem?_eq_none (Nat.le_refl _)]), ?_⟩
    rw [rngL_len] at k
    unfold dsRest
    simp
    refine (draw_w (m := 4) k.pu (by omega) (by decide) (by decide)).mono fun x s3 ⟨r3, hx, hr3, fr3, _, P3⟩ => ?_
    subst hx
    have k3 := k.draw hn hw fr3 P3
    exact (ds_end (r := r3) (o5 := o) k3 hn hw hws h0 h1 hs (by omega) (by omega) hj).mono (fun e' s' ⟨he, k'⟩ => ⟨⟨_, _, he⟩, k'.more (by omega) (by omega)⟩) fun _ _ z => z.elim
theorem drawn_ok (P : Pu S p c0) (hc : c0 < 600000) (gw : S.get w = some (.lst (wds ws))) (hw : w ≠ p) (h0 : 0 < ws.length) (h1 : ws.length < 1000) (hs : ∀ v ∈ ws, speltB v = true) (gb : S.get b = some (.lst (wds bs))) (hb : ∀ v ∈ bs, fit v) (hbp : b ≠ p) (hbl : bs.length < 1000) :
    Ok (fun x s => ∃ (st : Nat) (ss : List Stp), x = .ref st ∧ S.n ≤ st ∧ s.get st = some (.lst (ss.map enc)) ∧ (∀ y ∈ ss, fitS y) ∧ ss.length ≤ 3 * (bs.length + 1) ∧ Fr (· = p) S s ∧ Pu s p (c0 + 24 * ((bs.length : Int) + 1))) (pur F__law_drawn_steps [.ref p, .ref w, .ref b] S) := by
  have ln : line = 16777216 := rfl
  have hp := P.lt
  have hwl := Hs.get_lt gw
  have hbl2 := Hs.get_lt gb
  rw [pur_raw (by rfl)]
  refine o_run rfl ?_
  show Wp _ _ (FB__law_drawn_steps [some (.ref p), some (.ref w), some (.ref b), none, none, none, none] S)
  rw [ds_eq]
  simp
  have g2 : ((S.new (.lst [])).new (.lst [.str ""])).get b = some (.lst (wds bs)) := Hs.get_old (Hs.get_old gb)
  have g3 : ((S.new (.lst [])).new (.lst [.str ""])).get (S.n + 1) = some (.lst [.str ""]) := Hs.get_new (S.new (.lst [])) _
  have e1 : (mOp2 addD (mV 2) (mLst (mCons (mC (.str "")) mNil))) [some (.ref p), some (.ref w), some (.ref b), some (.ref S.n), none, none, none] (S.new (.lst [])) = .ok (.ref (S.n + 2)) (((S.new (.lst [])).new (.lst [.str ""])).new (.lst (wds (bs ++ emp)))) := by
    rw [K80D.op2 (x := .ref b) (y := .ref (S.n + 1)) (S1 := S.new (.lst [])) (S2 := (S.new (.lst [])).new (.lst [.str ""])) rfl rfl]
    have := add_lst g2 g3 (by simp [wds]; omega)
    rw [this]
    simp [wds, emp]
    rfl
  have e2 : (mIter (mOp2 addD (mV 2) (mLst (mCons (mC (.str "")) mNil)))) [some (.ref p), some (.ref w), some (.ref b), some (.ref S.n), none, none, none] (S.new (.lst [])) = .ok (.lst (S.n + 2)) (((S.new (.lst [])).new (.lst [.str ""])).new (.lst (wds (bs ++ emp)))) := by
    unfold mIter
    rw [e1]
    have gl : MR.listOf (((S.new (.lst [])).new (.lst [.str ""])).new (.lst (wds (bs ++ emp)))) (S.n + 2) = some (wds (bs ++ emp)) := listOf_get (Hs.get_new ((S.new (.lst [])).new (.lst [.str ""])) _)
    show (match MR.listOf (((S.new (.lst [])).new (.lst [.str ""])).new (.lst (wds (bs ++ emp)))) (S.n + 2) with
      | some _ => Res.ok (DI.lst (S.n + 2)) (((S.new (.lst [])).new (.lst [.str ""])).new (.lst (wds (bs ++ emp))))
      | none => .bad) = _
    rw [gl]
  obtain ⟨T, hT⟩ : ∃ T, T = ((S.new (.lst [])).new (.lst [.str ""])).new (.lst (wds (bs ++ emp))) := ⟨_, rfl⟩
  rw [← hT] at e2
  have gT : T.get (S.n + 2) = some (.lst (wds (bs ++ emp))) := by
    rw [hT]
    exact Hs.get_new ((S.new (.lst [])).new (.lst [.str ""])) _
  have fT : Fr No S T := by
    rw [hT]
    exact Fr.new.trans (Fr.new.trans Fr.new)
  have gs : T.get S.n = some (.lst []) := by
    rw [hT]
    exact Hs.get_old (Hs.get_old (Hs.get_new S _))
  refine w_for (wds (bs ++ emp)) (fun _ i e s => (∃ o4 o5 o6, e = [some (.ref p), some (.ref w), some (.ref b), some (.ref S.n), o4, o5, o6]) ∧ StO T p w S.n ws (3 * i) (c0 + 24 * (i : Int)) s) ?_
  rw [e2]
  have hsz : (DI.lst (S.n + 2)).size T = (wds (bs ++ emp)).length := by
    show (match MR.listOf T (S.n + 2) with
      | some xs => xs.length
      | none => 0) = _
    rw [listOf_get gT]
  have hit : ∀ i s, Fr (fun m => m = p ∨ m = S.n) T s → (DI.lst (S.n + 2)).next i s = some (wds (bs ++ emp))[i]? := fun i s f => (itm_lst gT (by omega)).next i s f
  have hlen : (wds (bs ++ emp)).length = bs.length + 1 := by simp [wds, emp]
  refine ⟨Nat.le_of_eq hsz.symm, ⟨⟨_, _, _, rfl⟩, ⟨⟨[], gs, fun x hx => (by cases hx), Nat.zero_le _⟩, Fr.refl, (P.fr fT id).le (by omega), fT.at_ _ _ id gw⟩⟩, fun i e s d ⟨⟨o4, o5, o6, he⟩, k⟩ hd => ?_, fun e s ⟨⟨o4, o5, o6, he⟩, k⟩ => ?_⟩
  · subst he
    have hi := (List.getElem?_eq_some_iff.mp hd).1
    rw [hlen] at hi
    refine ⟨(hit i s k.fr).trans (congrArg some hd), [(4, d)], rfl, ?_⟩
    unfold wds at hd
    rw [List.getElem?_map] at hd
    obtain ⟨job, hj, rfl⟩ := Option.map_eq_some_iff.mp hd
    have hjf : fit job := by
      rcases List.mem_append.mp (List.mem_of_getElem? hj) with h | h
      · exact hb job h
      · cases List.mem_singleton.mp h
        exact lits "" (by simp)
    exact (ds_turn (job := job) (o5 := o5) (o6 := o6) k (by omega) hw (by omega) h0 h1 hs (by omega) (by omega) hjf).mono (fun e' s' ⟨⟨a, b, he⟩, k'⟩ => ⟨⟨_, _, _, he⟩, k'.more (by omega) (by omega)⟩) fun _ _ z => z.elim
  · subst he
    refine ⟨(hit _ s k.fr).trans (by rw [List.getElem?_eq_none (Nat.le_refl _)]), ?_⟩
    rw [hlen] at k
    obtain ⟨⟨ss, g, h2, h3⟩, fr, P', _⟩ := k
    simp
    refine ⟨ss, g, h2, h3, ⟨fun n c hn e => ?_, Nat.le_trans fT.n fr.n⟩, P'.le (by omega)⟩
    have := Hs.get_lt e
    exact fr.at_ n c (by omega) (fT.at_ n c id e)
end
end K80

/-! QS: k80: what is put into bent lists. -/
namespace K80
open PySem MR
open K80D (Pu)
/-- x is data, and short if it is a list -/
def El (q : Nat → Prop) (s : Hs) (k : Nat) (x : D) : Prop := ∃ d, Dn q s k x d ∧ ∀ ps, d = .list ps → ps.length ≤ 1000
def ElE (env : EnvD) (C : Hs → Prop) (q : Nat → Prop) (k : Nat) (m : Ex) : Prop := ∀ s, C s → Ok (fun x s' => Fr No s s' ∧ El q s' k x) (m env s)
def ElA (env : EnvD) (C : Hs → Prop) (q : Nat → Prop) (k : Nat) (ms : Exs) (n : Nat) : Prop := ∀ s, C s → Ok (fun xs s' => Fr No s s' ∧ xs.length = n ∧ ∀ x ∈ xs, El q s' k x) (ms env s)
section
variable {q q' : Nat → Prop} {S S' s : Hs} {k : Nat} {x : D}
theorem El.fr (h : El q S k x) (f : Fr q S S') : El q S' k x := by
  obtain ⟨d, h1, h2⟩ := h
  exact ⟨d, h1.fr f, h2⟩
theorem El.weak (h : El q S k x) (w : ∀ n, q' n → q n) : El q' S k x := by
  obtain ⟨d, h1, h2⟩ := h
  exact ⟨d, h1.weak w, h2⟩
theorem El.up {m : Nat} (h : El q S k x) (hm : k ≤ m) : El q S m x := by
  obtain ⟨d, h1, h2⟩ := h
  exact ⟨d, h1.up hm, h2⟩
theorem Dn.low {d : PyData} (h : Dn q S k x d) : Dn (fun m => q m ∨ S.n ≤ m) S k x d := by
  induction h with
  | non => exact .non
  | bl b => exact .bl b
  | int i => exact .int i
  | str h => exact .str h
  | tup l m r ih => exact .tup l m ih
  | lst hq h l m r ih => exact .lst (fun z => z.elim hq fun z => by have := Hs.get_lt h; omega) h l m ih
theorem El.low (h : El q S k x) : El (fun m => q m ∨ S.n ≤ m) S k x := by
  obtain ⟨d, h1, h2⟩ := h
  exact ⟨d, h1.low, h2⟩
theorem data_of : ∀ {xs : List D}, (∀ x ∈ xs, El q S k x) → ∃ ps : List PyData, xs.length = ps.length ∧ ∀ (i : Nat) d p, xs[i]? = some d → ps[i]? = some p → Dn q S k d p
  | [], _ => ⟨[], rfl, fun i d p a => by simp at a⟩
  | x :: xs, h => by
    obtain ⟨d, h1, _⟩ := h x List.mem_cons_self
    obtain ⟨ps, h2, h3⟩ := data_of (xs := xs) fun y hy => h y (List.mem_cons_of_mem _ hy)
    refine ⟨d :: ps, by simp [h2], fun i e p a b => ?_⟩
    cases i with
    | zero =>
      cases a
      cases b
      exact h1
    | succ i => exact h3 i e p a b
theorem el_lst {n : Nat} {xs : List D} (g : S.get n = some (.lst xs)) (hn : ¬ q n) (hl : xs.length ≤ 1000) (h : ∀ x ∈ xs, El q S k x) : El q S (k + 1) (.ref n) := by
  have ln : line = 16777216 := rfl
  obtain ⟨ps, h1, h2⟩ := data_of h
  exact ⟨.list ps, .lst hn g h1 (by omega) h2, fun ps' e => by cases e; omega⟩
theorem el_tup {xs : List D} (hl : xs.length ≤ 1000) (h : ∀ x ∈ xs, El q S k x) : El q S (k + 1) (.tup xs) := by
  have ln : line = 16777216 := rfl
  obtain ⟨ps, h1, h2⟩ := data_of h
  exact ⟨.tuple ps, .tup h1 (by omega) h2, fun ps' e => by cases e⟩
theorem el_str {z : Str} (h : fit z) : El q S k (.str z) := ⟨_, .str h, fun ps e => by cases e⟩
end
section
variable {env : EnvD} {C : Hs → Prop} {q : Nat → Prop} {k n : Nat}
theorem da_nil : ElA env C q k mNil 0 := fun s _ => ⟨Fr.refl, rfl, fun x hx => by cases hx⟩
theorem da_cons {m : Ex} {ms : Exs} (hC : ∀ s s', C s → Fr No s s' → C s') (h : ElE env C q k m) (h2 : ElA env C q k ms n) : ElA env C q k (mCons m ms) (n + 1) := fun s hs => by
  rw [o_cons]
  refine (h s hs).mono fun x s1 ⟨f1, e1⟩ => (h2 s1 (hC s s1 hs f1)).mono fun xs s2 ⟨f2, l2, e2⟩ => ⟨f1.trans f2, by simp [l2], fun y hy => ?_⟩
  rcases List.mem_cons.mp hy with rfl | hy
  · exact e1.fr f2.any
  · exact e2 y hy
theorem de_tup {ms : Exs} (h : ElA env C q k ms n) (hn : n ≤ 1000) : ElE env C q (k + 1) (mTup ms) := fun s hs => by
  have ln : line = 16777216 := rfl
  rw [o_tup]
  exact (h s hs).mono fun xs s1 ⟨f1, l1, e1⟩ => ⟨by omega, f1, el_tup (by omega) e1⟩
theorem de_lst {ms : Exs} (hC : ∀ s, C s → ∀ m, q m → m < s.n) (h : ElA env C q k ms n) (hn : n ≤ 1000) : ElE env C q (k + 1) (mLst ms) := fun s hs => by
  have ln : line = 16777216 := rfl
  rw [o_lst]
  refine (h s hs).mono fun xs s1 ⟨f1, l1, e1⟩ => ⟨by omega, f1.trans Fr.new, el_lst (Hs.get_new _ _) (fun z => ?_) (by omega) fun x hx => (e1 x hx).fr Fr.new⟩
  have := hC s hs _ z
  have := f1.n
  omega
theorem de_str {z : Str} (h : fit z) : ElE env C q k (mC (.str z)) := fun s _ => ⟨Fr.refl, el_str h⟩
theorem de_int {i : Int} : ElE env C q k (mC (.int i)) := fun s _ => ⟨Fr.refl, _, .int i, fun ps e => by cases e⟩
theorem de_bl {b : Bool} : ElE env C q k (mC (.bl b)) := fun s _ => ⟨Fr.refl, _, .bl b, fun ps e => by cases e⟩
theorem de_non : ElE env C q k (mC .non) := fun s _ => ⟨Fr.refl, _, .non, fun ps e => by cases e⟩
theorem de_w0 {w : Nat} {ws : List Str} (hw : env[1]? = some (some (.ref w))) (h : ∀ s, C s → s.get w = some (.lst (wds ws))) (h0 : 0 < ws.length) (hs : ∀ v ∈ ws, fit v) : ElE env C q k (mOp2 ixD (mV 1) (mC (.int 0))) := fun s hc => by
  have e : ixD (.ref w) (.int 0) s = .ok (.str ws[0]) s := ix_lst (i := 0) (h s hc) (by simp [wds, h0])
  rw [o_op2, o_v]
  simp only [hw, noX_ref, true_and, o_mC, e, Ok_ok]
  exact ⟨Fr.refl, el_str (hs _ (List.getElem_mem h0))⟩
end
def OA1 : Exs := mCons (mTup (mCons (mC (.str "keep")) (mNil))) (mCons (mTup (mCons (mC (.str "leave")) (mNil))) (mCons (mTup (mCons (mC (.str "put")) (mCons (mC (.str "A")) (mNil)))) (mCons (mTup (mCons (mC (.str "put")) (mCons (mC (.str "")) (mNil)))) (mCons (mTup (mCons (mC (.str "put")) (mCons (mC (.str "toolongword")) (mNil)))) (mCons (mTup (mCons (mC (.str "put")) (mCons (mC (.int 5)) (mNil)))) (mCons (mTup (mCons (mC (.str "put")) (mNil))) (mCons (mTup (mCons (mC (.str "keep")) (mCons (mOp2 ixD (mV 1) (mC (.int 0))) (mNil)))) (mNil))))))))
def OA2 : Exs := mCons (mTup (mCons (mC (.str "leave")) (mCons (mOp2 ixD (mV 1) (mC (.int 0))) (mNil)))) (mCons (mLst (mCons (mC (.str "keep")) (mNil))) (mCons (mTup (mCons (mC (.str "put")) (mCons (mOp2 ixD (mV 1) (mC (.int 0))) (mCons (mOp2 ixD (mV 1) (mC (.int 0))) (mNil))))) (mCons (mTup (mCons (mC (.str "stay")) (mNil))) (mCons (mTup (mNil)) (mCons (mC .non) (mCons (mC (.int 5)) (mCons (mC (.str "keep")) (mCons (mTup (mCons (mC (.str "exchange")) (mNil))) (mCons (mTup (mCons (mC .non) (mNil))) (mNil))))))))))
def OA3 : Exs := mCons (mTup (mCons (mC (.str "exchange")) (mCons (mC (.str "a b")) (mNil)))) (mCons (mTup (mCons (mC (.str "exchange")) (mCons (mLst (mCons (mOp2 ixD (mV 1) (mC (.int 0))) (mNil))) (mNil)))) (mCons (mTup (mCons (mLst (mCons (mC (.str "keep")) (mNil))) (mNil))) (mCons (mTup (mCons (mC (.bl true)) (mNil))) (mCons (mTup (mCons (mC (.str "put")) (mCons (mC (.bl true)) (mNil)))) (mCons (mTup (mCons (mC (.str "put")) (mCons (mOp2 ixD (mV 1) (mC (.int 0))) (mNil)))) (mNil))))))
def OA4 : Exs := mCons (mTup (mCons (mC (.str "exchange")) (mCons (mC (.str "A")) (mNil)))) (mCons (mTup (mCons (mC (.str "exchange")) (mCons (mC (.str "")) (mNil)))) (mCons (mTup (mCons (mC (.str "exchange")) (mCons (mC (.int 5)) (mNil)))) (mCons (mTup (mCons (mC (.str "exchange")) (mCons (mOp2 ixD (mV 1) (mC (.int 0))) (mCons (mOp2 ixD (mV 1) (mC (.int 0))) (mNil))))) (mCons (mTup (mCons (mC (.str "exchange")) (mCons (mC (.str "zzzzzzzzz")) (mNil)))) (mNil)))))
def OA5 : Exs := mCons (mTup (mCons (mC (.str "put")) (mCons (mC (.str "zzzzzzzzz")) (mNil)))) (mCons (mTup (mCons (mC (.str "leave")) (mCons (mC (.int 5)) (mNil)))) (mCons (mTup (mCons (mC (.str "keep")) (mCons (mC (.str "x")) (mNil)))) (mCons (mTup (mCons (mC (.str "keep")) (mCons (mC .non) (mNil)))) (mCons (mTup (mCons (mC (.str "Keep")) (mNil))) (mCons (mTup (mCons (mC (.str "put")) (mCons (mC .non) (mNil)))) (mCons (mTup (mCons (mC (.str "exchange")) (mCons (mC .non) (mNil)))) (mNil)))))))
section
variable {env : EnvD} {C : Hs → Prop} {q : Nat → Prop} {w : Nat} {ws : List Str}
theorem oa1 (hC : ∀ s s', C s → Fr No s s' → C s') (hq : ∀ s, C s → ∀ m, q m → m < s.n) (hw : env[1]? = some (some (.ref w))) (hg : ∀ s, C s → s.get w = some (.lst (wds ws))) (h0 : 0 < ws.length) (hs : ∀ v ∈ ws, fit v) : ElA env C q 2 OA1 8 := by
  unfold OA1
  repeat' (first | exact da_nil | apply da_cons hC | apply de_tup | apply de_lst hq | exact de_w0 hw hg h0 hs | exact de_str (by decide +kernel) | exact de_int | exact de_bl | exact de_non)
  all_goals decide
theorem oa2 (hC : ∀ s s', C s → Fr No s s' → C s') (hq : ∀ s, C s → ∀ m, q m → m < s.n) (hw : env[1]? = some (some (.ref w))) (hg : ∀ s, C s → s.get w = some (.lst (wds ws))) (h0 : 0 < ws.length) (hs : ∀ v ∈ ws, fit v) : ElA env C q 2 OA2 10 := by
  unfold OA2
  repeat' (first | exact da_nil | apply da_cons hC | apply de_tup | apply de_lst hq | exact de_w0 hw hg h0 hs | exact de_str (by decide +kernel) | exact de_int | exact de_bl | exact de_non)
  all_goals decide
theorem oa3 (hC : ∀ s s', C s → Fr No s s' → C s') (hq : ∀ s, C s → ∀ m, q m → m < s.n) (hw : env[1]? = some (some (.ref w))) (hg : ∀ s, C s → s.get w = some (.lst (wds ws))) (h0 : 0 < ws.length) (hs : ∀ v ∈ ws, fit v) : ElA env C q 2 OA3 6 := by
  unfold OA3
  repeat' (first | exact da_nil | apply da_cons hC | apply de_tup | apply de_lst hq | exact de_w0 hw hg h0 hs | exact de_str (by decide +kernel) | exact de_int | exact de_bl | exact de_non)
  all_goals decide
theorem oa4 (hC : ∀ s s', C s → Fr No s s' → C s') (hq : ∀ s, C s → ∀ m, q m → m < s.n) (hw : env[1]? = some (some (.ref w))) (hg : ∀ s, C s → s.get w = some (.lst (wds ws))) (h0 : 0 < ws.length) (hs : ∀ v ∈ ws, fit v) : ElA env C q 2 OA4 5 := by
  unfold OA4
  repeat' (first | exact da_nil | apply da_cons hC | apply de_tup | apply de_lst hq | exact de_w0 hw hg h0 hs | exact de_str (by decide +kernel) | exact de_int | exact de_bl | exact de_non)
  all_goals decide
theorem oa5 (hC : ∀ s s', C s → Fr No s s' → C s') (hq : ∀ s, C s → ∀ m, q m → m < s.n) (hw : env[1]? = some (some (.ref w))) (hg : ∀ s, C s → s.get w = some (.lst (wds ws))) (h0 : 0 < ws.length) (hs : ∀ v ∈ ws, fit v) : ElA env C q 2 OA5 7 := by
  unfold OA5
  repeat' (first | exact da_nil | apply da_cons hC | apply de_tup | apply de_lst hq | exact de_w0 hw hg h0 hs | exact de_str (by decide +kernel) | exact de_int | exact de_bl | exact de_non)
  all_goals decide
end
end K80

/-! QT: k80: bent lists. -/
namespace K80
open PySem MR
open K80D (Pu)
def BT6 : Ex := mLc (mRange1 (mCons (mC (.int 5)) (mNil))) (bName 10) (mTrue) (mOp2 addD (mOp2 addD (mSlice (mV 3) mNoPart (mPart (mV 4))) (mLst (mCons (mOwn (pur F__law_one_of) [] (mCons (mV 0) (mCons (mV 5) (mNil)))) (mNil)))) (mSlice (mV 3) (mPart (mV 4)) mNoPart)) [10]
def BT7 : Ex := mLc (mRange1 (mCons (mCall lenF (mCons (mV 3) (mNil))) (mNil))) (bName 9) (mOp2 neD (mOp2 ixD (mOp2 ixD (mV 3) (mV 9)) (mC (.int 0))) (mC (.str "put"))) (mV 9) [9]
def BI8 : ExI := mIter (mOp2 mulD (mV 5) (mCall intF (mCons (mOp2 neD (mV 7) (mLst (mNil))) (mNil))))
def BB8 : SM := mSeq (mSet 9 (mOwn (pur F__law_one_of) [] (mCons (mV 0) (mCons (mV 7) (mNil))))) (mExp (mMeth "list" appendG (mV 6) (mCons (mOp2 addD (mOp2 addD (mSlice (mV 3) mNoPart (mPart (mV 9))) (mLst (mCons (mV 8) (mNil)))) (mSlice (mV 3) (mPart (mOp2 addD (mV 9) (mC (.int 1)))) mNoPart)) (mNil))))
def BA9 : Exs := mCons (mOp2 addD (mSlice (mV 3) mNoPart (mPart (mV 4))) (mSlice (mV 3) (mPart (mOp2 addD (mV 4) (mC (.int 1)))) mNoPart)) (mCons (mOp2 addD (mV 3) (mV 3)) (mCons (mRev (mV 3)) (mCons (mLc (mIter (mV 3)) (bName 8) (mTrue) (mCall listF (mCons (mV 8) (mNil))) [8]) (mNil))))
def BA10 : Exs := mCons (mLc (mIter (mV 2)) (bName 11) (mTrue) (mTup (mCons (mC (.str "exchange")) (mCons (mV 11) (mNil)))) [11]) (mCons (mOp2 mulD (mLst (mCons (mTup (mCons (mC (.str "keep")) (mNil))) (mNil))) (mCall lenF (mCons (mV 2) (mNil)))) (mCons (mOp2 mulD (mLst (mCons (mTup (mCons (mC (.str "leave")) (mNil))) (mNil))) (mCall lenF (mCons (mV 2) (mNil)))) (mCons (mLst (mNil)) (mNil))))
def bt9 : SM := mSet 6 (mOp2 addD (mV 6) (mLst BA9))
def bt10 : SM := mSet 6 (mOp2 addD (mV 6) (mLst BA10))
def bt11 : SM := mRet (mV 6)
def btD : SM := mSeq bt9 (mSeq bt10 bt11)
def btC : SM := mSeq (mFor BI8 (bName 8) BB8) btD
def btB : SM := mSeq (mSet 6 BT6) (mSeq (mSet 7 BT7) btC)
def btA : SM := mSeq (mSet 5 (mLst OA1)) (mSeq (mSet 5 (mOp2 addD (mV 5) (mLst OA2))) (mSeq (mSet 5 (mOp2 addD (mV 5) (mLst OA3))) (mSeq (mSet 5 (mOp2 addD (mV 5) (mLst OA4))) (mSeq (mSet 5 (mOp2 addD (mV 5) (mLst OA5))) btB))))
theorem bt_eq : FB__law_bent = mSeq (mSet 4 (mOwn (pur F__law_draw) [] (mCons (mV 0) (mCons (mOp2 addD (mCall lenF (mCons (mV 3) (mNil))) (mC (.int 1))) (mNil))))) btA := rfl
section
variable {q q' : Nat → Prop} {S S' s : Hs} {k p w b st fd : Nat} {c0 : Int} {ws bs : List Str} {ss : List Stp} {x : D} {env : EnvD}
theorem slice_lst {n : Nat} {xs : List D} {lo hi : Option Int} (g : s.get n = some (.lst xs)) : sliceD (.ref n) lo hi s = .ok (.ref s.n) (s.new (.lst (cutD xs lo hi))) := by
  unfold sliceD
  simp only [listOf_get g]
theorem el_enc {t : Stp} (h : fitS t) : El q S (k + 1) (enc t) := by
  have ln : line = 16777216 := rfl
  have one : ∀ (z : Str) , fit z → ∀ x ∈ [D.str z], El q S k x := fun z hz x hx => by
    cases List.mem_singleton.mp hx
    exact el_str hz
  have two : ∀ (z y : Str) , fit z → fit y → ∀ x ∈ [D.str z, D.str y], El q S k x := fun z y hz hy x hx => by
    rcases List.mem_cons.mp hx with rfl | hx
    · exact el_str hz
    · cases List.mem_singleton.mp hx
      exact el_str hy
  cases t with
  | keep => exact el_tup (show (1 : Nat) ≤ 1000 by omega) (one _ (lits "keep" (by simp)))
  | leave => exact el_tup (show (1 : Nat) ≤ 1000 by omega) (one _ (lits "leave" (by simp)))
  | exch z => exact el_tup (show (2 : Nat) ≤ 1000 by omega) (two _ _ (lits "exchange" (by simp)) h)
  | put z => exact el_tup (show (2 : Nat) ≤ 1000 by omega) (two _ _ (lits "put" (by simp)) h)
theorem el_encs {n : Nat} {l : List Stp} (g : S.get n = some (.lst (l.map enc))) (hn : ¬ q n) (hl : l.length ≤ 1000) (h : ∀ t ∈ l, fitS t) : El q S (k + 2) (.ref n) := el_lst g hn (by simpa using hl) fun x hx => by
  obtain ⟨t, ht, rfl⟩ := List.mem_map.mp hx
  exact el_enc (h t ht)
/-- the odd steps so far -/
def OdS (q : Nat → Prop) (s : Hs) (od n : Nat) : Prop := ∃ xs, s.get od = some (.lst xs) ∧ xs.length = n ∧ ∀ x ∈ xs, El q s 2 x
theorem odd_add {C : Hs → Prop} {ms : Exs} {n m od : Nat} {P : D → Hs → Prop} (hA : ElA env C q 2 ms n) (ho : env[5]? = some (some (.ref od))) (h : OdS q s od m) (hs : C s) (hl : m + n ≤ 1000)
    (k : ∀ od' s', Fr No s s' → OdS q s' od' (m + n) → P (.ref od') s') : Ok P (mOp2 addD (mV 5) (mLst ms) env s) := by
  have ln : line = 16777216 := rfl
  obtain ⟨xs, g, hx, hel⟩ := h
  rw [o_op2, o_v]
  simp only [ho, noX_ref, true_and, o_lst]
  refine (hA s hs).mono fun ys s1 ⟨f1, l1, e1⟩ => ⟨by omega, ?_⟩
  have g1 : (s1.new (.lst ys)).get od = some (.lst xs) := Hs.get_old (f1.at_ _ _ id g)
  rw [add_lst g1 (Hs.get_new _ _) (by omega)]
  have f2 : Fr No s ((s1.new (.lst ys)).new (.lst (xs ++ ys))) := f1.trans (Fr.new.trans Fr.new)
  refine k _ _ f2 ⟨xs ++ ys, Hs.get_new _ _, by simp [hx, l1], fun x hx => ?_⟩
  rcases List.mem_append.mp hx with hx | hx
  · exact (hel x hx).fr f2.any
  · exact (e1 x hx).fr (Fr.new.trans Fr.new)
/-- what the bending has at hand -/
structure Bn (p w b st : Nat) (ws bs : List Str) (ss : List Stp) (s : Hs) : Prop where
  p : p < s.n
  gw : s.get w = some (.lst (wds ws))
  gb : s.get b = some (.lst (wds bs))
  gs : s.get st = some (.lst (ss.map enc))
theorem Bn.fr (h : Bn p w b st ws bs ss S) (f : Fr q S S') (h1 : ¬ q w) (h2 : ¬ q b) (h3 : ¬ q st) : Bn p w b st ws bs ss S' := ⟨Nat.lt_of_lt_of_le h.p f.n, f.at_ _ _ h1 h.gw, f.at_ _ _ h2 h.gb, f.at_ _ _ h3 h.gs⟩
theorem Bn.no (h : Bn p w b st ws bs ss S) (f : Fr No S S') : Bn p w b st ws bs ss S' := h.fr f id id id
abbrev BE (p w b st at_ : Nat) (o5 o6 o7 o8 o9 : Option D) : EnvD := [some (.ref p), some (.ref w), some (.ref b), some (.ref st), some (.int (at_ : Int)), o5, o6, o7, o8, o9, none, none]
/-- the first five lists -/
theorem bent6 {at_ od : Nat} {o6 o7 o8 o9 : Option D} (B : Bn p w b st ws bs ss S) (P : Pu S p c0) (hc : c0 < 800000) (ho : OdS (· = p) S od 36) (hop : od ≠ p) (hsp : st ≠ p) (hat : at_ ≤ ss.length) (hss : ∀ t ∈ ss, fitS t) (hsl : ss.length ≤ 100) :
    Ok (fun x s => x = .ref S.n ∧ Fr (· = p) S s ∧ Pu s p (c0 + 20) ∧ ∃ ls, s.get S.n = some (.lst ls) ∧ ls.length = 5 ∧ ∀ y ∈ ls, El (fun m => m = p ∨ m = S.n) s 4 y) (BT6 (BE p w b st at_ (some (.ref od)) o6 o7 o8 o9) S) := by
  have ln : line = 16777216 := rfl
  obtain ⟨xs, go, hxl, hel⟩ := ho
  have hp := B.p
  have hst := Hs.get_lt B.gs
  have hod := Hs.get_lt go
  unfold BT6
  refine o_lcJ (· = p) (rngL 0 5) (fun i s => Pu s p (c0 + 4 * (i : Int))) (fun S1 _ y s => El (fun m => m = p ∨ m = S1.n) s 4 y) (o_range1 ?_)
  simp only [o_cons, o_mC, o_nil]
  refine ⟨by decide, by decide, ?_⟩
  refine ⟨itm_rng, by rw [rngL_len]; omega, fun z => by omega, (P.fr (Fr.new (q := No)) id).le (by omega), fun i s c1 c g hJ => K80D.Pu.put hJ g (by omega), fun i d hd => ⟨[(10, d)], rfl, fun s fr hl hJ => ?_⟩, fun i y s s' f h => h.fr f, fun s' zs fr hl hJ g2 l2 hz => ?_⟩
  · have hi := (List.getElem?_eq_some_iff.mp hd).1
    rw [rngL_len] at hi
    have gs := fr.at_ _ _ hsp B.gs
    have go' := fr.at_ _ _ hop go
    have hel' : ∀ x ∈ xs, El (fun m => m = p ∨ S.n ≤ m) s 2 x := fun x hx => ((hel x hx).low).fr (fr.mono fun m z => .inl z)
    simp only [o_op2, o_slice, o_v, o_noPart, o_part, apD1, wipe1, List.getElem?_cons_zero, List.getElem?_cons_succ, List.set_cons_succ, List.set_cons_zero, noX_ref, noX_int, true_and, In_int, slice_lst gs, Ok_ok, o_lst, o_cons, o_own, o_nil, List.append_nil]
    have go1 : (s.new (.lst (cutD (ss.map enc) none (some (at_ : Int))))).get od = some (.lst xs) := Hs.get_old go'
    have P1 : Pu (s.new (.lst (cutD (ss.map enc) none (some (at_ : Int))))) p (c0 + 4 * (i : Int)) := hJ.fr (Fr.new (q := No)) id
    refine (one_ok P1 (by omega) go1 hop (by omega) (by omega)).mono fun x s2 ⟨r, hx, fr2, hn2, P2⟩ => ?_
    refine ⟨show (1 : Nat) ≤ line by omega, ?_⟩
    have g1 : s2.get s.n = some (.lst ((ss.map enc).take at_)) := by
      rw [← cut_to]
      exact fr2.at_ _ _ (show ¬ s.n = p by omega) (Hs.get_new _ _)
    have a1 := add_lst (S := s2.new (.lst [x])) (Hs.get_old g1) (Hs.get_new _ _) (by simp; omega)
    rw [a1, Ok_ok]
    have f02 : Fr (· = p) s s2 := Fr.new.trans fr2
    have gs3 : ((s2.new (.lst [x])).new (.lst ((ss.map enc).take at_ ++ [x]))).get st = some (.lst (ss.map enc)) := Hs.get_old (Hs.get_old (f02.at_ _ _ hsp gs))
    rw [slice_lst gs3, Ok_ok, cut_from]
    rw [add_lst (Hs.get_old (Hs.get_new _ _)) (Hs.get_new _ _) (by simp; omega), Ok_ok]
    have f3 : Fr No s2 ((((s2.new (.lst [x])).new (.lst ((ss.map enc).take at_ ++ [x]))).new (.lst ((ss.map enc).drop at_))).new (.lst ((ss.map enc).take at_ ++ [x] ++ (ss.map enc).drop at_))) := Fr.new.trans (Fr.new.trans (Fr.new.trans Fr.new))
    refine ⟨f02.trans f3.any, (P2.fr f3 id).le (by omega), el_lst (k := 3) (Hs.get_new _ _) (fun z => ?_) (by simp; omega) fun y hy => ?_⟩
    · have := f3.n
      have := f02.n
      have h5 : (((s2.new (.lst [x])).new (.lst ((ss.map enc).take at_ ++ [x]))).new (.lst ((ss.map enc).drop at_))).n = s2.n + 3 := rfl
      rw [h5] at z
      omega
    · rw [List.append_assoc] at hy
      rcases List.mem_append.mp hy with hy | hy
      · obtain ⟨t, ht, rfl⟩ := List.mem_map.mp (List.mem_of_mem_take hy)
        exact el_enc (hss t ht)
      · rcases List.mem_append.mp hy with hy | hy
        · rw [List.mem_singleton.mp hy]
          have h1 := (hel' x (List.mem_of_getElem? hx)).fr (f02.mono fun m z => .inl z)
          exact ((h1.fr f3.any).weak fun m z => z.elim (fun z => .inl z) fun z => .inr (by omega)).up (by omega)
        · obtain ⟨t, ht, rfl⟩ := List.mem_map.mp (List.mem_of_mem_drop hy)
          exact el_enc (hss t ht)
  · rw [rngL_len] at hJ l2
    exact ⟨trivial, fr, hJ.le (by omega), zs, g2, l2, fun y hy => by
      obtain ⟨m, hm, e⟩ := List.mem_iff_getElem.mp hy
      exact hz m y (by rw [List.getElem?_eq_getElem hm, e])⟩
/-- where something is taken -/
def tkG (ss : List Stp) (d : D) : Option D := match d with
  | .int i => match ss[i.toNat]? with
    | some (.put _) => none
    | some _ => some d
    | none => none
  | _ => none
theorem bent7 {at_ od : Nat} {o6 o7 o8 o9 : Option D} (gs : S.get st = some (.lst (ss.map enc))) (hsl : ss.length ≤ 100) :
    Ok (fun x s => x = .ref S.n ∧ Fr No S s ∧ s.get S.n = some (.lst ((rngL 0 ss.length).filterMap (tkG ss)))) (BT7 (BE p w b st at_ (some (.ref od)) o6 o7 o8 o9) S) := by
  have ln : line = 16777216 := rfl
  unfold BT7
  refine o_lcf (rngL 0 ss.length) (tkG ss) (o_range1 ?_)
  simp only [o_cons, o_call, o_v, o_nil, List.getElem?_cons_zero, List.getElem?_cons_succ, noX_ref, true_and, len_lst gs, Ok_ok]
  refine ⟨by omega, by simp; omega, ?_⟩
  rw [Int.toNat_natCast, List.length_map]
  refine ⟨itm_rng, by rw [rngL_len]; omega, fun d hd => ⟨[(9, d)], rfl, fun s fr => ?_⟩, fun s fr g => ⟨fr, g⟩⟩
  unfold rngL at hd
  obtain ⟨i, hi, rfl⟩ := List.mem_map.mp hd
  have hi := List.mem_range.mp hi
  have gs2 := fr.at_ _ _ id gs
  have e0 : (0 : Int) + (i : Int) = (i : Int) := by omega
  rw [e0]
  have x1 : ixD (.ref st) (.int (i : Int)) s = .ok (enc ss[i]) s := ix_lst gs2 (by simp [hi])
  have g1 : tkG ss (.int (i : Int)) = (match ss[i] with
    | .put _ => none
    | _ => some (.int (i : Int))) := by
    show (match ss[(i : Int).toNat]? with
      | some (.put _) => none
      | some _ => some (D.int (i : Int))
      | none => none) = _
    rw [Int.toNat_natCast, List.getElem?_eq_getElem hi]
    cases ss[i] <;> rfl
  have m1 : mOp2 ixD (mV 3) (mV 9) (apD (wipeD (BE p w b st at_ (some (.ref od)) o6 o7 o8 o9) [9]) [(9, .int (i : Int))]) s = .ok (enc ss[i]) s := by
    rw [K80D.op2 (x := .ref st) (y := .int (i : Int)) (S1 := s) (S2 := s) rfl rfl, x1]
  have m2 : ∀ z, ixD (enc ss[i]) (.int 0) s = .ok (.str z) s → mOp2 neD (mOp2 ixD (mOp2 ixD (mV 3) (mV 9)) (mC (.int 0))) (mC (.str "put")) (apD (wipeD (BE p w b st at_ (some (.ref od)) o6 o7 o8 o9) [9]) [(9, .int (i : Int))]) s = neD (.str z) (.str "put") s := fun z hz => by
    rw [K80D.op2 (x := .str z) (y := .str "put") (S1 := s) (S2 := s) ?_ rfl]
    rw [K80D.op2 (x := enc ss[i]) (y := .int 0) (S1 := s) (S2 := s) m1 rfl, hz]
  rw [g1]
  cases hssi : ss[i] with
  | keep =>
    rw [hssi] at m2
    exact ⟨by rw [m2 "keep" rfl]; kernel_rfl, fun y hy => by cases hy; rfl⟩
  | leave =>
    rw [hssi] at m2
    exact ⟨by rw [m2 "leave" rfl]; kernel_rfl, fun y hy => by cases hy; rfl⟩
  | exch z =>
    rw [hssi] at m2
    exact ⟨by rw [m2 "exchange" rfl]; kernel_rfl, fun y hy => by cases hy; rfl⟩
  | put z =>
    rw [hssi] at m2
    exact ⟨by rw [m2 "put" rfl]; kernel_rfl, fun y hy => by cases hy⟩
theorem tks_mem {x : D} (h : x ∈ (rngL 0 ss.length).filterMap (tkG ss)) : ∃ i : Nat, i < ss.length ∧ x = .int (i : Int) := by
  obtain ⟨d, hd, e⟩ := List.mem_filterMap.mp h
  unfold rngL at hd
  obtain ⟨i, hi, rfl⟩ := List.mem_map.mp hd
  refine ⟨i, List.mem_range.mp hi, ?_⟩
  have e0 : (0 : Int) + (i : Int) = (i : Int) := by omega
  rw [e0] at e
  have e' : (match ss[(i : Int).toNat]? with
    | some (.put _) => none
    | some _ => some (D.int (i : Int))
    | none => none) = some x := e
  split at e'
  · cases e'
  · cases e'; rfl
  · cases e'
theorem ne_empty {n m : Nat} {xs : List D} (g : S.get n = some (.lst xs)) (g' : S.get m = some (.lst [])) (hx : ∀ x ∈ xs, ∃ i : Nat, x = .int (i : Int)) (hl : xs.length ≤ 1000) : neD (.ref n) (.ref m) S = .ok (.bl (!xs.isEmpty)) S := by
  have ln : line = 16777216 := rfl
  have h1 : ∀ x ∈ xs, El No S 0 x := fun x h => by
    obtain ⟨i, rfl⟩ := hx x h
    exact ⟨_, .int _, fun ps e => by cases e⟩
  obtain ⟨ps, h2, h3⟩ := data_of h1
  have a : Dn No S 1 (.ref n) (.list ps) := .lst id g h2 (by omega) h3
  have b : Dn No S 1 (.ref m) (.list []) := .lst id g' rfl (by simp; omega) fun i d p a => by simp at a
  rw [a.ne b (by omega) (by omega)]
  cases xs with
  | nil =>
    match ps, h2 with
    | [], _ => simp [PyData.eqv, PyData.eqvAll]
  | cons x xs =>
    match ps, h2 with
    | p :: ps, _ => simp [PyData.eqv, PyData.eqvAll]
theorem bent8 {at_ od tk : Nat} {o8 o9 : Option D} (B : Bn p w b st ws bs ss S) (P : Pu S p c0) (hc : c0 < 700000) (ho : OdS (fun m => m = p ∨ m = fd) S od 36) (hop : od ≠ p) (hof : od ≠ fd) (hsp : st ≠ p) (hsf : st ≠ fd) (htp : tk ≠ p) (htf : tk ≠ fd) (hfp : fd ≠ p) (hss : ∀ t ∈ ss, fitS t) (hsl : ss.length ≤ 100)
    (gt : S.get tk = some (.lst ((rngL 0 ss.length).filterMap (tkG ss)))) (hf : ∃ ls, S.get fd = some (.lst ls) ∧ ls.length = 5 ∧ ∀ y ∈ ls, El (fun m => m = p ∨ m = fd) S 4 y) :
    Wp (fun e s => (∃ o8 o9, e = BE p w b st at_ (some (.ref od)) (some (.ref fd)) (some (.ref tk)) o8 o9) ∧ Fr (fun m => m = p ∨ m = fd) S s ∧ Pu s p (c0 + 200) ∧ ∃ ls, s.get fd = some (.lst ls) ∧ ls.length ≤ 41 ∧ ∀ y ∈ ls, El (fun m => m = p ∨ m = fd) s 4 y) (fun _ _ => False)
      (mFor BI8 (bName 8) BB8 (BE p w b st at_ (some (.ref od)) (some (.ref fd)) (some (.ref tk)) o8 o9) S) := by
  have ln : line = 16777216 := rfl
  obtain ⟨xs, go, hxl, hel⟩ := ho
  obtain ⟨ls, gf, hfl, hfe⟩ := hf
  obtain ⟨tks, htks⟩ : ∃ tks, tks = (rngL 0 ss.length).filterMap (tkG ss) := ⟨_, rfl⟩
  rw [← htks] at gt
  have tint : ∀ x ∈ tks, ∃ i : Nat, i < ss.length ∧ x = .int (i : Int) := fun x hx => tks_mem (by rw [← htks]; exact hx)
  have tlen : tks.length ≤ 100 := by
    rw [htks]
    have := List.length_filterMap_le (tkG ss) (rngL 0 ss.length)
    rw [rngL_len] at this
    omega
  have g1 : (S.new (.lst [])).get tk = some (.lst tks) := Hs.get_old gt
  have n1 := ne_empty g1 (Hs.get_new S (.lst [])) (fun x hx => let ⟨i, _, e⟩ := tint x hx; ⟨i, e⟩) (by omega)
  obtain ⟨j, hj⟩ : ∃ j : Nat, j = if (!tks.isEmpty) = true then 1 else 0 := ⟨_, rfl⟩
  have go1 : (S.new (.lst [])).get od = some (.lst xs) := Hs.get_old go
  have hj1 : j ≤ 1 := by
    rw [hj]
    split <;> omega
  have m1 := mul_lst (j := j) go1 (by
    have : xs.length * j ≤ 36 * 1 := Nat.mul_le_mul (by omega) hj1
    omega) (by omega)
  have i1 : intF [.bl (!tks.isEmpty)] (S.new (.lst [])) = .ok (.int (j : Int)) (S.new (.lst [])) := by
    rw [hj]
    cases tks.isEmpty <;> rfl
  obtain ⟨T, hT⟩ : ∃ T, T = (S.new (.lst [])).new (.lst (List.replicate j xs).flatten) := ⟨_, rfl⟩
  rw [← hT] at m1
  have gT : T.get (S.n + 1) = some (.lst (List.replicate j xs).flatten) := by
    rw [hT]
    exact Hs.get_new (S.new (.lst [])) _
  have fT : Fr No S T := by
    rw [hT]
    exact Fr.new.trans Fr.new
  have e1 : BI8 (BE p w b st at_ (some (.ref od)) (some (.ref fd)) (some (.ref tk)) o8 o9) S = .ok (.lst (S.n + 1)) T := by
    have a1 : mOp2 neD (mV 7) (mLst mNil) (BE p w b st at_ (some (.ref od)) (some (.ref fd)) (some (.ref tk)) o8 o9) S = .ok (.bl (!tks.isEmpty)) (S.new (.lst [])) := by
      rw [K80D.op2 (x := .ref tk) (y := .ref S.n) (S1 := S) (S2 := S.new (.lst [])) rfl rfl, n1]
    have a2 : mCall intF (mCons (mOp2 neD (mV 7) (mLst mNil)) mNil) (BE p w b st at_ (some (.ref od)) (some (.ref fd)) (some (.ref tk)) o8 o9) S = .ok (.int (j : Int)) (S.new (.lst [])) := by
      rw [K80D.call1 a1, i1]
    have a3 : mOp2 mulD (mV 5) (mCall intF (mCons (mOp2 neD (mV 7) (mLst mNil)) mNil)) (BE p w b st at_ (some (.ref od)) (some (.ref fd)) (some (.ref tk)) o8 o9) S = .ok (.ref (S.n + 1)) T := by
      rw [K80D.op2 (x := .ref od) (y := .int (j : Int)) (S1 := S) (S2 := S.new (.lst [])) rfl a2, m1]
      rfl
    unfold BI8 mIter
    rw [a3]
    show (match MR.listOf T (S.n + 1) with
      | some _ => Res.ok (DI.lst (S.n + 1)) T
      | none => .bad) = _
    rw [listOf_get gT]
  have hp := B.p
  have hfd := Hs.get_lt gf
  have hilen : (List.replicate j xs).flatten.length ≤ 36 := by
    have : j = 0 ∨ j = 1 := by omega
    rcases this with rfl | rfl <;> simp [hxl]
  refine w_for (List.replicate j xs).flatten (fun _ i e s => (∃ o8 o9, e = BE p w b st at_ (some (.ref od)) (some (.ref fd)) (some (.ref tk)) o8 o9) ∧ Fr (fun m => m = p ∨ m = fd) T s ∧ Pu s p (c0 + 4 * (i : Int)) ∧ ∃ ls, s.get fd = some (.lst ls) ∧ ls.length ≤ 5 + i ∧ ∀ y ∈ ls, El (fun m => m = p ∨ m = fd) s 4 y) ?_
  rw [e1]
  refine ⟨(itm_lst (q := No) gT id).size, ⟨⟨_, _, rfl⟩, Fr.refl, (P.fr fT id).le (by omega), ls, fT.at_ _ _ id gf, by omega, fun y hy => (hfe y hy).fr fT.any⟩, fun i e s d ⟨⟨o8, o9, he⟩, fr, P1, ls, gf, hfl, hfe⟩ hd => ?_, fun e s ⟨⟨o8, o9, he⟩, fr, P1, ls, gf, hfl, hfe⟩ => ?_⟩
  · subst he
    have hi := (List.getElem?_eq_some_iff.mp hd).1
    refine ⟨((itm_lst (q := fun m => m = p ∨ m = fd) gT (by omega)).next i s fr).trans (congrArg some hd), [(8, d)], rfl, ?_⟩
    have hj' : j = 1 := by
      have : j = 0 ∨ j = 1 := by omega
      rcases this with h | h
      · rw [h] at hi
        simp at hi
      · exact h
    have hne : 0 < tks.length := by
      rw [hj'] at hj
      cases tks with
      | nil => simp at hj
      | cons x l => simp
    have hdx : d ∈ xs := by
      have := List.mem_of_getElem? hd
      rw [hj'] at this
      simpa using this
    have fS : Fr (fun m => m = p ∨ m = fd) S s := fT.any.trans fr
    have gt' := fS.at_ _ _ (by omega) gt
    have gs' := fS.at_ _ _ (by omega) B.gs
    have eld := (hel d hdx).fr fS
    have hnx : MR.noX d = true := by
      obtain ⟨_, h, _⟩ := eld
      exact h.noX
    unfold BB8
    simp only [Wp_seq, Wp_set, Wp_exp, o_own, o_cons, o_nil, o_v, apD1, List.getElem?_cons_zero, List.getElem?_cons_succ, List.set_cons_succ, List.set_cons_zero, noX_ref, true_and, List.append_nil]
    refine (one_ok P1 (by omega) gt' htp hne (by omega)).mono fun x s2 ⟨r, hx, fr2, _, P2⟩ => ?_
    obtain ⟨i2, hi2, rfl⟩ := tint x (List.mem_of_getElem? hx)
    have gs2 := fr2.at_ _ _ hsp gs'
    have gf2 := fr2.at_ _ _ hfp gf
    have a2 : ∀ s, addD (.int (i2 : Int)) (.int 1) s = .ok (.int ((i2 + 1 : Nat) : Int)) s := fun s => rfl
    simp only [o_meth, o_op2, o_slice, o_v, o_noPart, o_part, o_cons, o_nil, o_lst, o_mC, List.getElem?_cons_zero, List.getElem?_cons_succ, List.set_cons_succ, List.set_cons_zero, noX_ref, noX_int, hnx, true_and, In_int, slice_lst gs2, Ok_ok]
    refine ⟨tyD_lst gf2, show (1 : Nat) ≤ line by omega, ?_⟩
    rw [cut_to]
    have g3 : ((s2.new (.lst ((ss.map enc).take i2))).new (.lst [d])).get s2.n = some (.lst ((ss.map enc).take i2)) := Hs.get_old (Hs.get_new _ _)
    rw [add_lst g3 (Hs.get_new _ _) (by simp; omega), Ok_ok]
    have gs4 : (((s2.new (.lst ((ss.map enc).take i2))).new (.lst [d])).new (.lst ((ss.map enc).take i2 ++ [d]))).get st = some (.lst (ss.map enc)) := Hs.get_old (Hs.get_old (Hs.get_old gs2))
    rw [a2, Ok_ok, In_int, slice_lst gs4, Ok_ok, cut_from]
    rw [add_lst (Hs.get_old (Hs.get_new _ _)) (Hs.get_new _ _) (by simp; omega), Ok_ok]
    obtain ⟨U, hU⟩ : ∃ U, U = ((((s2.new (.lst ((ss.map enc).take i2))).new (.lst [d])).new (.lst ((ss.map enc).take i2 ++ [d]))).new (.lst ((ss.map enc).drop (i2 + 1)))).new (.lst ((ss.map enc).take i2 ++ [d] ++ (ss.map enc).drop (i2 + 1))) := ⟨_, rfl⟩
    rw [← hU]
    have fU : Fr No s2 U := by
      rw [hU]
      exact Fr.new.trans (Fr.new.trans (Fr.new.trans (Fr.new.trans Fr.new)))
    have gU : U.get (s2.n + 4) = some (.lst ((ss.map enc).take i2 ++ [d] ++ (ss.map enc).drop (i2 + 1))) := by
      rw [hU]
      exact Hs.get_new ((((s2.new (.lst ((ss.map enc).take i2))).new (.lst [d])).new (.lst ((ss.map enc).take i2 ++ [d]))).new (.lst ((ss.map enc).drop (i2 + 1)))) _
    have hn2 := fr2.n
    have hnS := fS.n
    have gf3 := fU.at_ _ _ id gf2
    have fs2 : Fr (fun m => m = p ∨ m = fd) s s2 := fr2.mono fun m z => .inl z
    have elU : El (fun m => m = p ∨ m = fd) U 4 (.ref (s2.n + 4)) := el_lst (k := 3) gU (by omega) (by simp; omega) fun y hy => by
      rw [List.append_assoc] at hy
      rcases List.mem_append.mp hy with hy | hy
      · obtain ⟨t, ht, rfl⟩ := List.mem_map.mp (List.mem_of_mem_take hy)
        exact el_enc (hss t ht)
      · rcases List.mem_append.mp hy with hy | hy
        · rw [List.mem_singleton.mp hy]
          exact ((eld.fr fs2).fr fU.any).up (by omega)
        · obtain ⟨t, ht, rfl⟩ := List.mem_map.mp (List.mem_of_mem_drop hy)
          exact el_enc (hss t ht)
    rw [app_lst gf3 (by omega)]
    have fp : Fr (fun m => m = p ∨ m = fd) U (U.put fd (.lst (ls ++ [.ref (s2.n + 4)]))) := Fr.put gf3 (.inr rfl)
    refine ⟨⟨_, _, rfl⟩, ((fr.trans fs2).trans fU.any).trans fp, (K80D.Pu.put (P2.fr fU id) gf3 hfp).le (by omega), ls ++ [.ref (s2.n + 4)], Hs.get_put gf3, by simp; omega, fun y hy => ?_⟩
    rcases List.mem_append.mp hy with hy | hy
    · exact (((hfe y hy).fr fs2).fr fU.any).fr fp
    · rw [List.mem_singleton.mp hy]
      exact elU.fr fp
  · subst he
    refine ⟨((itm_lst (q := fun m => m = p ∨ m = fd) gT (by omega)).next _ s fr).trans (by rw [List.getElem?_eq_none (Nat.le_refl _)]), ⟨_, _, rfl⟩, fT.any.trans fr, P1.le (by omega), ls, gf, by omega, hfe⟩
abbrev q1 (p fd : Nat) : Nat → Prop := fun m => m = p ∨ m = fd
abbrev CB (p w b st fd : Nat) (ws bs : List Str) (ss : List Stp) : Hs → Prop := fun s => Bn p w b st ws bs ss s ∧ fd < s.n
theorem CB.no {s s' : Hs} (h : CB p w b st fd ws bs ss s) (f : Fr No s s') : CB p w b st fd ws bs ss s' := ⟨h.1.no f, Nat.lt_of_lt_of_le h.2 f.n⟩
theorem CB.lt {s : Hs} (h : CB p w b st fd ws bs ss s) : ∀ m, q1 p fd m → m < s.n := fun m z => by
  have := h.1.p
  have := h.2
  rcases z with rfl | rfl <;> omega
section
variable {at_ od : Nat} {o6 o7 o8 o9 : Option D}
theorem b9a (hss : ∀ t ∈ ss, fitS t) (hsl : ss.length ≤ 100) : ElE (BE p w b st at_ (some (.ref od)) o6 o7 o8 o9) (CB p w b st fd ws bs ss) (q1 p fd) 4 (mOp2 addD (mSlice (mV 3) mNoPart (mPart (mV 4))) (mSlice (mV 3) (mPart (mOp2 addD (mV 4) (mC (.int 1)))) mNoPart)) := fun s hs => by
  have ln : line = 16777216 := rfl
  have gs := hs.1.gs
  have a2 : ∀ s, addD (.int (at_ : Int)) (.int 1) s = .ok (.int ((at_ + 1 : Nat) : Int)) s := fun s => rfl
  simp only [o_op2, o_slice, o_v, o_noPart, o_part, o_mC, List.getElem?_cons_zero, List.getElem?_cons_succ, noX_ref, noX_int, true_and, In_int, slice_lst gs, Ok_ok]
  rw [cut_to]
  have gs1 : (s.new (.lst ((ss.map enc).take at_))).get st = some (.lst (ss.map enc)) := Hs.get_old gs
  rw [a2, Ok_ok, In_int, slice_lst gs1, Ok_ok, cut_from, add_lst (Hs.get_old (Hs.get_new _ _)) (Hs.get_new _ _) (by simp; omega), Ok_ok]
  refine ⟨Fr.new.trans (Fr.new.trans Fr.new), el_lst (k := 3) (Hs.get_new _ _) (fun z => ?_) (by simp; omega) fun y hy => ?_⟩
  · have := hs.lt _ z
    have h5 : ((s.new (.lst ((ss.map enc).take at_))).new (.lst ((ss.map enc).drop (at_ + 1)))).n = s.n + 2 := rfl
    omega
  · rcases List.mem_append.mp hy with hy | hy
    · obtain ⟨t, ht, rfl⟩ := List.mem_map.mp (List.mem_of_mem_take hy)
      exact el_enc (hss t ht)
    · obtain ⟨t, ht, rfl⟩ := List.mem_map.mp (List.mem_of_mem_drop hy)
      exact el_enc (hss t ht)
theorem b9b (hss : ∀ t ∈ ss, fitS t) (hsl : ss.length ≤ 100) : ElE (BE p w b st at_ (some (.ref od)) o6 o7 o8 o9) (CB p w b st fd ws bs ss) (q1 p fd) 4 (mOp2 addD (mV 3) (mV 3)) := fun s hs => by
  have ln : line = 16777216 := rfl
  have gs := hs.1.gs
  simp only [o_op2, o_v, List.getElem?_cons_zero, List.getElem?_cons_succ, noX_ref, true_and]
  rw [add_lst gs gs (by simp; omega), Ok_ok]
  refine ⟨Fr.new, el_lst (k := 3) (Hs.get_new _ _) (fun z => ?_) (by simp; omega) fun y hy => ?_⟩
  · have := hs.lt _ z
    omega
  · rcases List.mem_append.mp hy with hy | hy
    · obtain ⟨t, ht, rfl⟩ := List.mem_map.mp hy
      exact el_enc (hss t ht)
    · obtain ⟨t, ht, rfl⟩ := List.mem_map.mp hy
      exact el_enc (hss t ht)
theorem b9c (hss : ∀ t ∈ ss, fitS t) (hsl : ss.length ≤ 100) : ElE (BE p w b st at_ (some (.ref od)) o6 o7 o8 o9) (CB p w b st fd ws bs ss) (q1 p fd) 4 (mRev (mV 3)) := fun s hs => by
  have gs := hs.1.gs
  have e : mRev (mV 3) (BE p w b st at_ (some (.ref od)) o6 o7 o8 o9) s = .ok (.ref s.n) (s.new (.lst (ss.map enc).reverse)) := by
    unfold mRev
    show (match MR.listOf s st with
      | some xs => Res.ok (D.ref s.n) (s.new (.lst xs.reverse))
      | none => .bad) = _
    rw [listOf_get gs]
  rw [e]
  refine ⟨Fr.new, el_lst (k := 3) (Hs.get_new _ _) (fun z => ?_) (by simp; omega) fun y hy => ?_⟩
  · have := hs.lt _ z
    omega
  · obtain ⟨t, ht, rfl⟩ := List.mem_map.mp (List.mem_reverse.mp hy)
    exact el_enc (hss t ht)
theorem enc_tup (t : Stp) : ∃ xs, enc t = .tup xs := by cases t <;> exact ⟨_, rfl⟩
theorem b9d (hss : ∀ t ∈ ss, fitS t) (hsl : ss.length ≤ 100) : ElE (BE p w b st at_ (some (.ref od)) o6 o7 o8 o9) (CB p w b st fd ws bs ss) (q1 p fd) 4 (mLc (mIter (mV 3)) (bName 8) mTrue (mCall listF (mCons (mV 8) mNil)) [8]) := fun s hs => by
  have ln : line = 16777216 := rfl
  have gs := hs.1.gs
  refine o_lc No (ss.map enc) (fun S1 _ y s => El (fun m => q1 p fd m ∨ m = S1.n) s 3 y) ?_
  rw [iter_lst rfl gs]
  refine ⟨itm_lst gs id, by simp; omega, id, fun i d hd => ⟨[(8, d)], rfl, fun s2 fr hl => ?_⟩, fun i y a c f h => h.fr (f.mono fun m z => z.elim (fun z => z.elim) .inr), fun s' zs fr hl g2 l2 hz => ?_⟩
  · rw [List.getElem?_map] at hd
    obtain ⟨t, ht, rfl⟩ := Option.map_eq_some_iff.mp hd
    have ht := hss t (List.mem_of_getElem? ht)
    obtain ⟨xs, ex⟩ := enc_tup t
    have hx : ∀ x ∈ xs, El (fun m => q1 p fd m ∨ m = s.n) (s2.new (.lst xs)) 2 x := by
      have := el_enc (q := fun m => q1 p fd m ∨ m = s.n) (S := s2.new (.lst xs)) (k := 2) ht
      rw [ex] at this
      obtain ⟨d, dn, _⟩ := this
      cases dn with
      | @tup _ _ ps l m r =>
        intro x hx
        obtain ⟨i, hi, e⟩ := List.mem_iff_getElem.mp hx
        obtain ⟨p, hp⟩ := there l.symm (List.getElem?_eq_getElem hi)
        have h1 := r i x p (by rw [List.getElem?_eq_getElem hi, e]) hp
        refine ⟨p, h1, fun ps' e2 => ?_⟩
        subst e2
        cases t <;> cases ex <;> (simp at hx; rcases hx with rfl | rfl <;> cases h1)
    have hxl : xs.length ≤ 2 := by cases t <;> cases ex <;> simp
    rw [ex]
    simp [listF]
    refine ⟨Fr.new, el_lst (k := 2) (Hs.get_new _ _) (fun z => ?_) (by omega) hx⟩
    have := fr.n
    rcases z with z | z
    · have := hs.lt _ z
      omega
    · omega
  · refine ⟨fr, el_lst (k := 3) g2 (fun z => ?_) (by rw [l2]; simp; omega) fun y hy => ?_⟩
    · have := hs.lt _ z
      omega
    · obtain ⟨m, hm, e⟩ := List.mem_iff_getElem.mp hy
      exact (hz m y (by rw [List.getElem?_eq_getElem hm, e])).weak fun n z => .inl z
theorem ba9 (hss : ∀ t ∈ ss, fitS t) (hsl : ss.length ≤ 100) : ElA (BE p w b st at_ (some (.ref od)) o6 o7 o8 o9) (CB p w b st fd ws bs ss) (q1 p fd) 4 BA9 4 :=
  have hC : ∀ s s', CB p w b st fd ws bs ss s → Fr No s s' → CB p w b st fd ws bs ss s' := fun _ _ h f => CB.no h f
  da_cons hC (b9a hss hsl) (da_cons hC (b9b hss hsl) (da_cons hC (b9c hss hsl) (da_cons hC (b9d hss hsl) da_nil)))
theorem b10a (hb : ∀ v ∈ bs, fit v) (hbl : bs.length ≤ 100) : ElE (BE p w b st at_ (some (.ref od)) o6 o7 o8 o9) (CB p w b st fd ws bs ss) (q1 p fd) 4 (mLc (mIter (mV 2)) (bName 11) mTrue (mTup (mCons (mC (.str "exchange")) (mCons (mV 11) mNil))) [11]) := fun s hs => by
  have ln : line = 16777216 := rfl
  have gb := hs.1.gb
  refine o_lc No (wds bs) (fun S1 _ y s => El (fun m => q1 p fd m ∨ m = S1.n) s 3 y) ?_
  rw [iter_lst rfl gb]
  refine ⟨itm_lst gb id, by simp [wds]; omega, id, fun i d hd => ⟨[(11, d)], rfl, fun s2 fr hl => ?_⟩, fun i y a c f h => h.fr (f.mono fun m z => z.elim (fun z => z.elim) .inr), fun s' zs fr hl g2 l2 hz => ?_⟩
  · unfold wds at hd
    rw [List.getElem?_map] at hd
    obtain ⟨v, hv, rfl⟩ := Option.map_eq_some_iff.mp hd
    have hv := hb v (List.mem_of_getElem? hv)
    simp
    exact ⟨by decide, Fr.refl, el_enc (t := .exch v) (k := 2) hv⟩
  · refine ⟨fr, el_lst (k := 3) g2 (fun z => ?_) (by rw [l2]; simp [wds]; omega) fun y hy => ?_⟩
    · have := hs.lt _ z
      omega
    · obtain ⟨m, hm, e⟩ := List.mem_iff_getElem.mp hy
      exact (hz m y (by rw [List.getElem?_eq_getElem hm, e])).weak fun n z => .inl z
theorem b10b {t : Stp} {z : Str} (ht : enc t = .tup [.str z]) (hf : fitS t) (hbl : bs.length ≤ 100) : ElE (BE p w b st at_ (some (.ref od)) o6 o7 o8 o9) (CB p w b st fd ws bs ss) (q1 p fd) 4 (mOp2 mulD (mLst (mCons (mTup (mCons (mC (.str z)) mNil)) mNil)) (mCall lenF (mCons (mV 2) mNil))) := fun s hs => by
  have ln : line = 16777216 := rfl
  have gb := hs.1.gb
  have gb1 : (s.new (.lst [.tup [.str z]])).get b = some (.lst (wds bs)) := Hs.get_old gb
  simp only [o_op2, o_lst, o_cons, o_tup, o_mC, o_nil, o_call, o_v, List.getElem?_cons_zero, List.getElem?_cons_succ, noX_ref, true_and, len_lst gb1, Ok_ok]
  refine ⟨show (1 : Nat) ≤ line by omega, show (1 : Nat) ≤ line by omega, ?_⟩
  have hwl : (wds bs).length = bs.length := by simp [wds]
  have m1 := mul_lst (j := (wds bs).length) (Hs.get_new s (.lst [.tup [.str z]])) (by
    show 1 * (wds bs).length ≤ line
    omega) (by omega)
  rw [m1, Ok_ok]
  refine ⟨Fr.new.trans Fr.new, el_lst (k := 3) (Hs.get_new _ _) (fun z => ?_) (by simp [hwl]; omega) fun y hy => ?_⟩
  · have := hs.lt _ z
    have h5 : (s.new (.lst [.tup [.str ‹Str›]])).n = s.n + 1 := rfl
    omega
  · have : y = enc t := by
      rw [ht]
      simp at hy
      exact hy.2
    subst this
    exact el_enc hf
theorem b10d : ElE (BE p w b st at_ (some (.ref od)) o6 o7 o8 o9) (CB p w b st fd ws bs ss) (q1 p fd) 4 (mLst mNil) := de_lst (fun s h => CB.lt h) da_nil (by omega)
theorem ba10 (hb : ∀ v ∈ bs, fit v) (hbl : bs.length ≤ 100) : ElA (BE p w b st at_ (some (.ref od)) o6 o7 o8 o9) (CB p w b st fd ws bs ss) (q1 p fd) 4 BA10 4 :=
  have hC : ∀ s s', CB p w b st fd ws bs ss s → Fr No s s' → CB p w b st fd ws bs ss s' := fun _ _ h f => CB.no h f
  da_cons hC (b10a hb hbl) (da_cons hC (b10b (t := .keep) rfl trivial hbl) (da_cons hC (b10b (t := .leave) rfl trivial hbl) (da_cons hC b10d da_nil)))
end
theorem fnd_add {C : Hs → Prop} {ms : Exs} {n m fd : Nat} {P : D → Hs → Prop} {xs : List D} (hA : ElA env C q 4 ms n) (ho : env[6]? = some (some (.ref fd))) (g : s.get fd = some (.lst xs)) (hx : xs.length ≤ m) (hel : ∀ x ∈ xs, El q s 4 x) (hs : C s) (hl : m + n ≤ 1000)
    (k : ∀ fd' s' xs', Fr No s s' → s'.get fd' = some (.lst xs') → s.n ≤ fd' → xs'.length ≤ m + n → (∀ x ∈ xs', El q s' 4 x) → P (.ref fd') s') : Ok P (mOp2 addD (mV 6) (mLst ms) env s) := by
  have ln : line = 16777216 := rfl
  rw [o_op2, o_v]
  simp only [ho, noX_ref, true_and, o_lst]
  refine (hA s hs).mono fun ys s1 ⟨f1, l1, e1⟩ => ⟨by omega, ?_⟩
  have g1 : (s1.new (.lst ys)).get fd = some (.lst xs) := Hs.get_old (f1.at_ _ _ id g)
  rw [add_lst g1 (Hs.get_new _ _) (by omega)]
  have f2 : Fr No s ((s1.new (.lst ys)).new (.lst (xs ++ ys))) := f1.trans (Fr.new.trans Fr.new)
  have f3 : Fr No s (s1.new (.lst ys)) := f1.trans Fr.new
  refine k _ _ (xs ++ ys) f2 (Hs.get_new _ _) f3.n (by simp; omega) fun x hx => ?_
  rcases List.mem_append.mp hx with hx | hx
  · exact (hel x hx).fr f2.any
  · exact (e1 x hx).fr (Fr.new.trans Fr.new)
theorem OdS.fr {od n : Nat} (h : OdS q S od n) (f : Fr q S S') (hq : ¬ q od) : OdS q S' od n := by
  obtain ⟨xs, g, h1, h2⟩ := h
  exact ⟨xs, f.at_ _ _ hq g, h1, fun x hx => (h2 x hx).fr f⟩
theorem bent_ok (B : Bn p w b st ws bs ss S) (P : Pu S p c0) (hc : c0 < 500000) (hwp : w ≠ p) (hbp : b ≠ p) (hsp : st ≠ p) (h0 : 0 < ws.length) (hws : ∀ v ∈ ws, speltB v = true) (hb : ∀ v ∈ bs, fit v) (hbl : bs.length ≤ 100) (hss : ∀ t ∈ ss, fitS t) (hsl : ss.length ≤ 100) :
    Ok (fun x s => ∃ (fd : Nat) (ls : List D), x = .ref fd ∧ s.get fd = some (.lst ls) ∧ S.n ≤ fd ∧ ls.length ≤ 100 ∧ (∀ y ∈ ls, El (· = p) s 4 y) ∧ Fr (· = p) S s ∧ Pu s p (c0 + 300)) (pur F__law_bent [.ref p, .ref w, .ref b, .ref st] S) := by
  have ln : line = 16777216 := rfl
  have hfw : ∀ v ∈ ws, fit v := fun v h => fit_spelt (hws v h)
  rw [pur_raw (by rfl)]
  refine o_run rfl ?_
  show Wp _ _ (FB__law_bent [some (.ref p), some (.ref w), some (.ref b), some (.ref st), none, none, none, none, none, none, none, none] S)
  rw [bt_eq, Wp_seq, Wp_set]
  simp only [o_own, o_cons, o_nil, o_v, o_op2, o_call, o_mC, List.getElem?_cons_zero, List.getElem?_cons_succ, noX_ref, true_and, List.append_nil, len_lst B.gs, Ok_ok]
  have a2 : addD (.int ((ss.map enc).length : Nat)) (.int 1) S = .ok (.int (((ss.map enc).length + 1 : Nat) : Int)) S := rfl
  rw [a2, Ok_ok]
  refine (draw_w (m := (ss.map enc).length + 1) P (by omega) (by omega) (by simp; omega)).mono fun x s1 ⟨at_, hx, hat, fr1, _, P1⟩ => ?_
  subst hx
  rw [List.length_map] at hat
  simp only [List.set_cons_succ, List.set_cons_zero]
  have B1 := B.fr fr1 hwp hbp hsp
  have hC : ∀ s s', Bn p w b st ws bs ss s → Fr No s s' → Bn p w b st ws bs ss s' := fun _ _ h f => h.no f
  have hq : ∀ s, Bn p w b st ws bs ss s → ∀ m, m = p → m < s.n := fun s h m z => z ▸ h.p
  have hg : ∀ s, Bn p w b st ws bs ss s → s.get w = some (.lst (wds ws)) := fun s h => h.gw
  unfold btA
  rw [Wp_seq, Wp_set, o_lst]
  refine (oa1 (env := BE p w b st at_ none none none none none) (C := Bn p w b st ws bs ss) (q := (· = p)) hC hq rfl hg h0 hfw s1 B1).mono fun ys s2 ⟨f2, l2, e2⟩ => ⟨by omega, ?_⟩
  have f2' : Fr No s1 (s2.new (.lst ys)) := f2.trans Fr.new
  have O1 : OdS (· = p) (s2.new (.lst ys)) s2.n 8 := ⟨ys, Hs.get_new _ _, l2, fun x hx => (e2 x hx).fr Fr.new⟩
  have B2 := B1.no f2'
  simp only [List.set_cons_succ, List.set_cons_zero]
  rw [Wp_seq, Wp_set]
  refine odd_add (oa2 (env := BE p w b st at_ (some (.ref s2.n)) none none none none) (C := Bn p w b st ws bs ss) (q := (· = p)) hC hq rfl hg h0 hfw) rfl O1 B2 (by omega) fun od2 s3 f3 O2 => ?_
  have B3 := B2.no f3
  simp only [List.set_cons_succ, List.set_cons_zero]
  rw [Wp_seq, Wp_set]
  refine odd_add (oa3 (env := BE p w b st at_ (some (.ref od2)) none none none none) (C := Bn p w b st ws bs ss) (q := (· = p)) hC hq rfl hg h0 hfw) rfl O2 B3 (by omega) fun od3 s4 f4 O3 => ?_
  have B4 := B3.no f4
  simp only [List.set_cons_succ, List.set_cons_zero]
  rw [Wp_seq, Wp_set]
  refine odd_add (oa4 (env := BE p w b st at_ (some (.ref od3)) none none none none) (C := Bn p w b st ws bs ss) (q := (· = p)) hC hq rfl hg h0 hfw) rfl O3 B4 (by omega) fun od4 s5 f5 O4 => ?_
  have B5 := B4.no f5
  simp only [List.set_cons_succ, List.set_cons_zero]
  rw [Wp_seq, Wp_set]
  refine odd_add (oa5 (env := BE p w b st at_ (some (.ref od4)) none none none none) (C := Bn p w b st ws bs ss) (q := (· = p)) hC hq rfl hg h0 hfw) rfl O4 B5 (by omega) fun od s6 f6 O5 => ?_
  have B6 := B5.no f6
  have fall : Fr No s1 s6 := f2'.trans (f3.trans (f4.trans (f5.trans f6)))
  have P6 := P1.fr fall id
  have hop : od ≠ p := fun z => by
    obtain ⟨xs, g, hl, _⟩ := O5
    obtain ⟨a, b, c, d, g2, _⟩ := P6.ex
    rw [z, g2] at g
    cases g
    simp at hl
  simp only [List.set_cons_succ, List.set_cons_zero]
  unfold btB
  rw [Wp_seq, Wp_set]
  refine (bent6 (at_ := at_) (od := od) B6 P6 (by omega) O5 hop hsp (by omega) hss hsl).mono fun x s7 ⟨hx, f7, P7, hfnd⟩ => ?_
  subst hx
  simp only [List.set_cons_succ, List.set_cons_zero]
  rw [Wp_seq, Wp_set]
  have B7 := B6.fr f7 hwp hbp hsp
  refine (bent7 (p := p) (w := w) (b := b) (at_ := at_) (od := od) B7.gs hsl).mono fun x s8 ⟨hx, f8, gt⟩ => ?_
  subst hx
  simp only [List.set_cons_succ, List.set_cons_zero]
  have B8 := B7.no f8
  have P8 := P7.fr f8 id
  have hp := B.p
  have n1 := fr1.n
  have n6 := fall.n
  have n7 := f7.n
  have hodn : od < s6.n := by
    obtain ⟨xs, g, _⟩ := O5
    exact Hs.get_lt g
  have hstn := Hs.get_lt B6.gs
  obtain ⟨ls, gf, hfl, hfe⟩ := hfnd
  have hs7 : s6.n < s7.n := Hs.get_lt gf
  have O8 : OdS (q1 p s6.n) s8 od 36 := by
    obtain ⟨xs, g, h1, h2⟩ := O5
    exact ⟨xs, f8.at_ _ _ id (f7.at_ _ _ hop g), h1, fun x hx => (((h2 x hx).low.fr (f7.mono fun m z => .inl z)).fr f8.any).weak fun m z => z.elim (fun z => .inl z) fun z => .inr (by omega)⟩
  unfold btC
  rw [Wp_seq]
  refine (bent8 (fd := s6.n) (at_ := at_) (od := od) (tk := s7.n) (o8 := none) (o9 := none) B8 P8 (by omega) O8 hop (by omega) hsp (by omega) (by omega) (by omega) (by omega) hss hsl gt ⟨ls, f8.at_ _ _ id gf, hfl, fun y hy => (hfe y hy).fr f8.any⟩).mono (fun e s9 ⟨⟨o8, o9, he⟩, f9, P9, ls9, gf9, hfl9, hfe9⟩ => ?_) fun _ _ z => z.elim
  subst he
  have hwn := Hs.get_lt B6.gw
  have hbn := Hs.get_lt B6.gb
  have B9 : Bn p w b st ws bs ss s9 := B8.fr f9 (by omega) (by omega) (by omega)
  have hs9 : s6.n < s9.n := Hs.get_lt gf9
  unfold btD bt9
  rw [Wp_seq, Wp_set]
  refine fnd_add (ba9 (fd := s6.n) (at_ := at_) (od := od) (o6 := some (.ref s6.n)) (o7 := some (.ref s7.n)) (o8 := o8) (o9 := o9) hss hsl) rfl gf9 hfl9 hfe9 ⟨B9, hs9⟩ (by omega) fun fd2 s10 xs10 f10 g10 hn10 hl10 he10 => ?_
  simp only [List.set_cons_succ, List.set_cons_zero]
  have B10 := B9.no f10
  unfold bt10
  rw [Wp_seq, Wp_set]
  refine fnd_add (ba10 (fd := s6.n) (at_ := at_) (od := od) (o6 := some (.ref fd2)) (o7 := some (.ref s7.n)) (o8 := o8) (o9 := o9) hb hbl) rfl g10 hl10 he10 ⟨B10, Nat.lt_of_lt_of_le hs9 f10.n⟩ (by omega) fun fd3 s11 xs11 f11 g11 hn11 hl11 he11 => ?_
  simp only [List.set_cons_succ, List.set_cons_zero]
  unfold bt11
  simp only [Wp_ret, o_v, List.getElem?_cons_zero, List.getElem?_cons_succ, noX_ref, true_and]
  have n9 := f9.n
  have n10 := f10.n
  have n8 := f8.n
  have n11 := f11.n
  refine ⟨fd3, xs11, rfl, g11, by omega, by omega, fun y hy => (he11 y hy).weak fun m z => .inl z, ?_, ((P9.fr f10 id).fr f11 id).le (by omega)⟩
  have F1 : Fr (· = p) S s8 := (fr1.trans fall.any).trans (f7.trans f8.any)
  have F2 : Fr No s9 s11 := f10.trans f11
  refine ⟨fun m c hm e => F2.at_ m c id (f9.at_ m c (fun z => z.elim hm fun z => ?_) (F1.at_ m c hm e)), by omega⟩
  have := Hs.get_lt e
  omega
end
end K80

/-! QU: k80: the purses. -/
namespace K80D
open PySem MR
open L2 (atI ixN)
open K80 (F__law_purse FB__law_purse F__law_purses FB__law_purses)
theorem pur_lst {F : Fn} {ds xs : List D} {n : Nat} {S S1 : Hs} (hf : frees ds = true) (e : F ds S0 = .ok (.ref n) S1) (g : S1.get n = some (.lst xs)) (hx : frees xs = true) : pur F ds S = .ok (.ref S.n) (S.new (.lst xs)) := by
  unfold pur
  rw [if_pos hf, e]
  simp only [g, hx]
  rfl
theorem consE {m : Ex} {ms : Exs} {env : EnvD} {S S1 S2 : Hs} {d : D} {ds : List D} (h : m env S = .ok d S1) (h2 : ms env S1 = .ok ds S2) : mCons m ms env S = .ok (d :: ds) S2 := by
  unfold mCons
  rw [h]
  show (ms env S1).bind _ = _
  rw [h2]
  rfl
theorem lstE {ms : Exs} {env : EnvD} {S S1 : Hs} {ds : List D} (h : ms env S = .ok ds S1) (hl : ds.length ≤ line) : mLst ms env S = .ok (.ref S1.n) (S1.new (.lst ds)) := by
  unfold mLst
  rw [h]
  show (if ds.length ≤ line then Res.ok (D.ref S1.n) (S1.new (.lst ds)) else .bad) = _
  rw [if_pos hl]
theorem lc_inv {di : DI} {b : Bnd} {mt me : Ex} {env : EnvD} {a n : Nat} (I : Nat → Hs → Prop) (step : ∀ i S, i < n → I i S → ∃ d us y S3 S4 acc, di.next i S = some (some d) ∧ b d = some us ∧ mt (apD env us) S = .ok (.bl true) S3 ∧ me (apD env us) S3 = .ok y S4 ∧ S4.get a = some (.lst acc) ∧ acc.length < line ∧ I (i + 1) (S4.put a (.lst (acc ++ [y]))))
    (stop : ∀ S, I n S → di.next n S = some none) : ∀ (j i k : Nat) (S : Hs), i + j = n → j < k → I i S → ∃ S', mLcL di b mt me env a k i S = .ok (.ref a) S' ∧ I n S'
  | 0, i, k + 1, S, hij, hk, hI => by
    have e : i = n := by omega
    subst e
    refine ⟨S, ?_, hI⟩
    unfold mLcL
    rw [stop S hI]
  | j + 1, i, k + 1, S, hij, hk, hI => by
    obtain ⟨d, us, y, S3, S4, acc, h1, h2, h3, h4, h5, h6, h7⟩ := step i S (by omega) hI
    obtain ⟨S', h8, h9⟩ := lc_inv I step stop j (i + 1) k _ (by omega) (by omega) h7
    refine ⟨S', ?_, h9⟩
    unfold mLcL
    rw [h1]
    simp only [h2, h3, h4, h5, h6, if_true]
    exact h8
theorem mapO_int : ∀ ns : List Int, mapO intOf (ns.map D.int) = some ns
  | [] => rfl
  | n :: ns => by simp only [List.map_cons, mapO, intOf, mapO_int ns]
theorem frees_int : ∀ ns : List Int, frees (ns.map D.int) = true
  | [] => rfl
  | n :: ns => frees_int ns
theorem cut_int (ns : List Int) (lo hi : Option Int) : ∃ ms : List Int, cutD (ns.map D.int) lo hi = ms.map D.int := by
  unfold cutD
  rw [← List.map_drop, ← List.map_take]
  exact ⟨_, rfl⟩
theorem purse_ok (ns : List Int) {i : Nat} (hi : i ≤ 64) : ∃ a b : Int, 0 ≤ b ∧ b < 2147483648 ∧ ∀ S, pur F__law_purse [.fz (ns.map D.int), .int (i : Int)] S = .ok (.ref S.n) (S.new (.lst [.int a, .int b, .int 0, .int (i : Int)])) := by
  obtain ⟨ms, hms⟩ := cut_int ns (some (i : Int)) (some ((i : Int) + 1))
  let z : Int := ms.sum
  let a : Int := (if (0 : Int) > z - 1000000000000000000 then 0 else z - 1000000000000000000).fmod (((10 : Int) ^ 60) ^ 8)
  refine ⟨a, z.fmod 2147483629, Int.fmod_nonneg_of_pos _ (by decide), ?_, fun S => ?_⟩
  · have := Int.fmod_lt_of_pos z (b := 2147483629) (by decide)
    omega
  · have e : F__law_purse [.fz (ns.map D.int), .int (i : Int)] S0 = .ok (.ref 1) ((S0.new (.lst (ms.map D.int))).new (.lst [.int a, .int (z.fmod 2147483629), .int 0, .int (i : Int)])) := by
      show ofS (FB__law_purse [some (.fz (ns.map D.int)), some (.int (i : Int)), none] S0) = _
      unfold FB__law_purse
      rw [seqSet (d := .int z) (S1 := S0.new (.lst (ms.map D.int)))]
      · rw [retE (d := .ref 1) (S1 := (S0.new (.lst (ms.map D.int))).new (.lst [.int a, .int (z.fmod 2147483629), .int 0, .int (i : Int)]))]
        · rfl
        · refine lstE (S1 := S0.new (.lst (ms.map D.int))) (ds := [.int a, .int (z.fmod 2147483629), .int 0, .int (i : Int)]) ?_ (by show 4 ≤ 16777216; omega)
          refine consE (S1 := S0.new (.lst (ms.map D.int))) (by kernel_rfl) (consE (S1 := S0.new (.lst (ms.map D.int))) rfl (consE (S1 := S0.new (.lst (ms.map D.int))) rfl (consE (S1 := S0.new (.lst (ms.map D.int))) rfl rfl)))
      · rw [call1 (d := .ref 0) (S1 := S0.new (.lst (ms.map D.int)))]
        · show (match MR.listOf (S0.new (.lst (ms.map D.int))) 0 with
            | some xs => (match mapO intOf xs with
              | some is => Res.ok (D.int is.sum) (S0.new (.lst (ms.map D.int)))
              | none => .bad : Res D)
            | none => .bad) = _
          rw [listOf_get (Hs.get_new S0 _)]
          simp only [mapO_int]
          rfl
        · show Res.ok (D.ref 0) (S0.new (.lst (cutD (ns.map D.int) (some (i : Int)) (some ((i : Int) + 1))))) = _
          rw [hms]
    exact pur_lst (by show (frees (ns.map D.int) && (true && true)) = true; rw [frees_int]; rfl) e (Hs.get_new (S0.new _) _) rfl
def refs (k : Nat) : List D := (List.range k).map fun j => .ref (j + 1)
structure Made (k : Nat) (S : Hs) : Prop where
  n : S.n = 1 + k
  l : S.get 0 = some (.lst (refs k))
  p : ∀ j, j < k → Pu S (j + 1) 0
theorem refs_succ (k : Nat) : refs (k + 1) = refs k ++ [.ref (k + 1)] := by
  unfold refs
  rw [List.range_succ, List.map_append]
  rfl
theorem purses_ok (ns : List Int) : ∃ (k : Nat) (S : Hs), k ≤ 3 ∧ pur F__law_purses [.fz (ns.map D.int), .int 3] S0 = .ok (.ref 0) S ∧ Made k S := by
  let z : Int := (if (if (ns.length : Int) < 3 then (ns.length : Int) else 3) > 1 then (if (ns.length : Int) < 3 then (ns.length : Int) else 3) else 1)
  have hz : 1 ≤ z ∧ z ≤ 3 := by
    show 1 ≤ (if (if (ns.length : Int) < 3 then (ns.length : Int) else 3) > 1 then (if (ns.length : Int) < 3 then (ns.length : Int) else 3) else 1) ∧ (if (if (ns.length : Int) < 3 then (ns.length : Int) else 3) > 1 then (if (ns.length : Int) < 3 then (ns.length : Int) else 3) else 1) ≤ 3
    split <;> split <;> omega
  obtain ⟨k, ek⟩ := Int.eq_ofNat_of_zero_le (show 0 ≤ z by omega)
  have hF : ∀ S, F__law_purses [.fz (ns.map D.int), .int 3] S0 = .ok (.ref 0) S → Made k S → pur F__law_purses [.fz (ns.map D.int), .int 3] S0 = .ok (.ref 0) S := fun S e M => by
    unfold pur
    rw [if_pos (by show (frees (ns.map D.int) && (true && true)) = true; rw [frees_int]; rfl), e]
    simp only [M.l]
    by_cases hf : frees (refs k) = true
    · have : k = 0 := by
        cases k with
        | zero => rfl
        | succ k =>
          rw [refs_succ] at hf
          exfalso
          have := frees_get (i := k) (d := .ref (k + 1)) hf (by rw [List.getElem?_append_right (by unfold refs; simp)]; unfold refs; simp)
          cases this
      omega
    · rw [if_neg hf]
  let I : Nat → Hs → Prop := fun i S => Made i S
  have hr : (mRange1 (mCons (mCall maxF (mCons (mC (.int 1)) (mCons (mCall minF (mCons (mV 1) (mCons (mCall lenF (mCons (mV 0) (mNil))) (mNil)))) (mNil)))) (mNil))) [some (.fz (ns.map D.int)), some (.int 3), none] S0 = .ok (.rng 0 k) S0 := by
    have e : (mCons (mCall maxF (mCons (mC (.int 1)) (mCons (mCall minF (mCons (mV 1) (mCons (mCall lenF (mCons (mV 0) (mNil))) (mNil)))) (mNil)))) (mNil)) [some (.fz (ns.map D.int)), some (.int 3), none] S0 = .ok [.int z] S0 := by
      have hl : ((ns.map D.int).length : Int) = (ns.length : Int) := by rw [List.length_map]
      show Res.ok [D.int (if (if ((ns.map D.int).length : Int) < 3 then ((ns.map D.int).length : Int) else 3) > 1 then (if ((ns.map D.int).length : Int) < 3 then ((ns.map D.int).length : Int) else 3) else 1)] S0 = _
      rw [hl]
    unfold mRange1
    rw [e]
    show (if -(2 ^ 62) ≤ z ∧ z < 2 ^ 62 then Res.ok (DI.rng 0 z.toNat) S0 else .bad) = _
    rw [if_pos (by omega), ek, Int.toNat_natCast]
  obtain ⟨S', h1, h2⟩ := lc_inv (di := .rng 0 k) (b := bName 2) (mt := mTrue) (me := mOwn (pur F__law_purse) [] (mCons (mV 0) (mCons (mV 2) (mNil)))) (env := [some (.fz (ns.map D.int)), some (.int 3), none]) (a := 0) (n := k) I
    (fun i S hi hI => by
      obtain ⟨a, b, b0, b1, hp⟩ := purse_ok ns (i := i) (by omega)
      have M : Made i S := hI
      have g0 : (S.new (.lst [.int a, .int b, .int 0, .int (i : Int)])).get 0 = some (.lst (refs i)) := Hs.get_old M.l
      have gn : (S.new (.lst [.int a, .int b, .int 0, .int (i : Int)])).get S.n = some (.lst [.int a, .int b, .int 0, .int (i : Int)]) := Hs.get_new S _
      have hlt := Hs.get_lt g0
      refine ⟨.int (0 + i), [(2, .int (0 + i))], .ref S.n, S, S.new (.lst [.int a, .int b, .int 0, .int (i : Int)]), refs i, ?_, rfl, rfl, ?_, g0, ?_, ⟨?_, ?_, fun j hj => ?_⟩⟩
      · show some (if i < k then some (D.int (0 + i)) else none) = _
        rw [if_pos hi]
      · rw [own2 (d1 := .fz (ns.map D.int)) (d2 := .int (0 + i)) rfl rfl, Int.zero_add]
        exact hp S
      · show (refs i).length < 16777216
        unfold refs
        simp
        omega
      · show S.n + 1 = _
        rw [M.n]
        omega
      · rw [Hs.get_put g0, refs_succ, M.n, Nat.add_comm 1 i]
      · by_cases e : j = i
        · subst e
          refine ⟨a, b, 0, (j : Int), ?_, ⟨b0, b1⟩, ⟨by omega, by omega⟩, ⟨by omega, by omega⟩⟩
          rw [Hs.get_put_ne hlt (by omega)]
          have : j + 1 = S.n := by rw [M.n]; omega
          rw [this]
          exact gn
        · obtain ⟨a', b', c', d', h, r⟩ := (M.p j (by omega)).ex
          refine ⟨a', b', c', d', ?_, r⟩
          rw [Hs.get_put_ne hlt (by omega)]
          exact Hs.get_old h) (fun S _ => by
      show some (if k < k then some (D.int (0 + k)) else none) = _
      rw [if_neg (Nat.lt_irrefl _)]) k 0 (k + 1) (S0.new (.lst [])) (by omega) (by omega) ⟨rfl, rfl, fun j hj => by omega⟩
  refine ⟨k, S', by omega, hF S' ?_ h2, h2⟩
  show ofS (FB__law_purses [some (.fz (ns.map D.int)), some (.int 3), none] S0) = _
  unfold FB__law_purses
  rw [retE (d := .ref 0) (S1 := S')]
  · rfl
  · unfold mLc
    rw [hr]
    exact h1
end K80D

/-! QV: k80: the law answers True. -/
namespace K80
open PySem MR
open K80D (Pu)
section
variable {S S' s T : Hs} {p w b st : Nat} {c0 : Int} {ws bs : List Str} {ss : List Stp} {f : D} {o3 o4 o5 o6 o7 o8 : Option D}
/-- the law's judgement of x is True, whatever was made since -/
def RJ (S : Hs) (b : Nat) (x : D) : Prop := MR.noX x = true ∧ ∀ s, Fr No S s → Ok (fun y s' => y = .bl true ∧ Fr No s s') (pur F__law_steps_right [.ref b, x] s)
theorem RJ.fr {x : D} (h : RJ S b x) (f : Fr No S S') : RJ S' b x := ⟨h.1, fun s f2 => h.2 s (f.trans f2)⟩
theorem rj_el {q : Nat → Prop} {k : Nat} {x : D} (h : El q S k x) (hk : k ≤ 7) (gb : S.get b = some (.lst (wds bs))) (hb : ∀ v ∈ bs, speltB v = true) (hbl : bs.length ≤ 100) : RJ S b x := by
  have ln : line = 16777216 := rfl
  obtain ⟨d, h1, h2⟩ := h
  refine ⟨h1.noX, fun s f => ?_⟩
  rw [pur_raw (by rfl)]
  exact right_ok ((h1.weak (q' := No) fun n z => z.elim).fr f) hk (fun ps e => by have := h2 ps e; omega) (f.at_ _ _ id gb) (fun v hv => ⟨fit_spelt (hb v hv), hb v hv⟩) (by omega)
theorem rj_dict {kvs : List (List L2.Key × D)} {n : Nat} (hf : Few kvs) (g : S.get n = some (.dt kvs)) (gb : S.get b = some (.lst (wds bs))) (hb : ∀ v ∈ bs, speltB v = true) (hbl : bs.length ≤ 100) : RJ S b (.ref n) := by
  have ln : line = 16777216 := rfl
  refine ⟨rfl, fun s f => ?_⟩
  rw [pur_raw (by rfl)]
  exact right_dict hf (f.at_ _ _ id g) (f.at_ _ _ id gb) (fun v hv => ⟨fit_spelt (hb v hv), hb v hv⟩) (by omega)
abbrev LE (f : D) (p w : Nat) (o3 o4 o5 o6 o7 o8 : Option D) : EnvD := [some f, some (.ref p), some (.ref w), o3, o4, o5, o6, o7, o8]
def lw6 : SM := mIfS (mNot (mOwn (pur F__law_steps_right) [] (mCons (mV 4) (mCons (mV 6) (mNil))))) (mRet (mC (.bl false))) (mNx)
def lw7 : SM := mIfS (mNot (mOwn (pur F__law_steps_right) [] (mCons (mV 4) (mCons (mV 7) (mNil))))) (mRet (mC (.bl false))) (mNx)
def li6 : ExI := mIter (mOp2 addD (mLst (mCons (mV 5) (mNil))) (mOwn (pur F__law_bent) [] (mCons (mV 1) (mCons (mV 2) (mCons (mV 4) (mCons (mV 5) (mNil)))))))
def lA7 : Exs := mCons (mC .non) (mCons (mC (.int 5)) (mCons (mC (.bl true)) (mCons (mC (.str "keep")) (mCons (mDT0) (mCons (mTup (mNil)) (mCons (mOp2 addD (mCall tupleF (mCons (mV 5) (mNil))) (mTup (mCons (mTup (mCons (mC (.str "keep")) (mNil))) (mNil)))) (mCons (mDT1 "keep") (mNil))))))))
def li7 : ExI := mIter (mLst lA7)
def lw5 : SM := mSeq (mFor li6 (bName 6) lw6) (mFor li7 (bName 7) lw7)
def lw4 : SM := mSeq (mSet 5 (mOwn (pur F__law_drawn_steps) [] (mCons (mV 1) (mCons (mV 2) (mCons (mV 4) (mNil)))))) lw5
def lwB : Ex := mLc (mRange1 (mCons (mOwn (pur F__law_draw) [] (mCons (mV 1) (mCons (mC (.int 7)) (mNil)))) (mNil))) (bName 8) (mTrue) (mOwn (pur F__law_one_of) [] (mCons (mV 1) (mCons (mV 2) (mNil)))) [8]
def lw3 : SM := mSeq (mSet 4 lwB) lw4
def lw2 : SM := mFor (mRange1 (mCons (mC (.int 3)) (mNil))) (bName 3) lw3
def lw1 : SM := mSeq (mSet 2 (mOwn (pur F__law_words) [] (mCons (mV 1) (mCons (mOp2 addD (mC (.int 1)) (mOwn (pur F__law_draw) [] (mCons (mV 1) (mCons (mC (.int 4)) (mNil))))) (mNil))))) lw2
def lw0 : ExI := mIter (mOwn (pur F__law_purses) [] (mCons (mV 0) (mCons (mC (.int 3)) (mNil))))
theorem lw_eq : FB_law = mSeq (mFor lw0 (bName 1) lw1) (mRet (mC (.bl true))) := rfl
theorem jud6 {L : Nat} {xs : List D} (g : S.get L = some (.lst xs)) (h : ∀ x ∈ xs, RJ S b x) :
    ∀ (i : Nat) (e : EnvD) (s : Hs) (d : D), ((∃ o6, e = LE f p w o3 (some (.ref b)) o5 o6 o7 o8) ∧ Fr No S s) → xs[i]? = some d → (DI.lst L).next i s = some (some d) ∧ ∃ us, bName 6 d = some us ∧ Wp (fun e s => (∃ o6, e = LE f p w o3 (some (.ref b)) o5 o6 o7 o8) ∧ Fr No S s) (fun _ _ => False) (lw6 (apD e us) s) := fun i e s d ⟨⟨o6, he⟩, fr⟩ hd => by
  subst he
  obtain ⟨hx, hj⟩ := h d (List.mem_of_getElem? hd)
  refine ⟨((itm_lst (q := No) g id).next i s fr).trans (congrArg some hd), [(6, d)], rfl, ?_⟩
  unfold lw6
  simp [hx]
  refine (hj s fr).mono fun y s' ⟨hy, fr'⟩ => ?_
  subst hy
  simp
  exact fr.trans fr'
theorem jud7 {L : Nat} {xs : List D} (g : S.get L = some (.lst xs)) (h : ∀ x ∈ xs, RJ S b x) :
    ∀ (i : Nat) (e : EnvD) (s : Hs) (d : D), ((∃ o7, e = LE f p w o3 (some (.ref b)) o5 o6 o7 o8) ∧ Fr No S s) → xs[i]? = some d → (DI.lst L).next i s = some (some d) ∧ ∃ us, bName 7 d = some us ∧ Wp (fun e s => (∃ o7, e = LE f p w o3 (some (.ref b)) o5 o6 o7 o8) ∧ Fr No S s) (fun _ _ => False) (lw7 (apD e us) s) := fun i e s d ⟨⟨o7, he⟩, fr⟩ hd => by
  subst he
  obtain ⟨hx, hj⟩ := h d (List.mem_of_getElem? hd)
  refine ⟨((itm_lst (q := No) g id).next i s fr).trans (congrArg some hd), [(7, d)], rfl, ?_⟩
  unfold lw7
  simp [hx]
  refine (hj s fr).mono fun y s' ⟨hy, fr'⟩ => ?_
  subst hy
  simp
  exact fr.trans fr'
theorem wds_of : ∀ {zs : List D}, (∀ (m : Nat) (y : D), zs[m]? = some y → ∃ v, y = D.str v ∧ speltB v = true) → ∃ bs, zs = wds bs ∧ (∀ v ∈ bs, speltB v = true) ∧ bs.length = zs.length
  | [], _ => ⟨[], rfl, fun v h => (by cases h), rfl⟩
  | z :: zs, h => by
    obtain ⟨v, e, hv⟩ := h 0 z rfl
    subst e
    obtain ⟨bs, e1, e2, e3⟩ := wds_of (zs := zs) fun (m : Nat) (y : D) hy => h (m + 1) y hy
    refine ⟨v :: bs, by rw [e1]; rfl, fun u hu => ?_, by simp [e3]⟩
    rcases List.mem_cons.mp hu with rfl | hu
    · exact hv
    · exact e2 u hu
theorem book_ok (P : Pu S p c0) (hc : c0 < 500000) (gw : S.get w = some (.lst (wds ws))) (hwp : w ≠ p) (h0 : 0 < ws.length) (h1 : ws.length < 1000) (hws : ∀ v ∈ ws, speltB v = true) :
    Ok (fun x s => ∃ (b : Nat) (bs : List Str), x = .ref b ∧ S.n ≤ b ∧ s.get b = some (.lst (wds bs)) ∧ (∀ v ∈ bs, speltB v = true) ∧ bs.length ≤ 6 ∧ Fr (· = p) S s ∧ Pu s p (c0 + 28)) (lwB (LE f p w o3 o4 o5 o6 o7 o8) S) := by
  have ln : line = 16777216 := rfl
  unfold lwB mLc
  rw [Ok_bind]
  refine o_range1 ?_
  simp only [o_own, o_cons, o_nil, o_v, o_mC, List.getElem?_cons_zero, List.getElem?_cons_succ, noX_ref, true_and, List.append_nil]
  refine (draw_w (m := 7) P (by omega) (by decide) (by decide)).mono fun x s1 ⟨r, hx, hr, fr1, _, P1⟩ => ?_
  subst hx
  refine ⟨by omega, by omega, ?_⟩
  rw [Int.toNat_natCast]
  have hp := P1.lt
  have n1 := fr1.n
  have gw1 := fr1.at_ _ _ hwp gw
  refine (lcJ_ok (q := (· = p)) (S1 := s1) (items := rngL 0 r) (R := fun _ y _ => ∃ v, y = D.str v ∧ speltB v = true) (fun i s => Pu s p (c0 + 4 + 4 * (i : Int))) itm_rng (by rw [rngL_len]; omega) (fun i d hd => ⟨[(8, d)], rfl, fun s fr hl hJ => ?_⟩) (fun z => by omega) (fun i s c1 c g hJ => K80D.Pu.put hJ g (by omega)) (fun _ _ _ _ _ z => z) r 0 _ (s1.new (.lst [])) [] (by rw [rngL_len]; omega) ?_ Fr.new (Nat.lt_succ_self _) ((P1.fr (Fr.new (q := No)) id).le (by omega)) (Hs.get_new _ _) rfl fun m y e => by simp at e).mono fun d s' ⟨e, fr, hJ, zs, g, l, hz⟩ => ?_
  · have hi := (List.getElem?_eq_some_iff.mp hd).1
    rw [rngL_len] at hi
    simp
    refine (one_wd hJ (by omega) (fr.at_ _ _ hwp gw1) hwp h0 h1 hws).mono fun x s2 ⟨v, hx, hv, fr2, _, P2⟩ => ⟨fr2, P2.le (by omega), v, hx, hv⟩
  · show r < r + 1
    omega
  · obtain ⟨bs, e1, e2, e3⟩ := wds_of hz
    subst e e1
    rw [rngL_len] at l hJ
    exact ⟨s1.n, bs, rfl, n1, g, e2, by omega, fr1.trans fr, hJ.le (by omega)⟩
theorem el_ss (hss : ∀ t ∈ ss, fitS t) (hsl : ss.length ≤ 100) {q : Nat → Prop} : El q S 3 (.tup (ss.map enc ++ [.tup [.str "keep"]])) := el_tup (k := 2) (by simp; omega) fun x hx => by
  rcases List.mem_append.mp hx with hx | hx
  · obtain ⟨t, ht, rfl⟩ := List.mem_map.mp hx
    exact el_enc (hss t ht)
  · rw [List.mem_singleton.mp hx]
    exact el_enc (t := .keep) (k := 1) trivial
theorem odd7_ok (gs : S.get st = some (.lst (ss.map enc))) (hss : ∀ t ∈ ss, fitS t) (hsl : ss.length ≤ 100) (gb : S.get b = some (.lst (wds bs))) (hb : ∀ v ∈ bs, speltB v = true) (hbl : bs.length ≤ 100) :
    Ok (fun xs s => xs.length = 8 ∧ Fr No S s ∧ ∀ x ∈ xs, RJ s b x) (lA7 (LE f p w o3 (some (.ref b)) (some (.ref st)) o6 o7 o8) S) := by
  have ln : line = 16777216 := rfl
  let s1 := S.new (.dt [])
  let s2 := s1.new (.dt [([.inr "keep"], .non)])
  have f1 : Fr No S s1 := Fr.new
  have f2 : Fr No S s2 := Fr.new.trans Fr.new
  have gs1 : s1.get st = some (.lst (ss.map enc)) := Hs.get_old gs
  have gb2 := f2.at_ _ _ id gb
  have e1 : tupleF [.ref st] s1 = .ok (.tup (ss.map enc)) s1 := by
    unfold tupleF
    simp only [listOf_get gs1]
  have e2 : addD (.tup (ss.map enc)) (.tup [.tup [.str "keep"]]) s1 = .ok (.tup (ss.map enc ++ [.tup [.str "keep"]])) s1 := by
    show (if (ss.map enc).length + 1 ≤ line then Res.ok (D.tup (ss.map enc ++ [.tup [.str "keep"]])) s1 else .bad) = _
    rw [if_pos (by simp; omega)]
  have e : lA7 (LE f p w o3 (some (.ref b)) (some (.ref st)) o6 o7 o8) S = .ok [.non, .int 5, .bl true, .str "keep", .ref S.n, .tup [], .tup (ss.map enc ++ [.tup [.str "keep"]]), .ref (S.n + 1)] s2 := by
    have a : mOp2 addD (mCall tupleF (mCons (mV 5) (mNil))) (mTup (mCons (mTup (mCons (mC (.str "keep")) (mNil))) (mNil))) (LE f p w o3 (some (.ref b)) (some (.ref st)) o6 o7 o8) s1 = .ok (.tup (ss.map enc ++ [.tup [.str "keep"]])) s1 := by
      rw [K80D.op2 (x := .tup (ss.map enc)) (y := .tup [.tup [.str "keep"]]) (S1 := s1) (S2 := s1) ?_ rfl, e2]
      rw [K80D.call1 (d := .ref st) (S1 := s1) rfl, e1]
    unfold lA7
    refine K80D.consE (S1 := S) rfl (K80D.consE (S1 := S) rfl (K80D.consE (S1 := S) rfl (K80D.consE (S1 := S) rfl (K80D.consE (S1 := s1) rfl (K80D.consE (S1 := s1) rfl (K80D.consE (S1 := s1) a (K80D.consE (S1 := s2) rfl rfl)))))))
  rw [e]
  refine ⟨rfl, f2, fun x hx => ?_⟩
  have el : ∀ {k : Nat} {x : D}, El No s2 k x → k ≤ 7 → RJ s2 b x := fun h hk => rj_el h hk gb2 hb hbl
  simp only [List.mem_cons, List.not_mem_nil, or_false] at hx
  rcases hx with rfl | rfl | rfl | rfl | rfl | rfl | rfl | rfl
  · exact el (k := 0) ⟨_, .non, fun ps e => by cases e⟩ (by omega)
  · exact el (k := 0) ⟨_, .int 5, fun ps e => by cases e⟩ (by omega)
  · exact el (k := 0) ⟨_, .bl true, fun ps e => by cases e⟩ (by omega)
  · exact el (k := 0) (el_str (lits "keep" (by simp))) (by omega)
  · exact rj_dict (.inl rfl) (show s2.get S.n = some (.dt []) from Hs.get_old (Hs.get_new S _)) gb2 hb hbl
  · exact el (k := 1) (el_tup (k := 0) (by simp) fun x hx => by cases hx) (by omega)
  · exact el (k := 3) (el_ss hss hsl) (by omega)
  · exact rj_dict (.inr rfl) (show s2.get (S.n + 1) = some (.dt [([.inr "keep"], .non)]) from Hs.get_new s1 _) gb2 hb hbl
theorem turn_ok (P : Pu S p c0) (hc : c0 < 400000) (gw : S.get w = some (.lst (wds ws))) (hwp : w ≠ p) (h0 : 0 < ws.length) (h1 : ws.length < 1000) (hws : ∀ v ∈ ws, speltB v = true) :
    Wp (fun e s => (∃ o4 o5 o6 o7 o8, e = LE f p w o3 o4 o5 o6 o7 o8) ∧ Fr (· = p) S s ∧ Pu s p (c0 + 600)) (fun _ _ => False) (lw3 (LE f p w o3 o4 o5 o6 o7 o8) S) := by
  have ln : line = 16777216 := rfl
  unfold lw3
  rw [Wp_seq, Wp_set]
  refine (book_ok P (by omega) gw hwp h0 h1 hws).mono fun x s1 ⟨b, bs, hx, hbn, gb, hb, hbl, fr1, P1⟩ => ?_
  subst hx
  simp only [List.set_cons_succ, List.set_cons_zero]
  have hp := P.lt
  have gw1 := fr1.at_ _ _ hwp gw
  have hbf : ∀ v ∈ bs, fit v := fun v hv => fit_spelt (hb v hv)
  unfold lw4
  rw [Wp_seq, Wp_set]
  simp only [o_own, o_cons, o_nil, o_v, List.getElem?_cons_zero, List.getElem?_cons_succ, noX_ref, true_and, List.append_nil]
  refine (drawn_ok P1 (by omega) gw1 hwp h0 h1 hws gb hbf (by omega) (by omega)).mono fun x s2 ⟨st, ss, hx, hsn, gs, hss, hsl, fr2, P2⟩ => ?_
  subst hx
  simp only [List.set_cons_succ, List.set_cons_zero]
  have gw2 := fr2.at_ _ _ hwp gw1
  have hbp : b ≠ p := by omega
  have n1 := fr1.n
  have n2 := fr2.n
  have gb2 := fr2.at_ _ _ hbp gb
  have hp1 := P1.lt
  have hsp : st ≠ p := by omega
  have hsl' : ss.length ≤ 100 := by omega
  unfold lw5
  rw [Wp_seq]
  -- the bent lists
  have g2n : (s2.new (.lst [.ref st])).get s2.n = some (.lst [.ref st]) := Hs.get_new _ _
  have B2 : Bn p w b st ws bs ss (s2.new (.lst [.ref st])) := ⟨Nat.lt_of_lt_of_le P2.lt (Nat.le_succ _), Hs.get_old gw2, Hs.get_old gb2, Hs.get_old gs⟩
  have bent := bent_ok (c0 := c0 + 28 + 24 * ((bs.length : Int) + 1)) B2 (P2.fr (Fr.new (q := No)) id) (by omega) hwp hbp hsp h0 hws hbf (by omega) hss hsl'
  obtain ⟨x, s3, e3, fd, ls, hx, gf, hfn, hfl, hfe, fr3, P3⟩ := bent.eq
  subst hx
  have hp2 := P2.lt
  have g3 := fr3.at_ _ _ (show ¬ s2.n = p by omega) g2n
  have a3 := add_lst g3 gf (show [D.ref st].length + ls.length ≤ line by simp; omega)
  have e4 : (mOp2 addD (mLst (mCons (mV 5) (mNil))) (mOwn (pur F__law_bent) [] (mCons (mV 1) (mCons (mV 2) (mCons (mV 4) (mCons (mV 5) (mNil))))))) (LE f p w o3 (some (.ref b)) (some (.ref st)) o6 o7 o8) s2 = .ok (.ref s3.n) (s3.new (.lst ([.ref st] ++ ls))) := by
    rw [K80D.op2 (x := .ref s2.n) (y := .ref fd) (S1 := s2.new (.lst [.ref st])) (S2 := s3) rfl ?_, a3]
    exact e3
  obtain ⟨T, hT⟩ : ∃ T, T = s3.new (.lst ([.ref st] ++ ls)) := ⟨_, rfl⟩
  rw [← hT] at e4
  have gT : T.get s3.n = some (.lst ([.ref st] ++ ls)) := by
    rw [hT]
    exact Hs.get_new _ _
  have fT3 : Fr No s3 T := by
    rw [hT]
    exact Fr.new
  have fT : Fr (· = p) s2 T := (Fr.trans Fr.new fr3).trans fT3.any
  have PT := P3.fr fT3 id
  have gsT := fT.at_ _ _ hsp gs
  have gbT := fT.at_ _ _ hbp gb2
  have e5 : li6 (LE f p w o3 (some (.ref b)) (some (.ref st)) o6 o7 o8) s2 = .ok (.lst s3.n) T := by
    unfold li6 mIter
    rw [e4]
    show (match MR.listOf T s3.n with
      | some _ => Res.ok (DI.lst s3.n) T
      | none => .bad) = _
    rw [listOf_get gT]
  have hall : ∀ x ∈ [D.ref st] ++ ls, RJ T b x := fun x hx => by
    rcases List.mem_append.mp hx with hx | hx
    · rw [List.mem_singleton.mp hx]
      exact rj_el (q := No) (k := 2) (el_encs (k := 0) gsT id (by omega) hss) (by omega) gbT hb (by omega)
    · exact rj_el ((hfe x hx).fr fT3.any) (by omega) gbT hb (by omega)
  refine w_for ([D.ref st] ++ ls) (fun _ _ e s => (∃ o6, e = LE f p w o3 (some (.ref b)) (some (.ref st)) o6 o7 o8) ∧ Fr No T s) ?_
  rw [e5]
  refine ⟨(itm_lst (q := No) gT id).size, ⟨⟨_, rfl⟩, Fr.refl⟩, fun i e s d I hd => ?_, fun e s ⟨⟨o6, he⟩, fr⟩ => ⟨((itm_lst (q := No) gT id).next _ s fr).trans (by rw [List.getElem?_eq_none (Nat.le_refl _)]), ?_⟩⟩
  · obtain ⟨h2, us, h3, h4⟩ := jud6 gT hall i e s d I hd
    exact ⟨h2, us, h3, h4.mono (fun _ _ z => z) fun _ _ z => z.elim⟩
  · subst he
    -- the odd ones
    obtain ⟨xs, s5, e6, hxl, fr5, hxs⟩ := (odd7_ok (f := f) (p := p) (w := w) (o3 := o3) (o6 := o6) (o7 := o7) (o8 := o8) (fr.at_ _ _ id gsT) hss hsl' (fr.at_ _ _ id gbT) hb (by omega)).eq
    have e7 : li7 (LE f p w o3 (some (.ref b)) (some (.ref st)) o6 o7 o8) s = .ok (.lst s5.n) (s5.new (.lst xs)) := by
      unfold li7 mIter mLst
      rw [e6]
      show (if xs.length ≤ line then Res.ok (D.ref s5.n) (s5.new (.lst xs)) else .bad).bind _ = _
      rw [if_pos (by omega)]
      show (match MR.listOf (s5.new (.lst xs)) s5.n with
        | some _ => Res.ok (DI.lst s5.n) (s5.new (.lst xs))
        | none => .bad) = _
      rw [listOf_get (Hs.get_new _ _)]
    have g7 : (s5.new (.lst xs)).get s5.n = some (.lst xs) := Hs.get_new _ _
    refine w_for xs (fun _ _ e s' => (∃ o7, e = LE f p w o3 (some (.ref b)) (some (.ref st)) o6 o7 o8) ∧ Fr No (s5.new (.lst xs)) s') ?_
    rw [e7]
    refine ⟨(itm_lst (q := No) g7 id).size, ⟨⟨_, rfl⟩, Fr.refl⟩, fun i e s d I hd => ?_, fun e s' ⟨⟨o7, he⟩, fr6⟩ => ⟨((itm_lst (q := No) g7 id).next _ s' fr6).trans (by rw [List.getElem?_eq_none (Nat.le_refl _)]), ?_⟩⟩
    · obtain ⟨h2, us, h3, h4⟩ := jud7 g7 (fun x hx => (hxs x hx).fr Fr.new) i e s d I hd
      exact ⟨h2, us, h3, h4.mono (fun _ _ z => z) fun _ _ z => z.elim⟩
    · subst he
      have fe : Fr No T s' := fr.trans (fr5.trans (Fr.new.trans fr6))
      exact ⟨⟨_, _, _, _, _, rfl⟩, ((fr1.trans fr2).trans fT).trans fe.any, (PT.fr fe id).le (by omega)⟩
theorem purse_any {o2 : Option D} (P : Pu S p 0) : Wp (fun e s => (∃ o2 o3 o4 o5 o6 o7 o8, e = [some f, some (.ref p), o2, o3, o4, o5, o6, o7, o8]) ∧ Fr (· = p) S s) (fun _ _ => False) (lw1 [some f, some (.ref p), o2, o3, o4, o5, o6, o7, o8] S) := by
  have ln : line = 16777216 := rfl
  unfold lw1
  rw [Wp_seq, Wp_set]
  simp only [o_own, o_cons, o_nil, o_v, o_op2, o_mC, List.getElem?_cons_zero, List.getElem?_cons_succ, noX_ref, true_and, List.append_nil]
  refine (draw_w (m := 4) P (by omega) (by decide) (by decide)).mono fun x s1 ⟨r, hx, hr, fr1, _, P1⟩ => ?_
  subst hx
  obtain ⟨z, hz⟩ : ∃ z : Int, z = ((1 + r : Nat) : Int) := ⟨_, rfl⟩
  have a1 : ∀ s, addD (.int 1) (.int (r : Int)) s = .ok (.int z) s := fun s => by
    rw [hz, Int.natCast_add]
    rfl
  rw [a1, Ok_ok]
  refine (words_ok hz P1 (by omega) (by omega) (by omega)).mono fun x s2 ⟨w, ws, hx, gw, hwn, hwl, hws, fr2, P2⟩ => ?_
  subst hx
  simp only [List.set_cons_succ, List.set_cons_zero]
  have hp1 := P1.lt
  have hwp : w ≠ p := by omega
  unfold lw2
  refine w_for (rngL 0 3) (fun _ i e s => (∃ o3 o4 o5 o6 o7 o8, e = LE f p w o3 o4 o5 o6 o7 o8) ∧ Fr (· = p) s2 s ∧ Pu s p (0 + 4 + 300 + 600 * (i : Int))) (o_range1 ?_)
  simp only [o_cons, o_mC, o_nil]
  refine ⟨by decide, by decide, ?_⟩
  refine ⟨(itm_rng (q := No)).size, ⟨⟨_, _, _, _, _, _, rfl⟩, Fr.refl, P2.le (by omega)⟩, fun i e s d ⟨⟨o3, o4, o5, o6, o7, o8, he⟩, fr, P3⟩ hd => ?_, fun e s ⟨⟨o3, o4, o5, o6, o7, o8, he⟩, fr, P3⟩ => ?_⟩
  · subst he
    have hi := (List.getElem?_eq_some_iff.mp hd).1
    rw [rngL_len] at hi
    refine ⟨((itm_rng (q := No) (S := s)).next i s Fr.refl).trans (congrArg some hd), [(3, d)], rfl, ?_⟩
    exact (turn_ok (f := f) (o3 := some d) (o4 := o4) (o5 := o5) (o6 := o6) (o7 := o7) (o8 := o8) P3 (by omega) (fr.at_ _ _ hwp gw) hwp (by omega) (by omega) hws).mono (fun e' s' ⟨⟨a, b, c, d', g, he⟩, f', P'⟩ => ⟨⟨_, _, _, _, _, _, he⟩, fr.trans f', P'.le (by omega)⟩) fun _ _ z => z.elim
  · subst he
    exact ⟨((itm_rng (q := No) (S := s)).next _ s Fr.refl).trans (by rfl), ⟨_, _, _, _, _, _, _, rfl⟩, (fr1.trans fr2).trans fr⟩
end
theorem law_true (ns : List Int) : ∃ S', F_law [.fz (ns.map D.int)] S0 = .ok (.bl true) S' := by
  obtain ⟨k, S, hk, hp, M⟩ := K80D.purses_ok ns
  have e : lw0 [some (.fz (ns.map D.int)), none, none, none, none, none, none, none, none] S0 = .ok (.lst 0) S := by
    unfold lw0 mIter
    have e1 : (mOwn (pur F__law_purses) [] (mCons (mV 0) (mCons (mC (.int 3)) (mNil)))) [some (.fz (ns.map D.int)), none, none, none, none, none, none, none, none] S0 = .ok (.ref 0) S := by
      rw [K80D.own2 (d1 := .fz (ns.map D.int)) (d2 := .int 3) rfl rfl]
      exact hp
    rw [e1]
    show (match MR.listOf S 0 with
      | some _ => Res.ok (DI.lst 0) S
      | none => .bad) = _
    rw [listOf_get M.l]
  have main : Ok (fun x _ => x = .bl true) (F_law [.fz (ns.map D.int)] S0) := by
    refine o_run rfl ?_
    show Wp _ _ (FB_law [some (.fz (ns.map D.int)), none, none, none, none, none, none, none, none] S0)
    rw [lw_eq, Wp_seq]
    refine w_for (K80D.refs k) (fun _ i e s => (∃ o1 o2 o3 o4 o5 o6 o7 o8, e = [some (.fz (ns.map D.int)), o1, o2, o3, o4, o5, o6, o7, o8]) ∧ s.get 0 = some (.lst (K80D.refs k)) ∧ ∀ j, i ≤ j → j < k → Pu s (j + 1) 0) ?_
    rw [e]
    have hlen : (K80D.refs k).length = k := by simp [K80D.refs]
    have hn : ∀ i s, s.get 0 = some (.lst (K80D.refs k)) → (DI.lst 0).next i s = some (K80D.refs k)[i]? := fun i s g => (itm_lst (q := No) g id).next i s Fr.refl
    refine ⟨(itm_lst (q := No) M.l id).size, ⟨⟨_, _, _, _, _, _, _, _, rfl⟩, M.l, fun j _ hj => M.p j hj⟩, fun i e s d ⟨⟨o1, o2, o3, o4, o5, o6, o7, o8, he⟩, g, hP⟩ hd => ?_, fun e s ⟨⟨o1, o2, o3, o4, o5, o6, o7, o8, he⟩, g, hP⟩ => ?_⟩
    · subst he
      have hi := (List.getElem?_eq_some_iff.mp hd).1
      rw [hlen] at hi
      refine ⟨(hn i s g).trans (congrArg some hd), [(1, d)], rfl, ?_⟩
      unfold K80D.refs at hd
      rw [List.getElem?_map, List.getElem?_range hi] at hd
      cases hd
      have P := hP i (Nat.le_refl _) hi
      exact (purse_any (f := .fz (ns.map D.int)) (o2 := o2) (o3 := o3) (o4 := o4) (o5 := o5) (o6 := o6) (o7 := o7) (o8 := o8) P).mono (fun e' s' ⟨⟨a2, a3, a4, a5, a6, a7, a8, he⟩, f⟩ => ⟨⟨_, _, _, _, _, _, _, _, he⟩, f.at_ _ _ (by omega) g, fun j h1 h2 => K80D.Pu.fr (hP j (by omega) h2) f (by omega)⟩) fun _ _ z => z.elim
    · subst he
      exact ⟨(hn _ s g).trans (by rw [List.getElem?_eq_none (Nat.le_refl _)]), rfl⟩
  obtain ⟨x, S', e, rfl⟩ := main.eq
  exact ⟨S', e⟩
end K80

/-! QW: k80: the law's promise; small words for the end. -/
namespace K80
open PySem PySem.Spec L2 MR PyProof.Rows
def spLaw (K : PySem.W.Frag) : Sp := fun vs H Q _ => ∃ (a : Addr) (ns : List Int), vs = [.ref a] ∧ Fz K H a (ns.map V.int) ∧ ∀ H', Q (.bl true) H'
theorem fz_of {K : PySem.W.Frag} {H : Hp} {a : Addr} {vs : List V} (hO : Only H) (hS : SqL K H a vs) : Fz K H a vs := by
  rcases hS with (h | h) | h
  · rcases hO a with e | ⟨o, xs, e⟩
    · rw [h] at e; cases e
    · rw [h] at e; cases e
  · exact .inl h
  · exact .inr h
theorem spLaw_spM {w : World} {K : PySem.W.Frag} {ca : Str → Addr} {vs : List V} {H : Hp} {Q : VK} {E : XK} (h : spLaw K vs H Q E) : spM (Tt w K ca) F_law vs H Q E := by
  obtain ⟨a, ns, rfl, hF, k⟩ := h
  obtain ⟨S', e⟩ := law_true ns
  refine ⟨[], S0, [.fz (ns.map D.int)], RS.start, .cons (.fz (vs := ns.map V.int) hF (by rw [List.length_map, List.length_map]) fun i d v h1 h2 => ?_) .nil, ?_⟩
  · rw [List.getElem?_map] at h1 h2
    cases e1 : ns[i]? with
    | none => rw [e1] at h1; cases h1
    | some z =>
      rw [e1] at h1 h2
      cases h1
      cases h2
      exact .int z
  · rw [e]
    intro φ' H' v u R r
    cases r
    exact k H'
theorem mem_kn {c : Str} (h : c ∈ kn) : c = "InvalidMending" ∨ c = "InvalidBook" := by
  simpa [kn] using h
theorem mem_cl {c : Str} (h : c ∈ cl) : c = "PurseError" ∨ c = "InvalidBook" ∨ c = "InvalidMending" := by
  simpa [cl] using h
/-- an error of the class at S is what «except S» names -/
theorem exm_self {K : PySem.W.Frag} {S : Addr} (h1 : PySem.W.subIn K (.ref S) (.type "BaseException") = some true) (h2 : PySem.W.isClsIn K S = true) (h3 : PySem.W.typeIn K (.ref S) = some (.type "type")) (h4 : PySem.W.mroIn K S (.ref S) = some true) :
    PySem.W.exmOne K (.ref S) (.ref S) = some true := by
  have e1 : (PySem.W.subIn K (.ref S) (.type "BaseException") == some true) = true := by rw [h1] <;> rfl
  have e2 : ((PySem.W.clsIn K S).isSome && PySem.W.typeIn K (.ref S) == some (.type "type")) = true := by
    have h2' : (PySem.W.clsIn K S).isSome = true := h2
    rw [h2', h3] <;> rfl
  show (if (PySem.W.subIn K (.ref S) (.type "BaseException") == some true) = true then (if ((PySem.W.clsIn K S).isSome && PySem.W.typeIn K (.ref S) == some (.type "type")) = true then PySem.W.subIn K (.ref S) (.ref S) else none) else none) = some true
  rw [if_pos e1, if_pos e2]
  exact h4
theorem kit_ref {K : PySem.W.Frag} {C X : Addr} {b : Bool} (hm : PySem.W.mroIn K C (.ref C) = some true) (hi : PySem.W.isClsIn K X = true) (ht : PySem.W.typeIn K (.ref X) = some (.type "type")) (hs : PySem.W.subIn K (.ref C) (.ref X) = some b) : PySem.W.kitOne K (.ref C) (.ref X) = some b := by
  unfold PySem.W.kitOne
  by_cases h : C = X
  · subst h
    have hs' : PySem.W.mroIn K C (.ref C) = some b := hs
    rw [hm] at hs'
    cases hs'
    rw [if_pos (by simp)]
  · rw [if_neg (by intro q; exact h (Value.ref.inj (beq_iff_eq.mp q)))]
    have e2 : ((PySem.W.clsIn K X).isSome && PySem.W.typeIn K (.ref X) == some (.type "type")) = true := by
      have h2' : (PySem.W.clsIn K X).isSome = true := hi
      rw [h2', ht] <;> rfl
    show (if ((PySem.W.clsIn K X).isSome && PySem.W.typeIn K (.ref X) == some (.type "type")) = true then PySem.W.subIn K (.ref C) (.ref X) else none) = _
    rw [if_pos e2]
    exact hs
/-- what stands behind a class in its line, by the class behind it -/
theorem along_of {K : PySem.W.Frag} {C CP : Addr} {nm q : Str} {N : Addr} {bs bm : List Value} {hdct : Bool} {sn : List Str} {sub : List Value} {ab : Bool} {col : Option Bool} {dd : Option Addr} {m0 m1 m2 m3 m5 : Option Value} {newId : String} {v : Option Value}
    (x : K.lookup CP = some (excClassObj nm q CP N bs bm hdct sn sub ab col dd m0 m1 m2 m3 m5 newId)) (h : PySem.W.findIn K (.ref CP) "__init__" = some v) :
    PySem.W.alongIn K "__init__" (((Value.ref C :: .ref CP :: bm).dropWhile (· != .ref C)).drop 1) = some v := by
  have e : ((Value.ref C :: .ref CP :: bm).dropWhile (· != .ref C)).drop 1 = .ref CP :: bm := by
    rw [List.dropWhile_cons_of_neg (by simp)]
    rfl
  rw [e]
  have h' := h
  unfold PySem.W.findIn at h'
  simp only [x] at h'
  exact h'
end K80

namespace K80
open PySem PySem.Spec L2 MR
open PyProof.Rows (envOfC)
section
variable {P : Program} {w : World} {K : PySem.W.Frag} {mg : Str → Option Value} {base : Heap}
def caOf (C0 C1 C2 : Addr) : Str → Addr := fun x => if x = "PurseError" then C0 else if x = "InvalidBook" then C1 else C2
theorem ca_PurseError {C0 C1 C2 : Addr} : caOf C0 C1 C2 "PurseError" = C0 := if_pos rfl
theorem ca_InvalidBook {C0 C1 C2 : Addr} : caOf C0 C1 C2 "InvalidBook" = C1 := (if_neg (by decide +kernel)).trans (if_pos rfl)
theorem ca_InvalidMending {C0 C1 C2 : Addr} : caOf C0 C1 C2 "InvalidMending" = C2 := (if_neg (by decide +kernel)).trans ((if_neg (by decide +kernel)).trans (rfl))
theorem all_mk {h : Heap} {fa : Addr} (X : K.In h) (G : h.Ns mainGlobals mg) (hfa : mg "law" = some (.ref fa))
    {C0 C1 C2 : Addr}
    {nmPurseError qPurseError : Str} {NPurseError : Addr} {bsPurseError subPurseError : List Value} {snPurseError : List Str} {abPurseError : Bool} {colPurseError : Option Bool} {ddPurseError : Option Addr} {m0PurseError m1PurseError m2PurseError m3PurseError m5PurseError : Option Value}
    {nmInvalidBook qInvalidBook : Str} {NInvalidBook : Addr} {bsInvalidBook subInvalidBook : List Value} {snInvalidBook : List Str} {abInvalidBook : Bool} {colInvalidBook : Option Bool} {ddInvalidBook : Option Addr} {m0InvalidBook m1InvalidBook m2InvalidBook m3InvalidBook m5InvalidBook : Option Value}
    {fInvalidBook DVInvalidBook cdaInvalidBook ccInvalidBook : Addr} {ocInvalidBook kVInvalidBook dcInvalidBook pmInvalidBook ctInvalidBook uInvalidBook ocDInvalidBook clInvalidBook cclInvalidBook : Value} {odInvalidBook anInvalidBook odDInvalidBook cldInvalidBook cddInvalidBook : Option Addr} {slInvalidBook slDInvalidBook cslInvalidBook ccsInvalidBook : Array (Option Value)} {nDInvalidBook : Nat} {vsInvalidBook : Array Value} {flInvalidBook : Str} {tfInvalidBook : Tok}
    {nmInvalidMending qInvalidMending : Str} {NInvalidMending : Addr} {bsInvalidMending subInvalidMending : List Value} {snInvalidMending : List Str} {abInvalidMending : Bool} {colInvalidMending : Option Bool} {ddInvalidMending : Option Addr} {m0InvalidMending m1InvalidMending m2InvalidMending m3InvalidMending m5InvalidMending : Option Value}
    {fInvalidMending DVInvalidMending cdaInvalidMending ccInvalidMending : Addr} {ocInvalidMending kVInvalidMending dcInvalidMending pmInvalidMending ctInvalidMending uInvalidMending ocDInvalidMending clInvalidMending cclInvalidMending : Value} {odInvalidMending anInvalidMending odDInvalidMending cldInvalidMending cddInvalidMending : Option Addr} {slInvalidMending slDInvalidMending cslInvalidMending ccsInvalidMending : Array (Option Value)} {nDInvalidMending : Nat} {vsInvalidMending : Array Value} {flInvalidMending : Str} {tfInvalidMending : Tok}
    {tLETTERS : Tok}
    {qKEEP : Addr} {odKEEP : Option Addr} {nKEEP : Nat} {slKEEP : Array (Option Value)} {tKEEP0 : Tok}
    {qLEAVE : Addr} {odLEAVE : Option Addr} {nLEAVE : Nat} {slLEAVE : Array (Option Value)} {tLEAVE0 : Tok}
    {f0 : Addr} {od0 an0 : Option Addr} {sl0 : Array (Option Value)} {oc0 kV0 dc0 pm0 cd0 ct0 : Value}
    {f1 : Addr} {od1 an1 : Option Addr} {sl1 : Array (Option Value)} {oc1 kV1 dc1 pm1 cd1 ct1 : Value}
    {f2 : Addr} {od2 an2 : Option Addr} {sl2 : Array (Option Value)} {oc2 kV2 dc2 pm2 cd2 ct2 : Value}
    {f3 : Addr} {od3 an3 : Option Addr} {sl3 : Array (Option Value)} {oc3 kV3 dc3 pm3 cd3 ct3 : Value}
    {f4 : Addr} {od4 an4 : Option Addr} {sl4 : Array (Option Value)} {oc4 kV4 dc4 pm4 cd4 ct4 : Value}
    {f5 : Addr} {od5 an5 : Option Addr} {sl5 : Array (Option Value)} {oc5 kV5 dc5 pm5 cd5 ct5 : Value}
    {f6 : Addr} {od6 an6 : Option Addr} {sl6 : Array (Option Value)} {oc6 kV6 dc6 pm6 cd6 ct6 : Value}
    {f7 : Addr} {od7 an7 : Option Addr} {sl7 : Array (Option Value)} {oc7 kV7 dc7 pm7 cd7 ct7 : Value}
    {f8 : Addr} {od8 an8 : Option Addr} {sl8 : Array (Option Value)} {oc8 kV8 dc8 pm8 cd8 ct8 : Value}
    {f9 : Addr} {od9 an9 : Option Addr} {sl9 : Array (Option Value)} {oc9 kV9 dc9 pm9 cd9 ct9 : Value}
    {f10 : Addr} {od10 an10 : Option Addr} {sl10 : Array (Option Value)} {oc10 kV10 dc10 pm10 cd10 ct10 : Value}
    {f11 : Addr} {od11 an11 : Option Addr} {sl11 : Array (Option Value)} {oc11 kV11 dc11 pm11 cd11 ct11 : Value}
    {f12 : Addr} {od12 an12 : Option Addr} {sl12 : Array (Option Value)} {oc12 kV12 dc12 pm12 cd12 ct12 : Value}
    {f13 : Addr} {od13 an13 : Option Addr} {sl13 : Array (Option Value)} {oc13 kV13 dc13 pm13 cd13 ct13 : Value}
    {f14 : Addr} {od14 an14 : Option Addr} {sl14 : Array (Option Value)} {oc14 kV14 dc14 pm14 cd14 ct14 : Value}
    {f15 : Addr} {od15 an15 : Option Addr} {sl15 : Array (Option Value)} {oc15 kV15 dc15 pm15 cd15 ct15 : Value}
    {f16 : Addr} {od16 an16 : Option Addr} {sl16 : Array (Option Value)} {oc16 kV16 dc16 pm16 cd16 ct16 : Value}
    {f17 : Addr} {od17 an17 : Option Addr} {sl17 : Array (Option Value)} {oc17 kV17 dc17 pm17 cd17 ct17 : Value}
    {f18 : Addr} {od18 an18 : Option Addr} {sl18 : Array (Option Value)} {oc18 kV18 dc18 pm18 cd18 ct18 : Value}
    {f19 : Addr} {od19 an19 : Option Addr} {sl19 : Array (Option Value)} {oc19 kV19 dc19 pm19 cd19 ct19 : Value}
    {f20 : Addr} {od20 an20 : Option Addr} {sl20 : Array (Option Value)} {oc20 kV20 dc20 pm20 cd20 ct20 : Value}
    {f21 : Addr} {od21 an21 : Option Addr} {sl21 : Array (Option Value)} {oc21 kV21 dc21 pm21 cd21 ct21 : Value}
    {f22 : Addr} {od22 an22 : Option Addr} {sl22 : Array (Option Value)} {oc22 kV22 dc22 pm22 cd22 ct22 : Value}
    {f23 : Addr} {od23 an23 : Option Addr} {sl23 : Array (Option Value)} {oc23 kV23 dc23 pm23 cd23 ct23 : Value}
    (nb_all : PySem.W.nsIn K mainGlobals "all" = some none)
    (nb_bool : PySem.W.nsIn K mainGlobals "bool" = some none)
    (nb_dict : PySem.W.nsIn K mainGlobals "dict" = some none)
    (nb_int : PySem.W.nsIn K mainGlobals "int" = some none)
    (nb_isinstance : PySem.W.nsIn K mainGlobals "isinstance" = some none)
    (nb_len : PySem.W.nsIn K mainGlobals "len" = some none)
    (nb_list : PySem.W.nsIn K mainGlobals "list" = some none)
    (nb_max : PySem.W.nsIn K mainGlobals "max" = some none)
    (nb_min : PySem.W.nsIn K mainGlobals "min" = some none)
    (nb_range : PySem.W.nsIn K mainGlobals "range" = some none)
    (nb_str : PySem.W.nsIn K mainGlobals "str" = some none)
    (nb_sum : PySem.W.nsIn K mainGlobals "sum" = some none)
    (nb_tuple : PySem.W.nsIn K mainGlobals "tuple" = some none)
    (nb_zip : PySem.W.nsIn K mainGlobals "zip" = some none)
    (ac_PurseError : PySem.W.nsIn K mainGlobals "PurseError" = some (some (.ref C0)))
    (ac_InvalidBook : PySem.W.nsIn K mainGlobals "InvalidBook" = some (some (.ref C1)))
    (ac_InvalidMending : PySem.W.nsIn K mainGlobals "InvalidMending" = some (some (.ref C2)))
    (nb_super : PySem.W.nsIn K mainGlobals "super" = some none)
    (opq : PySem.W.nsIn K PySem.cStatics "thirdparty.any" = some none)
    (hn : PySem.W.specialIn K (.builtin "object.__class__") "__get__" = some (some (.builtin "getset_descriptor.__get__")))
    (ht : PySem.W.takesIn K (.builtin "object.__class__") = some true)
    (htop : (P.main.scope.names.lookup ("super" : Str)).isSome = false)
    (x_PurseError : K.lookup C0 = some (excClassObj nmPurseError qPurseError C0 NPurseError bsPurseError [.type "ValueError", .type "Exception", .type "BaseException", .type "object"] true snPurseError subPurseError abPurseError colPurseError ddPurseError m0PurseError m1PurseError m2PurseError m3PurseError m5PurseError "ValueError.__new__"))
    (ii_PurseError : PySem.W.findIn K (.ref C0) "__init__" = some (some (.builtin "ValueError.__init__")))
    (ic_PurseError : PySem.W.isClsIn K C0 = true)
    (tc_PurseError : PySem.W.typeIn K (.ref C0) = some (.type "type"))
    (be_PurseError : PySem.W.subIn K (.ref C0) (.type "BaseException") = some true)
    (hd_PurseError : PySem.W.hasDictIn K C0 = true)
    (mc_PurseError : PySem.W.mroIn K C0 (.ref C0) = some true)
    (ic_InvalidBook : PySem.W.isClsIn K C1 = true)
    (tc_InvalidBook : PySem.W.typeIn K (.ref C1) = some (.type "type"))
    (be_InvalidBook : PySem.W.subIn K (.ref C1) (.type "BaseException") = some true)
    (hd_InvalidBook : PySem.W.hasDictIn K C1 = true)
    (mc_InvalidBook : PySem.W.mroIn K C1 (.ref C1) = some true)
    (ic_InvalidMending : PySem.W.isClsIn K C2 = true)
    (tc_InvalidMending : PySem.W.typeIn K (.ref C2) = some (.type "type"))
    (be_InvalidMending : PySem.W.subIn K (.ref C2) (.type "BaseException") = some true)
    (hd_InvalidMending : PySem.W.hasDictIn K C2 = true)
    (mc_InvalidMending : PySem.W.mroIn K C2 (.ref C2) = some true)
    (s_InvalidMending_PurseError : PySem.W.subIn K (.ref C2) (.ref C0) = some true)
    (s_InvalidMending_InvalidBook : PySem.W.subIn K (.ref C2) (.ref C1) = some false)
    (s_InvalidMending_InvalidMending : PySem.W.subIn K (.ref C2) (.ref C2) = some true)
    (cl_InvalidMending : PySem.W.findIn K (.ref C2) "__class__" = some (some (.builtin "object.__class__")))
    (ob_InvalidMending : PySem.W.mroIn K C2 (.type "object") = some true)
    (ga_InvalidMending : PySem.W.findIn K (.ref C2) "__getattribute__" = some (some (.builtin "BaseException.__getattribute__")))
    (gg_InvalidMending : PySem.W.findIn K (.ref C2) "__getattr__" = some none)
    (nv_InvalidMending : PySem.W.findIn K (.ref C2) "value" = some none)
    (s_InvalidBook_PurseError : PySem.W.subIn K (.ref C1) (.ref C0) = some true)
    (s_InvalidBook_InvalidBook : PySem.W.subIn K (.ref C1) (.ref C1) = some true)
    (s_InvalidBook_InvalidMending : PySem.W.subIn K (.ref C1) (.ref C2) = some false)
    (cl_InvalidBook : PySem.W.findIn K (.ref C1) "__class__" = some (some (.builtin "object.__class__")))
    (ob_InvalidBook : PySem.W.mroIn K C1 (.type "object") = some true)
    (ga_InvalidBook : PySem.W.findIn K (.ref C1) "__getattribute__" = some (some (.builtin "BaseException.__getattribute__")))
    (gg_InvalidBook : PySem.W.findIn K (.ref C1) "__getattr__" = some none)
    (nv_InvalidBook : PySem.W.findIn K (.ref C1) "value" = some none)
    (x_InvalidBook : K.lookup C1 = some (excClassObj nmInvalidBook qInvalidBook C1 NInvalidBook bsInvalidBook [.ref C0, .type "ValueError", .type "Exception", .type "BaseException", .type "object"] true snInvalidBook subInvalidBook abInvalidBook colInvalidBook ddInvalidBook m0InvalidBook m1InvalidBook m2InvalidBook m3InvalidBook m5InvalidBook "ValueError.__new__"))
    (sa_InvalidBook : PySem.W.findIn K (.ref C1) "__setattr__" = some (some (.builtin "object.__setattr__")))
    (a1_InvalidBook : PySem.W.findIn K (.ref C1) "__init__" = some (some (.ref fInvalidBook)))
    (t1_InvalidBook : PySem.W.typeIn K (.ref fInvalidBook) = some (.type "function"))
    (l1_InvalidBook : K.lookup fInvalidBook = some ⟨ocInvalidBook, odInvalidBook, .func (PySem.W.ksFn "__init__" "InvalidBook.__init__" (PySem.ErX.iA ⟨6, 17, 6, 21⟩ ⟨6, 23, 6, 28⟩ ⟨6, 29, 6, 33⟩) (PySem.ErX.iB ⟨7, 8, 7, 13⟩ ⟨7, 8, 7, 15⟩ ⟨7, 8, 7, 24⟩ ⟨7, 8, 7, 26⟩ ⟨7, 8, 7, 26⟩ ⟨8, 8, 8, 12⟩ ⟨8, 8, 8, 18⟩ ⟨8, 21, 8, 26⟩ ⟨8, 8, 8, 26⟩) PySem.ErX.iS (.ref DVInvalidBook) kVInvalidBook dcInvalidBook pmInvalidBook anInvalidBook (.ref cdaInvalidBook) ctInvalidBook ccInvalidBook), slInvalidBook⟩)
    (c1_InvalidBook : PySem.W.codeIn K (.ref cdaInvalidBook) "InvalidBook.__init__" = true)
    (lD_InvalidBook : K.lookup DVInvalidBook = some ⟨ocDInvalidBook, odDInvalidBook, .seq #[uInvalidBook] nDInvalidBook, slDInvalidBook⟩)
    (lc_InvalidBook : K.lookup ccInvalidBook = some ⟨clInvalidBook, cldInvalidBook, .cell (some (.ref C1)), cslInvalidBook⟩)
    (lk_InvalidBook : K.lookup cdaInvalidBook = some ⟨cclInvalidBook, cddInvalidBook, .fields vsInvalidBook, ccsInvalidBook⟩)
    (vf_InvalidBook : vsInvalidBook[2]? = some (.str flInvalidBook tfInvalidBook))
    (ff_InvalidBook : ((P.main.file : Str) == flInvalidBook) = true)
    (kc_InvalidBook : PySem.W.keepIn K (.ref C1) = true)
    (ve_InvalidBook : PySem.W.subIn K (.ref C1) (.type "ValueError") = some true)
    (x_InvalidMending : K.lookup C2 = some (excClassObj nmInvalidMending qInvalidMending C2 NInvalidMending bsInvalidMending [.ref C0, .type "ValueError", .type "Exception", .type "BaseException", .type "object"] true snInvalidMending subInvalidMending abInvalidMending colInvalidMending ddInvalidMending m0InvalidMending m1InvalidMending m2InvalidMending m3InvalidMending m5InvalidMending "ValueError.__new__"))
    (sa_InvalidMending : PySem.W.findIn K (.ref C2) "__setattr__" = some (some (.builtin "object.__setattr__")))
    (a1_InvalidMending : PySem.W.findIn K (.ref C2) "__init__" = some (some (.ref fInvalidMending)))
    (t1_InvalidMending : PySem.W.typeIn K (.ref fInvalidMending) = some (.type "function"))
    (l1_InvalidMending : K.lookup fInvalidMending = some ⟨ocInvalidMending, odInvalidMending, .func (PySem.W.ksFn "__init__" "InvalidMending.__init__" (PySem.ErX.iA ⟨11, 17, 11, 21⟩ ⟨11, 23, 11, 28⟩ ⟨11, 29, 11, 33⟩) (PySem.ErX.iB ⟨12, 8, 12, 13⟩ ⟨12, 8, 12, 15⟩ ⟨12, 8, 12, 24⟩ ⟨12, 8, 12, 26⟩ ⟨12, 8, 12, 26⟩ ⟨13, 8, 13, 12⟩ ⟨13, 8, 13, 18⟩ ⟨13, 21, 13, 26⟩ ⟨13, 8, 13, 26⟩) PySem.ErX.iS (.ref DVInvalidMending) kVInvalidMending dcInvalidMending pmInvalidMending anInvalidMending (.ref cdaInvalidMending) ctInvalidMending ccInvalidMending), slInvalidMending⟩)
    (c1_InvalidMending : PySem.W.codeIn K (.ref cdaInvalidMending) "InvalidMending.__init__" = true)
    (lD_InvalidMending : K.lookup DVInvalidMending = some ⟨ocDInvalidMending, odDInvalidMending, .seq #[uInvalidMending] nDInvalidMending, slDInvalidMending⟩)
    (lc_InvalidMending : K.lookup ccInvalidMending = some ⟨clInvalidMending, cldInvalidMending, .cell (some (.ref C2)), cslInvalidMending⟩)
    (lk_InvalidMending : K.lookup cdaInvalidMending = some ⟨cclInvalidMending, cddInvalidMending, .fields vsInvalidMending, ccsInvalidMending⟩)
    (vf_InvalidMending : vsInvalidMending[2]? = some (.str flInvalidMending tfInvalidMending))
    (ff_InvalidMending : ((P.main.file : Str) == flInvalidMending) = true)
    (kc_InvalidMending : PySem.W.keepIn K (.ref C2) = true)
    (ve_InvalidMending : PySem.W.subIn K (.ref C2) (.type "ValueError") = some true)
    (k_LETTERS : PySem.W.nsIn K mainGlobals "LETTERS" = some (some (.str "abcdefghijklmnopqrstuvwxyz" tLETTERS)))
    (k_KEEP : PySem.W.nsIn K mainGlobals "KEEP" = some (some (.ref qKEEP)))
    (lk_KEEP : K.lookup qKEEP = some ⟨.type "tuple", odKEEP, .seq #[.str "keep" tKEEP0] nKEEP, slKEEP⟩)
    (k_LEAVE : PySem.W.nsIn K mainGlobals "LEAVE" = some (some (.ref qLEAVE)))
    (lk_LEAVE : K.lookup qLEAVE = some ⟨.type "tuple", odLEAVE, .seq #[.str "leave" tLEAVE0] nLEAVE, slLEAVE⟩)
    (a0 : PySem.W.nsIn K mainGlobals "is_spelt" = some (some (.ref f0)))
    (l0 : K.lookup f0 = some ⟨oc0, od0, .func (PySem.W.fnOf "is_spelt" "is_spelt" (defArgs s_is_spelt) (defBody s_is_spelt) (defScope s_is_spelt) .none kV0 dc0 pm0 an0 cd0 ct0), sl0⟩)
    (c0 : PySem.W.codeIn K cd0 "is_spelt" = true)
    (kp0 : PySem.W.keepIn K (.ref f0) = true)
    (a1 : PySem.W.nsIn K mainGlobals "is_book" = some (some (.ref f1)))
    (l1 : K.lookup f1 = some ⟨oc1, od1, .func (PySem.W.fnOf "is_book" "is_book" (defArgs s_is_book) (defBody s_is_book) (defScope s_is_book) .none kV1 dc1 pm1 an1 cd1 ct1), sl1⟩)
    (c1 : PySem.W.codeIn K cd1 "is_book" = true)
    (kp1 : PySem.W.keepIn K (.ref f1) = true)
    (a2 : PySem.W.nsIn K mainGlobals "check_book" = some (some (.ref f2)))
    (l2 : K.lookup f2 = some ⟨oc2, od2, .func (PySem.W.fnOf "check_book" "check_book" (defArgs s_check_book) (defBody s_check_book) (defScope s_check_book) .none kV2 dc2 pm2 an2 cd2 ct2), sl2⟩)
    (c2 : PySem.W.codeIn K cd2 "check_book" = true)
    (kp2 : PySem.W.keepIn K (.ref f2) = true)
    (a3 : PySem.W.nsIn K mainGlobals "is_step" = some (some (.ref f3)))
    (l3 : K.lookup f3 = some ⟨oc3, od3, .func (PySem.W.fnOf "is_step" "is_step" (defArgs s_is_step) (defBody s_is_step) (defScope s_is_step) .none kV3 dc3 pm3 an3 cd3 ct3), sl3⟩)
    (c3 : PySem.W.codeIn K cd3 "is_step" = true)
    (kp3 : PySem.W.keepIn K (.ref f3) = true)
    (a4 : PySem.W.nsIn K mainGlobals "mended" = some (some (.ref f4)))
    (l4 : K.lookup f4 = some ⟨oc4, od4, .func (PySem.W.fnOf "mended" "mended" (defArgs s_mended) (defBody s_mended) (defScope s_mended) .none kV4 dc4 pm4 an4 cd4 ct4), sl4⟩)
    (c4 : PySem.W.codeIn K cd4 "mended" = true)
    (kp4 : PySem.W.keepIn K (.ref f4) = true)
    (a5 : PySem.W.nsIn K mainGlobals "mended_by" = some (some (.ref f5)))
    (l5 : K.lookup f5 = some ⟨oc5, od5, .func (PySem.W.fnOf "mended_by" "mended_by" (defArgs s_mended_by) (defBody s_mended_by) (defScope s_mended_by) .none kV5 dc5 pm5 an5 cd5 ct5), sl5⟩)
    (c5 : PySem.W.codeIn K cd5 "mended_by" = true)
    (kp5 : PySem.W.keepIn K (.ref f5) = true)
    (a6 : PySem.W.nsIn K mainGlobals "_law_purse" = some (some (.ref f6)))
    (l6 : K.lookup f6 = some ⟨oc6, od6, .func (PySem.W.fnOf "_law_purse" "_law_purse" (defArgs s__law_purse) (defBody s__law_purse) (defScope s__law_purse) .none kV6 dc6 pm6 an6 cd6 ct6), sl6⟩)
    (c6 : PySem.W.codeIn K cd6 "_law_purse" = true)
    (kp6 : PySem.W.keepIn K (.ref f6) = true)
    (a7 : PySem.W.nsIn K mainGlobals "_law_mixed" = some (some (.ref f7)))
    (l7 : K.lookup f7 = some ⟨oc7, od7, .func (PySem.W.fnOf "_law_mixed" "_law_mixed" (defArgs s__law_mixed) (defBody s__law_mixed) (defScope s__law_mixed) .none kV7 dc7 pm7 an7 cd7 ct7), sl7⟩)
    (c7 : PySem.W.codeIn K cd7 "_law_mixed" = true)
    (kp7 : PySem.W.keepIn K (.ref f7) = true)
    (a8 : PySem.W.nsIn K mainGlobals "_law_draw" = some (some (.ref f8)))
    (l8 : K.lookup f8 = some ⟨oc8, od8, .func (PySem.W.fnOf "_law_draw" "_law_draw" (defArgs s__law_draw) (defBody s__law_draw) (defScope s__law_draw) .none kV8 dc8 pm8 an8 cd8 ct8), sl8⟩)
    (c8 : PySem.W.codeIn K cd8 "_law_draw" = true)
    (kp8 : PySem.W.keepIn K (.ref f8) = true)
    (a9 : PySem.W.nsIn K mainGlobals "_law_purses" = some (some (.ref f9)))
    (l9 : K.lookup f9 = some ⟨oc9, od9, .func (PySem.W.fnOf "_law_purses" "_law_purses" (defArgs s__law_purses) (defBody s__law_purses) (defScope s__law_purses) .none kV9 dc9 pm9 an9 cd9 ct9), sl9⟩)
    (c9 : PySem.W.codeIn K cd9 "_law_purses" = true)
    (kp9 : PySem.W.keepIn K (.ref f9) = true)
    (a10 : PySem.W.nsIn K mainGlobals "_law_one_of" = some (some (.ref f10)))
    (l10 : K.lookup f10 = some ⟨oc10, od10, .func (PySem.W.fnOf "_law_one_of" "_law_one_of" (defArgs s__law_one_of) (defBody s__law_one_of) (defScope s__law_one_of) .none kV10 dc10 pm10 an10 cd10 ct10), sl10⟩)
    (c10 : PySem.W.codeIn K cd10 "_law_one_of" = true)
    (kp10 : PySem.W.keepIn K (.ref f10) = true)
    (a11 : PySem.W.nsIn K mainGlobals "_law_same" = some (some (.ref f11)))
    (l11 : K.lookup f11 = some ⟨oc11, od11, .func (PySem.W.fnOf "_law_same" "_law_same" (defArgs s__law_same) (defBody s__law_same) (defScope s__law_same) .none kV11 dc11 pm11 an11 cd11 ct11), sl11⟩)
    (c11 : PySem.W.codeIn K cd11 "_law_same" = true)
    (kp11 : PySem.W.keepIn K (.ref f11) = true)
    (a12 : PySem.W.nsIn K mainGlobals "_law_exact" = some (some (.ref f12)))
    (l12 : K.lookup f12 = some ⟨oc12, od12, .func (PySem.W.fnOf "_law_exact" "_law_exact" (defArgs s__law_exact) (defBody s__law_exact) (defScope s__law_exact) .none kV12 dc12 pm12 an12 cd12 ct12), sl12⟩)
    (c12 : PySem.W.codeIn K cd12 "_law_exact" = true)
    (kp12 : PySem.W.keepIn K (.ref f12) = true)
    (a13 : PySem.W.nsIn K mainGlobals "_law_word" = some (some (.ref f13)))
    (l13 : K.lookup f13 = some ⟨oc13, od13, .func (PySem.W.fnOf "_law_word" "_law_word" (defArgs s__law_word) (defBody s__law_word) (defScope s__law_word) .none kV13 dc13 pm13 an13 cd13 ct13), sl13⟩)
    (c13 : PySem.W.codeIn K cd13 "_law_word" = true)
    (kp13 : PySem.W.keepIn K (.ref f13) = true)
    (a14 : PySem.W.nsIn K mainGlobals "_law_words" = some (some (.ref f14)))
    (l14 : K.lookup f14 = some ⟨oc14, od14, .func (PySem.W.fnOf "_law_words" "_law_words" (defArgs s__law_words) (defBody s__law_words) (defScope s__law_words) .none kV14 dc14 pm14 an14 cd14 ct14), sl14⟩)
    (c14 : PySem.W.codeIn K cd14 "_law_words" = true)
    (kp14 : PySem.W.keepIn K (.ref f14) = true)
    (a15 : PySem.W.nsIn K mainGlobals "_law_is" = some (some (.ref f15)))
    (l15 : K.lookup f15 = some ⟨oc15, od15, .func (PySem.W.fnOf "_law_is" "_law_is" (defArgs s__law_is) (defBody s__law_is) (defScope s__law_is) .none kV15 dc15 pm15 an15 cd15 ct15), sl15⟩)
    (c15 : PySem.W.codeIn K cd15 "_law_is" = true)
    (kp15 : PySem.W.keepIn K (.ref f15) = true)
    (a16 : PySem.W.nsIn K mainGlobals "_law_made" = some (some (.ref f16)))
    (l16 : K.lookup f16 = some ⟨oc16, od16, .func (PySem.W.fnOf "_law_made" "_law_made" (defArgs s__law_made) (defBody s__law_made) (defScope s__law_made) .none kV16 dc16 pm16 an16 cd16 ct16), sl16⟩)
    (c16 : PySem.W.codeIn K cd16 "_law_made" = true)
    (kp16 : PySem.W.keepIn K (.ref f16) = true)
    (a17 : PySem.W.nsIn K mainGlobals "_law_are_steps" = some (some (.ref f17)))
    (l17 : K.lookup f17 = some ⟨oc17, od17, .func (PySem.W.fnOf "_law_are_steps" "_law_are_steps" (defArgs s__law_are_steps) (defBody s__law_are_steps) (defScope s__law_are_steps) .none kV17 dc17 pm17 an17 cd17 ct17), sl17⟩)
    (c17 : PySem.W.codeIn K cd17 "_law_are_steps" = true)
    (kp17 : PySem.W.keepIn K (.ref f17) = true)
    (a18 : PySem.W.nsIn K mainGlobals "_law_drawn_steps" = some (some (.ref f18)))
    (l18 : K.lookup f18 = some ⟨oc18, od18, .func (PySem.W.fnOf "_law_drawn_steps" "_law_drawn_steps" (defArgs s__law_drawn_steps) (defBody s__law_drawn_steps) (defScope s__law_drawn_steps) .none kV18 dc18 pm18 an18 cd18 ct18), sl18⟩)
    (c18 : PySem.W.codeIn K cd18 "_law_drawn_steps" = true)
    (kp18 : PySem.W.keepIn K (.ref f18) = true)
    (a19 : PySem.W.nsIn K mainGlobals "_law_bent" = some (some (.ref f19)))
    (l19 : K.lookup f19 = some ⟨oc19, od19, .func (PySem.W.fnOf "_law_bent" "_law_bent" (defArgs s__law_bent) (defBody s__law_bent) (defScope s__law_bent) .none kV19 dc19 pm19 an19 cd19 ct19), sl19⟩)
    (c19 : PySem.W.codeIn K cd19 "_law_bent" = true)
    (kp19 : PySem.W.keepIn K (.ref f19) = true)
    (a20 : PySem.W.nsIn K mainGlobals "_law_is_word" = some (some (.ref f20)))
    (l20 : K.lookup f20 = some ⟨oc20, od20, .func (PySem.W.fnOf "_law_is_word" "_law_is_word" (defArgs s__law_is_word) (defBody s__law_is_word) (defScope s__law_is_word) .none kV20 dc20 pm20 an20 cd20 ct20), sl20⟩)
    (c20 : PySem.W.codeIn K cd20 "_law_is_word" = true)
    (kp20 : PySem.W.keepIn K (.ref f20) = true)
    (a21 : PySem.W.nsIn K mainGlobals "_law_due" = some (some (.ref f21)))
    (l21 : K.lookup f21 = some ⟨oc21, od21, .func (PySem.W.fnOf "_law_due" "_law_due" (defArgs s__law_due) (defBody s__law_due) (defScope s__law_due) .none kV21 dc21 pm21 an21 cd21 ct21), sl21⟩)
    (c21 : PySem.W.codeIn K cd21 "_law_due" = true)
    (kp21 : PySem.W.keepIn K (.ref f21) = true)
    (a22 : PySem.W.nsIn K mainGlobals "_law_steps_right" = some (some (.ref f22)))
    (l22 : K.lookup f22 = some ⟨oc22, od22, .func (PySem.W.fnOf "_law_steps_right" "_law_steps_right" (defArgs s__law_steps_right) (defBody s__law_steps_right) (defScope s__law_steps_right) .none kV22 dc22 pm22 an22 cd22 ct22), sl22⟩)
    (c22 : PySem.W.codeIn K cd22 "_law_steps_right" = true)
    (kp22 : PySem.W.keepIn K (.ref f22) = true)
    (a23 : PySem.W.nsIn K mainGlobals "law" = some (some (.ref f23)))
    (l23 : K.lookup f23 = some ⟨oc23, od23, .func (PySem.W.fnOf "law" "law" (defArgs s_law) (defBody s_law) (defScope s_law) .none kV23 dc23 pm23 an23 cd23 ct23), sl23⟩)
    (c23 : PySem.W.codeIn K cd23 "law" = true)
    (kp23 : PySem.W.keepIn K (.ref f23) = true) :
    ∃ fd : FuncData, (∀ (s : Shared) (u : Value), BindsTo s fd ⟨[u], []⟩ [("_law_script", u)]) ∧ ∀ base : Heap, K.In base → base.Ns mainGlobals mg → FnOk P w K mg base (L2.CX P w) 12 fa fd ["_law_script"] (spLaw K) := by
  have e := hfa.symm.trans (PySem.W.mg_of X G a23)
  cases e
  let faF : Nat → Addr := fun i => match i with | 0 => f0 | 1 => f1 | 2 => f2 | 3 => f3 | 4 => f4 | 5 => f5 | 6 => f6 | 7 => f7 | 8 => f8 | 9 => f9 | 10 => f10 | 11 => f11 | 12 => f12 | 13 => f13 | 14 => f14 | 15 => f15 | 16 => f16 | 17 => f17 | 18 => f18 | 19 => f19 | 20 => f20 | 21 => f21 | 22 => f22 | 23 => fa | _ => 0
  let fdF : Nat → FuncData := fun i => match i with | 0 => PySem.W.fnOf "is_spelt" "is_spelt" (defArgs s_is_spelt) (defBody s_is_spelt) (defScope s_is_spelt) .none kV0 dc0 pm0 an0 cd0 ct0 | 1 => PySem.W.fnOf "is_book" "is_book" (defArgs s_is_book) (defBody s_is_book) (defScope s_is_book) .none kV1 dc1 pm1 an1 cd1 ct1 | 2 => PySem.W.fnOf "check_book" "check_book" (defArgs s_check_book) (defBody s_check_book) (defScope s_check_book) .none kV2 dc2 pm2 an2 cd2 ct2 | 3 => PySem.W.fnOf "is_step" "is_step" (defArgs s_is_step) (defBody s_is_step) (defScope s_is_step) .none kV3 dc3 pm3 an3 cd3 ct3 | 4 => PySem.W.fnOf "mended" "mended" (defArgs s_mended) (defBody s_mended) (defScope s_mended) .none kV4 dc4 pm4 an4 cd4 ct4 | 5 => PySem.W.fnOf "mended_by" "mended_by" (defArgs s_mended_by) (defBody s_mended_by) (defScope s_mended_by) .none kV5 dc5 pm5 an5 cd5 ct5 | 6 => PySem.W.fnOf "_law_purse" "_law_purse" (defArgs s__law_purse) (defBody s__law_purse) (defScope s__law_purse) .none kV6 dc6 pm6 an6 cd6 ct6 | 7 => PySem.W.fnOf "_law_mixed" "_law_mixed" (defArgs s__law_mixed) (defBody s__law_mixed) (defScope s__law_mixed) .none kV7 dc7 pm7 an7 cd7 ct7 | 8 => PySem.W.fnOf "_law_draw" "_law_draw" (defArgs s__law_draw) (defBody s__law_draw) (defScope s__law_draw) .none kV8 dc8 pm8 an8 cd8 ct8 | 9 => PySem.W.fnOf "_law_purses" "_law_purses" (defArgs s__law_purses) (defBody s__law_purses) (defScope s__law_purses) .none kV9 dc9 pm9 an9 cd9 ct9 | 10 => PySem.W.fnOf "_law_one_of" "_law_one_of" (defArgs s__law_one_of) (defBody s__law_one_of) (defScope s__law_one_of) .none kV10 dc10 pm10 an10 cd10 ct10 | 11 => PySem.W.fnOf "_law_same" "_law_same" (defArgs s__law_same) (defBody s__law_same) (defScope s__law_same) .none kV11 dc11 pm11 an11 cd11 ct11 | 12 => PySem.W.fnOf "_law_exact" "_law_exact" (defArgs s__law_exact) (defBody s__law_exact) (defScope s__law_exact) .none kV12 dc12 pm12 an12 cd12 ct12 | 13 => PySem.W.fnOf "_law_word" "_law_word" (defArgs s__law_word) (defBody s__law_word) (defScope s__law_word) .none kV13 dc13 pm13 an13 cd13 ct13 | 14 => PySem.W.fnOf "_law_words" "_law_words" (defArgs s__law_words) (defBody s__law_words) (defScope s__law_words) .none kV14 dc14 pm14 an14 cd14 ct14 | 15 => PySem.W.fnOf "_law_is" "_law_is" (defArgs s__law_is) (defBody s__law_is) (defScope s__law_is) .none kV15 dc15 pm15 an15 cd15 ct15 | 16 => PySem.W.fnOf "_law_made" "_law_made" (defArgs s__law_made) (defBody s__law_made) (defScope s__law_made) .none kV16 dc16 pm16 an16 cd16 ct16 | 17 => PySem.W.fnOf "_law_are_steps" "_law_are_steps" (defArgs s__law_are_steps) (defBody s__law_are_steps) (defScope s__law_are_steps) .none kV17 dc17 pm17 an17 cd17 ct17 | 18 => PySem.W.fnOf "_law_drawn_steps" "_law_drawn_steps" (defArgs s__law_drawn_steps) (defBody s__law_drawn_steps) (defScope s__law_drawn_steps) .none kV18 dc18 pm18 an18 cd18 ct18 | 19 => PySem.W.fnOf "_law_bent" "_law_bent" (defArgs s__law_bent) (defBody s__law_bent) (defScope s__law_bent) .none kV19 dc19 pm19 an19 cd19 ct19 | 20 => PySem.W.fnOf "_law_is_word" "_law_is_word" (defArgs s__law_is_word) (defBody s__law_is_word) (defScope s__law_is_word) .none kV20 dc20 pm20 an20 cd20 ct20 | 21 => PySem.W.fnOf "_law_due" "_law_due" (defArgs s__law_due) (defBody s__law_due) (defScope s__law_due) .none kV21 dc21 pm21 an21 cd21 ct21 | 22 => PySem.W.fnOf "_law_steps_right" "_law_steps_right" (defArgs s__law_steps_right) (defBody s__law_steps_right) (defScope s__law_steps_right) .none kV22 dc22 pm22 an22 cd22 ct22 | 23 => PySem.W.fnOf "law" "law" (defArgs s_law) (defBody s_law) (defScope s_law) .none kV23 dc23 pm23 an23 cd23 ct23 | _ => PySem.W.fnOf "is_spelt" "is_spelt" (defArgs s_is_spelt) (defBody s_is_spelt) (defScope s_is_spelt) .none kV0 dc0 pm0 an0 cd0 ct0
  have er_InvalidBook : PySem.ErX.ErrTxt P K mg "InvalidBook" C1 fInvalidBook :=
    { gC := PySem.W.mg_of X G ac_InvalidBook, cls := ⟨_, _, _, _, _, _, _, _, _, _, _, _, _, _, _, x_InvalidBook, by rfl, along_of x_PurseError ii_PurseError⟩, sa := sa_InvalidBook, ga := ga_InvalidBook, gg := gg_InvalidBook, noN := nv_InvalidBook, iC := a1_InvalidBook, tC := t1_InvalidBook, kC := kc_InvalidBook, exC := be_InvalidBook, veC := ve_InvalidBook, meC := mc_InvalidBook, tyC := tc_InvalidBook, hdC := hd_InvalidBook, te := exm_self be_InvalidBook ic_InvalidBook tc_InvalidBook mc_InvalidBook, opq := opq, sup := PySem.W.mg_none_of X G nb_super, htop := htop,
      fn := ⟨_, _, _, _, _, _, _, _, _, _, _, _, _, _, _, _, _, _, _, _, _, _, _, _, l1_InvalidBook, c1_InvalidBook, ⟨_, _, _, lD_InvalidBook, rfl⟩, ⟨_, _, _, lc_InvalidBook⟩, ⟨_, _, _, _, _, _, lk_InvalidBook, vf_InvalidBook, ff_InvalidBook⟩, rfl⟩ }
  have er_InvalidMending : PySem.ErX.ErrTxt P K mg "InvalidMending" C2 fInvalidMending :=
    { gC := PySem.W.mg_of X G ac_InvalidMending, cls := ⟨_, _, _, _, _, _, _, _, _, _, _, _, _, _, _, x_InvalidMending, by rfl, along_of x_PurseError ii_PurseError⟩, sa := sa_InvalidMending, ga := ga_InvalidMending, gg := gg_InvalidMending, noN := nv_InvalidMending, iC := a1_InvalidMending, tC := t1_InvalidMending, kC := kc_InvalidMending, exC := be_InvalidMending, veC := ve_InvalidMending, meC := mc_InvalidMending, tyC := tc_InvalidMending, hdC := hd_InvalidMending, te := exm_self be_InvalidMending ic_InvalidMending tc_InvalidMending mc_InvalidMending, opq := opq, sup := PySem.W.mg_none_of X G nb_super, htop := htop,
      fn := ⟨_, _, _, _, _, _, _, _, _, _, _, _, _, _, _, _, _, _, _, _, _, _, _, _, l1_InvalidMending, c1_InvalidMending, ⟨_, _, _, lD_InvalidMending, rfl⟩, ⟨_, _, _, lc_InvalidMending⟩, ⟨_, _, _, _, _, _, lk_InvalidMending, vf_InvalidMending, ff_InvalidMending⟩, rfl⟩ }
  have B : Bas P K mg (caOf C0 C1 C2) faF fdF := {
    n_all := PySem.W.mg_none_of X G nb_all
    n_bool := PySem.W.mg_none_of X G nb_bool
    n_dict := PySem.W.mg_none_of X G nb_dict
    n_int := PySem.W.mg_none_of X G nb_int
    n_isinstance := PySem.W.mg_none_of X G nb_isinstance
    n_len := PySem.W.mg_none_of X G nb_len
    n_list := PySem.W.mg_none_of X G nb_list
    n_max := PySem.W.mg_none_of X G nb_max
    n_min := PySem.W.mg_none_of X G nb_min
    n_range := PySem.W.mg_none_of X G nb_range
    n_str := PySem.W.mg_none_of X G nb_str
    n_sum := PySem.W.mg_none_of X G nb_sum
    n_tuple := PySem.W.mg_none_of X G nb_tuple
    n_zip := PySem.W.mg_none_of X G nb_zip
    c_PurseError := by rw [ca_PurseError]; exact PySem.W.mg_of X G ac_PurseError
    c_InvalidBook := by rw [ca_InvalidBook]; exact PySem.W.mg_of X G ac_InvalidBook
    c_InvalidMending := by rw [ca_InvalidMending]; exact PySem.W.mg_of X G ac_InvalidMending
    e_InvalidBook := ⟨fInvalidBook, by rw [ca_InvalidBook]; exact er_InvalidBook⟩
    e_InvalidMending := ⟨fInvalidMending, by rw [ca_InvalidMending]; exact er_InvalidMending⟩
    ex_InvalidMending := fun c hc => by
      rcases mem_kn hc with rfl | rfl
      · rw [ca_InvalidMending]; exact (PySem.W.exm_ref be_InvalidMending hd_InvalidMending tc_InvalidMending s_InvalidMending_InvalidMending).trans (by decide +kernel)
      · rw [ca_InvalidBook, ca_InvalidMending]; exact (PySem.W.exm_ref be_InvalidMending hd_InvalidMending tc_InvalidMending s_InvalidBook_InvalidMending).trans (by decide +kernel)
    ek := {
    xf := fun c hc => by
      rcases mem_kn hc with rfl | rfl
      · rw [ca_InvalidMending]; exact ⟨ga_InvalidMending, gg_InvalidMending, be_InvalidMending, hd_InvalidMending⟩
      · rw [ca_InvalidBook]; exact ⟨ga_InvalidBook, gg_InvalidBook, be_InvalidBook, hd_InvalidBook⟩
    no := fun c hc => by
      rcases mem_kn hc with rfl | rfl
      · rw [ca_InvalidMending]; exact nv_InvalidMending
      · rw [ca_InvalidBook]; exact nv_InvalidBook
    ha := fun c hc => by
      rcases mem_kn hc with rfl | rfl
      · rw [ca_InvalidMending]; exact cl_InvalidMending
      · rw [ca_InvalidBook]; exact cl_InvalidBook
    hm := fun c hc => by
      rcases mem_kn hc with rfl | rfl
      · rw [ca_InvalidMending]; exact ob_InvalidMending
      · rw [ca_InvalidBook]; exact ob_InvalidBook
    hn := hn
    ht := ht
    ki := fun c hc => by
      rcases mem_kn hc with rfl | rfl
      · intro y hy
        rcases mem_cl hy with rfl | rfl | rfl
        · rw [ca_InvalidMending, ca_PurseError]; exact (kit_ref mc_InvalidMending ic_PurseError tc_PurseError s_InvalidMending_PurseError).trans (by decide +kernel)
        · rw [ca_InvalidMending, ca_InvalidBook]; exact (kit_ref mc_InvalidMending ic_InvalidBook tc_InvalidBook s_InvalidMending_InvalidBook).trans (by decide +kernel)
        · rw [ca_InvalidMending]; exact (kit_ref mc_InvalidMending ic_InvalidMending tc_InvalidMending s_InvalidMending_InvalidMending).trans (by decide +kernel)
      · intro y hy
        rcases mem_cl hy with rfl | rfl | rfl
        · rw [ca_InvalidBook, ca_PurseError]; exact (kit_ref mc_InvalidBook ic_PurseError tc_PurseError s_InvalidBook_PurseError).trans (by decide +kernel)
        · rw [ca_InvalidBook]; exact (kit_ref mc_InvalidBook ic_InvalidBook tc_InvalidBook s_InvalidBook_InvalidBook).trans (by decide +kernel)
        · rw [ca_InvalidBook, ca_InvalidMending]; exact (kit_ref mc_InvalidBook ic_InvalidMending tc_InvalidMending s_InvalidBook_InvalidMending).trans (by decide +kernel) }
    k_LETTERS := ⟨tLETTERS, PySem.W.mg_of X G k_LETTERS⟩
    k_KEEP := ⟨qKEEP, _, _, nKEEP, PySem.W.mg_of X G k_KEEP, lk_KEEP, rfl, rfl, by rw [PySem.sizeLine_eq]; exact (by decide : 1 ≤ 16777216), .cons ⟨_, rfl⟩ (.nil)⟩
    k_LEAVE := ⟨qLEAVE, _, _, nLEAVE, PySem.W.mg_of X G k_LEAVE, lk_LEAVE, rfl, rfl, by rw [PySem.sizeLine_eq]; exact (by decide : 1 ≤ 16777216), .cons ⟨_, rfl⟩ (.nil)⟩
    d_is_spelt := ⟨⟨oc0, od0, _, kV0, dc0, pm0, an0, cd0, ct0, sl0, rfl, l0, c0, .inl ⟨rfl, rfl⟩, .inl rfl⟩, kp0⟩
    g_is_spelt := PySem.W.mg_of X G a0
    d_is_book := ⟨⟨oc1, od1, _, kV1, dc1, pm1, an1, cd1, ct1, sl1, rfl, l1, c1, .inl ⟨rfl, rfl⟩, .inl rfl⟩, kp1⟩
    g_is_book := PySem.W.mg_of X G a1
    d_check_book := ⟨⟨oc2, od2, _, kV2, dc2, pm2, an2, cd2, ct2, sl2, rfl, l2, c2, .inl ⟨rfl, rfl⟩, .inl rfl⟩, kp2⟩
    g_check_book := PySem.W.mg_of X G a2
    d_is_step := ⟨⟨oc3, od3, _, kV3, dc3, pm3, an3, cd3, ct3, sl3, rfl, l3, c3, .inl ⟨rfl, rfl⟩, .inl rfl⟩, kp3⟩
    g_is_step := PySem.W.mg_of X G a3
    d_mended := ⟨⟨oc4, od4, _, kV4, dc4, pm4, an4, cd4, ct4, sl4, rfl, l4, c4, .inl ⟨rfl, rfl⟩, .inl rfl⟩, kp4⟩
    g_mended := PySem.W.mg_of X G a4
    d_mended_by := ⟨⟨oc5, od5, _, kV5, dc5, pm5, an5, cd5, ct5, sl5, rfl, l5, c5, .inl ⟨rfl, rfl⟩, .inl rfl⟩, kp5⟩
    g_mended_by := PySem.W.mg_of X G a5
    d__law_purse := ⟨⟨oc6, od6, _, kV6, dc6, pm6, an6, cd6, ct6, sl6, rfl, l6, c6, .inl ⟨rfl, rfl⟩, .inl rfl⟩, kp6⟩
    g__law_purse := PySem.W.mg_of X G a6
    d__law_mixed := ⟨⟨oc7, od7, _, kV7, dc7, pm7, an7, cd7, ct7, sl7, rfl, l7, c7, .inl ⟨rfl, rfl⟩, .inl rfl⟩, kp7⟩
    g__law_mixed := PySem.W.mg_of X G a7
    d__law_draw := ⟨⟨oc8, od8, _, kV8, dc8, pm8, an8, cd8, ct8, sl8, rfl, l8, c8, .inl ⟨rfl, rfl⟩, .inl rfl⟩, kp8⟩
    g__law_draw := PySem.W.mg_of X G a8
    d__law_purses := ⟨⟨oc9, od9, _, kV9, dc9, pm9, an9, cd9, ct9, sl9, rfl, l9, c9, .inl ⟨rfl, rfl⟩, .inl rfl⟩, kp9⟩
    g__law_purses := PySem.W.mg_of X G a9
    d__law_one_of := ⟨⟨oc10, od10, _, kV10, dc10, pm10, an10, cd10, ct10, sl10, rfl, l10, c10, .inl ⟨rfl, rfl⟩, .inl rfl⟩, kp10⟩
    g__law_one_of := PySem.W.mg_of X G a10
    d__law_same := ⟨⟨oc11, od11, _, kV11, dc11, pm11, an11, cd11, ct11, sl11, rfl, l11, c11, .inl ⟨rfl, rfl⟩, .inl rfl⟩, kp11⟩
    g__law_same := PySem.W.mg_of X G a11
    d__law_exact := ⟨⟨oc12, od12, _, kV12, dc12, pm12, an12, cd12, ct12, sl12, rfl, l12, c12, .inl ⟨rfl, rfl⟩, .inl rfl⟩, kp12⟩
    g__law_exact := PySem.W.mg_of X G a12
    d__law_word := ⟨⟨oc13, od13, _, kV13, dc13, pm13, an13, cd13, ct13, sl13, rfl, l13, c13, .inl ⟨rfl, rfl⟩, .inl rfl⟩, kp13⟩
    g__law_word := PySem.W.mg_of X G a13
    d__law_words := ⟨⟨oc14, od14, _, kV14, dc14, pm14, an14, cd14, ct14, sl14, rfl, l14, c14, .inl ⟨rfl, rfl⟩, .inl rfl⟩, kp14⟩
    g__law_words := PySem.W.mg_of X G a14
    d__law_is := ⟨⟨oc15, od15, _, kV15, dc15, pm15, an15, cd15, ct15, sl15, rfl, l15, c15, .inl ⟨rfl, rfl⟩, .inl rfl⟩, kp15⟩
    g__law_is := PySem.W.mg_of X G a15
    d__law_made := ⟨⟨oc16, od16, _, kV16, dc16, pm16, an16, cd16, ct16, sl16, rfl, l16, c16, .inl ⟨rfl, rfl⟩, .inl rfl⟩, kp16⟩
    g__law_made := PySem.W.mg_of X G a16
    d__law_are_steps := ⟨⟨oc17, od17, _, kV17, dc17, pm17, an17, cd17, ct17, sl17, rfl, l17, c17, .inl ⟨rfl, rfl⟩, .inl rfl⟩, kp17⟩
    g__law_are_steps := PySem.W.mg_of X G a17
    d__law_drawn_steps := ⟨⟨oc18, od18, _, kV18, dc18, pm18, an18, cd18, ct18, sl18, rfl, l18, c18, .inl ⟨rfl, rfl⟩, .inl rfl⟩, kp18⟩
    g__law_drawn_steps := PySem.W.mg_of X G a18
    d__law_bent := ⟨⟨oc19, od19, _, kV19, dc19, pm19, an19, cd19, ct19, sl19, rfl, l19, c19, .inl ⟨rfl, rfl⟩, .inl rfl⟩, kp19⟩
    g__law_bent := PySem.W.mg_of X G a19
    d__law_is_word := ⟨⟨oc20, od20, _, kV20, dc20, pm20, an20, cd20, ct20, sl20, rfl, l20, c20, .inl ⟨rfl, rfl⟩, .inl rfl⟩, kp20⟩
    g__law_is_word := PySem.W.mg_of X G a20
    d__law_due := ⟨⟨oc21, od21, _, kV21, dc21, pm21, an21, cd21, ct21, sl21, rfl, l21, c21, .inl ⟨rfl, rfl⟩, .inl rfl⟩, kp21⟩
    g__law_due := PySem.W.mg_of X G a21
    d__law_steps_right := ⟨⟨oc22, od22, _, kV22, dc22, pm22, an22, cd22, ct22, sl22, rfl, l22, c22, .inl ⟨rfl, rfl⟩, .inl rfl⟩, kp22⟩
    g__law_steps_right := PySem.W.mg_of X G a22
    d_law := ⟨⟨oc23, od23, _, kV23, dc23, pm23, an23, cd23, ct23, sl23, rfl, l23, c23, .inl ⟨rfl, rfl⟩, .inl rfl⟩, kp23⟩
    g_law := PySem.W.mg_of X G a23 }
  refine ⟨fdF 23, fun s u => BindsTo.of_eq (by rfl), fun base _ _ => ?_⟩
  exact (ok_law (w := w) (base := base) B).ok.imp fun vs H Q E h => spLaw_spM h
theorem walk {l : PySem.W.OpenLaw} {q : Program} {loose : List Str} {XP : (Str → Option Value) → Heap → Prop} {YP : World → Heap → Prop} {d : DefRec} {K : Params → PySem.W.Frag} (hn : l.most = some 63) (hdf : d.params.defaults = [])
    (hY : ∀ (w : World) (h : Heap), YP w h → (K w.params).In h)
    (F : ∀ (w : World) (mg : Str → Option Value) (fa : Addr) (h : Heap), (K w.params).In h → h.Ns mainGlobals mg → mg d.name = some (.ref fa) →
      ∃ fd : FuncData, (∀ (s : Shared) (u : Value), BindsTo s fd ⟨[u], []⟩ [("_law_script", u)]) ∧ ∀ base : Heap, (K w.params).In base → base.Ns mainGlobals mg → FnOk l.prog w (K w.params) mg base (L2.CX l.prog w) 12 fa fd ["_law_script"] (spLaw (K w.params))) :
    PySem.W.WalkO q loose XP YP l.row.toRowW d [] (fun f vs => PySem.call f vs) :=
  L2.walk_of (n := 63) (k := 12) (x := "_law_script") (CX := fun w => L2.CX l.prog w) (sp := fun w => spLaw (K w.params)) hn (by decide) hdf ⟨rfl, by decide, by decide⟩ hY F (fun _ H a ns hl hO hS => ⟨a, ns, rfl, fz_of hO hS, fun _ => rfl⟩) fun _ H s e s' z => by
    obtain ⟨_, _, _, _, _, _, _, _, _, _, _, _, z⟩ := z
    exact z
end
end K80
open PySem PySem.W PyProof.Rows
set_option maxRecDepth 100000 in
set_option maxHeartbeats 0 in
theorem PySem.Challenge.cw_withinbooks_k80_whole_mended_books_holds : PySem.Challenge.rw_withinbooks_k80_whole_mended_books.Holds := by
  w_on; o_law; k_head; (case hw => w_witness2)
  k_fill
  refine K80.walk (l := PySem.Challenge.rw_withinbooks_k80_whole_mended_books) rfl rfl (fun w h Y => PySem.W.kIn_of Y) ?F
  case F =>
    intro w mg fa h KX G hmg
    refine' K80.all_mk KX G hmg ?nb_all ?nb_bool ?nb_dict ?nb_int ?nb_isinstance ?nb_len ?nb_list ?nb_max ?nb_min ?nb_range ?nb_str ?nb_sum ?nb_tuple ?nb_zip ?ac_PurseError ?ac_InvalidBook ?ac_InvalidMending ?nb_super ?opq ?hn ?ht ?htop ?x_PurseError ?ii_PurseError ?ic_PurseError ?tc_PurseError ?be_PurseError ?hd_PurseError ?mc_PurseError ?ic_InvalidBook ?tc_InvalidBook ?be_InvalidBook ?hd_InvalidBook ?mc_InvalidBook ?ic_InvalidMending ?tc_InvalidMending ?be_InvalidMending ?hd_InvalidMending ?mc_InvalidMending ?s_InvalidMending_PurseError ?s_InvalidMending_InvalidBook ?s_InvalidMending_InvalidMending ?cl_InvalidMending ?ob_InvalidMending ?ga_InvalidMending ?gg_InvalidMending ?nv_InvalidMending ?s_InvalidBook_PurseError ?s_InvalidBook_InvalidBook ?s_InvalidBook_InvalidMending ?cl_InvalidBook ?ob_InvalidBook ?ga_InvalidBook ?gg_InvalidBook ?nv_InvalidBook ?x_InvalidBook ?sa_InvalidBook ?a1_InvalidBook ?t1_InvalidBook ?l1_InvalidBook ?c1_InvalidBook ?lD_InvalidBook ?lc_InvalidBook ?lk_InvalidBook ?vf_InvalidBook ?ff_InvalidBook ?kc_InvalidBook ?ve_InvalidBook ?x_InvalidMending ?sa_InvalidMending ?a1_InvalidMending ?t1_InvalidMending ?l1_InvalidMending ?c1_InvalidMending ?lD_InvalidMending ?lc_InvalidMending ?lk_InvalidMending ?vf_InvalidMending ?ff_InvalidMending ?kc_InvalidMending ?ve_InvalidMending ?k_LETTERS ?k_KEEP ?lk_KEEP ?k_LEAVE ?lk_LEAVE ?a0 ?l0 ?c0 ?kp0 ?a1 ?l1 ?c1 ?kp1 ?a2 ?l2 ?c2 ?kp2 ?a3 ?l3 ?c3 ?kp3 ?a4 ?l4 ?c4 ?kp4 ?a5 ?l5 ?c5 ?kp5 ?a6 ?l6 ?c6 ?kp6 ?a7 ?l7 ?c7 ?kp7 ?a8 ?l8 ?c8 ?kp8 ?a9 ?l9 ?c9 ?kp9 ?a10 ?l10 ?c10 ?kp10 ?a11 ?l11 ?c11 ?kp11 ?a12 ?l12 ?c12 ?kp12 ?a13 ?l13 ?c13 ?kp13 ?a14 ?l14 ?c14 ?kp14 ?a15 ?l15 ?c15 ?kp15 ?a16 ?l16 ?c16 ?kp16 ?a17 ?l17 ?c17 ?kp17 ?a18 ?l18 ?c18 ?kp18 ?a19 ?l19 ?c19 ?kp19 ?a20 ?l20 ?c20 ?kp20 ?a21 ?l21 ?c21 ?kp21 ?a22 ?l22 ?c22 ?kp22 ?a23 ?l23 ?c23 ?kp23
    (case nb_all => k_is)
    (case nb_bool => k_is)
    (case nb_dict => k_is)
    (case nb_int => k_is)
    (case nb_isinstance => k_is)
    (case nb_len => k_is)
    (case nb_list => k_is)
    (case nb_max => k_is)
    (case nb_min => k_is)
    (case nb_range => k_is)
    (case nb_str => k_is)
    (case nb_sum => k_is)
    (case nb_tuple => k_is)
    (case nb_zip => k_is)
    (case ac_PurseError => k_is)
    (case ac_InvalidBook => k_is)
    (case ac_InvalidMending => k_is)
    (case nb_super => k_is)
    (case opq => k_is)
    (case hn => k_is)
    (case ht => k_is)
    (case htop => decide +kernel)
    (case x_PurseError => k_is)
    (case ii_PurseError => k_is)
    (case ic_PurseError => k_is)
    (case tc_PurseError => k_is)
    (case be_PurseError => k_is)
    (case hd_PurseError => k_is)
    (case mc_PurseError => k_is)
    (case ic_InvalidBook => k_is)
    (case tc_InvalidBook => k_is)
    (case be_InvalidBook => k_is)
    (case hd_InvalidBook => k_is)
    (case mc_InvalidBook => k_is)
    (case ic_InvalidMending => k_is)
    (case tc_InvalidMending => k_is)
    (case be_InvalidMending => k_is)
    (case hd_InvalidMending => k_is)
    (case mc_InvalidMending => k_is)
    (case s_InvalidMending_PurseError => k_is)
    (case s_InvalidMending_InvalidBook => k_is)
    (case s_InvalidMending_InvalidMending => k_is)
    (case cl_InvalidMending => k_is)
    (case ob_InvalidMending => k_is)
    (case ga_InvalidMending => k_is)
    (case gg_InvalidMending => k_is)
    (case nv_InvalidMending => k_is)
    (case s_InvalidBook_PurseError => k_is)
    (case s_InvalidBook_InvalidBook => k_is)
    (case s_InvalidBook_InvalidMending => k_is)
    (case cl_InvalidBook => k_is)
    (case ob_InvalidBook => k_is)
    (case ga_InvalidBook => k_is)
    (case gg_InvalidBook => k_is)
    (case nv_InvalidBook => k_is)
    (case x_InvalidBook => k_is)
    (case sa_InvalidBook => k_is)
    (case a1_InvalidBook => k_is)
    (case t1_InvalidBook => k_is)
    (case l1_InvalidBook => k_is)
    (case c1_InvalidBook => k_is)
    (case lD_InvalidBook => k_is)
    (case lc_InvalidBook => k_is)
    (case lk_InvalidBook => k_is)
    (case vf_InvalidBook => rfl)
    (case ff_InvalidBook => decide +kernel)
    (case kc_InvalidBook => k_is)
    (case ve_InvalidBook => k_is)
    (case x_InvalidMending => k_is)
    (case sa_InvalidMending => k_is)
    (case a1_InvalidMending => k_is)
    (case t1_InvalidMending => k_is)
    (case l1_InvalidMending => k_is)
    (case c1_InvalidMending => k_is)
    (case lD_InvalidMending => k_is)
    (case lc_InvalidMending => k_is)
    (case lk_InvalidMending => k_is)
    (case vf_InvalidMending => rfl)
    (case ff_InvalidMending => decide +kernel)
    (case kc_InvalidMending => k_is)
    (case ve_InvalidMending => k_is)
    (case k_LETTERS => k_is)
    (case k_KEEP => k_is)
    (case lk_KEEP => k_is)
    (case k_LEAVE => k_is)
    (case lk_LEAVE => k_is)
    (case a0 => k_is)
    (case l0 => k_is)
    (case c0 => k_is)
    (case kp0 => k_is)
    (case a1 => k_is)
    (case l1 => k_is)
    (case c1 => k_is)
    (case kp1 => k_is)
    (case a2 => k_is)
    (case l2 => k_is)
    (case c2 => k_is)
    (case kp2 => k_is)
    (case a3 => k_is)
    (case l3 => k_is)
    (case c3 => k_is)
    (case kp3 => k_is)
    (case a4 => k_is)
    (case l4 => k_is)
    (case c4 => k_is)
    (case kp4 => k_is)
    (case a5 => k_is)
    (case l5 => k_is)
    (case c5 => k_is)
    (case kp5 => k_is)
    (case a6 => k_is)
    (case l6 => k_is)
    (case c6 => k_is)
    (case kp6 => k_is)
    (case a7 => k_is)
    (case l7 => k_is)
    (case c7 => k_is)
    (case kp7 => k_is)
    (case a8 => k_is)
    (case l8 => k_is)
    (case c8 => k_is)
    (case kp8 => k_is)
    (case a9 => k_is)
    (case l9 => k_is)
    (case c9 => k_is)
    (case kp9 => k_is)
    (case a10 => k_is)
    (case l10 => k_is)
    (case c10 => k_is)
    (case kp10 => k_is)
    (case a11 => k_is)
    (case l11 => k_is)
    (case c11 => k_is)
    (case kp11 => k_is)
    (case a12 => k_is)
    (case l12 => k_is)
    (case c12 => k_is)
    (case kp12 => k_is)
    (case a13 => k_is)
    (case l13 => k_is)
    (case c13 => k_is)
    (case kp13 => k_is)
    (case a14 => k_is)
    (case l14 => k_is)
    (case c14 => k_is)
    (case kp14 => k_is)
    (case a15 => k_is)
    (case l15 => k_is)
    (case c15 => k_is)
    (case kp15 => k_is)
    (case a16 => k_is)
    (case l16 => k_is)
    (case c16 => k_is)
    (case kp16 => k_is)
    (case a17 => k_is)
    (case l17 => k_is)
    (case c17 => k_is)
    (case kp17 => k_is)
    (case a18 => k_is)
    (case l18 => k_is)
    (case c18 => k_is)
    (case kp18 => k_is)
    (case a19 => k_is)
    (case l19 => k_is)
    (case c19 => k_is)
    (case kp19 => k_is)
    (case a20 => k_is)
    (case l20 => k_is)
    (case c20 => k_is)
    (case kp20 => k_is)
    (case a21 => k_is)
    (case l21 => k_is)
    (case c21 => k_is)
    (case kp21 => k_is)
    (case a22 => k_is)
    (case l22 => k_is)
    (case c22 => k_is)
    (case kp22 => k_is)
    (case a23 => k_is)
    (case l23 => k_is)
    (case c23 => k_is)
    (case kp23 => k_is)
