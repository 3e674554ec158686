import PyProof.Rows.All
import Wide.All
import OpenK.AllK
import Wide.FinOn
import HandS.ForMost
import HandS.Wide
import HandS.Flow
import HandS.IsInst
import HandS.Exc
import HandS.TryOnly
import HandS.ExcOwn
import HandS.CallSlots
import HandS.Codes
import HandS.Records
import HandS.Dict
import HandS.Star
import HandS.Property
import HandS.More
import PyProof.StrOps2
import PyProof.StrBlock2
import PyProof.ReprRoads
import HandS.Defaults
import PyProof.ReprLen
import HandS.Style
import HandS.SetBool
import HandS.Strs
import HandS.Conv
import HandS.Iter
import PyProof.LongRange
import PyProof.ListRange
import PyProof.InstEq
import KE.KExcSuper
import HandS.ExcInit
import HandS.Small
import HandS.ExcField
import KE.KExcIs
import KE.KWithOwn
import HandS.NoneIn
import KE.KOpsOwn
import PyProof.Rows.Range3
import PyProof.Conv_bool
import HandS.Text
import HandS.RaiseMore
import HandS.Deep
import HandS.WordsDict
import HandS.Zip
import PyProof.Rows.CountFlat
import HandS.DictComp
import HandS.SetFor
import HandS.SetKeys
import HandS.SortInts
import PyProof.SumWalkG
import PyProof.RowDictHeap
import PyProof.EqKinds
import PyProof.FactsAll.dict_1
import HandS.TupAny
import HandS.TupMul
import KE.IntTextText
import PySem.Challenge.RW_sharedpipe_k40_frames_shown_and_read
set_option Elab.async false
set_option maxRecDepth 100000
set_option maxHeartbeats 4000000
set_option linter.all false
/-! Values as plain data, a store of things that change, and what a state bears of them. -/
namespace Sq
open PySem L2

/-- an exception's object, known -/
def xho (a : Addr) (oe : Obj) : HO := .ext fun h => h.get? a = some oe
inductive D where
  | non | bl (b : Bool) | int (i : Int) | str (s : Str)
  | tup (ds : List D) | lst (ds : List D) | dct (kvs : List (Key × D))
  | ins (c : Str) (fs : List (Str × D)) | h (n : Nat) | scr (ns : List Int) | exc (c : Str) (fs : List (Str × D)) | fn (x : Str)
inductive M where
  | frz (d : D) | bag | lst (ds : List D) | dct (kvs : List (Key × D)) | ins (c : Str) (fs : List (Str × D)) | lck (o : HO) (kvs : List (Key × D))
abbrev Ro := List (Option D)
abbrev Sto := List M

section
variable (K : PySem.W.Frag) (mg : Str → Option Value)
mutual
inductive Rp (I : Hp) (μ : List Addr) : V → D → Prop
  | non : Rp I μ .non .non
  | bl {b : Bool} : Rp I μ (.bl b) (.bl b)
  | int {i : Int} : Rp I μ (.int i) (.int i)
  | str {s : Str} : Rp I μ (.str s) (.str s)
  | tup {a : Addr} {vs : List V} {ds : List D} : SqT K I a vs → RpL I μ vs ds → Rp I μ (.ref a) (.tup ds)
  | lst {a : Addr} {vs : List V} {ds : List D} : I a = some (.lst vs) → RpL I μ vs ds → Rp I μ (.ref a) (.lst ds)
  | dct {a : Addr} {o : Obj} {kv : List (Key × V)} {kd : List (Key × D)} : I a = some (.frz o (.dK kv)) → RpK I μ kv kd → Rp I μ (.ref a) (.dct kd)
  | fn {a : Addr} {x : Str} : mg x = some (.ref a) → Rp I μ (.ref a) (.fn x)
  | ins {a C dx : Addr} {c : Str} {fv : List (Str × V)} {fd : List (Str × D)} : mg c = some (.ref C) → I a = some (.ins C dx fv) → RpF I μ fv fd → Rp I μ (.ref a) (.ins c fd)
  | h {a : Addr} {n : Nat} : μ[n]? = some a → Rp I μ (.ref a) (.h n)
  | scr {a : Addr} {ns : List Int} : SqL K I a (ns.map V.int) → Rp I μ (.ref a) (.scr ns)
  | exc0 {a C : Addr} {c : Str} {oe : Obj} : mg c = some (.ref C) → I a = some (xho a oe) → Zc (.ref C) none oe → (∃ vs, oe.data = .fields vs) → Rp I μ (.ref a) (.exc c [])
  | exc1 {a C dd : Addr} {c : Str} {oe : Obj} {fv : List (Str × V)} {fd : List (Str × D)} : mg c = some (.ref C) → I a = some (xho a oe) → Zc (.ref C) (some dd) oe → (∃ vs, oe.data = .fields vs) → I dd = some (.xd fv) → RpF I μ fv fd → Rp I μ (.ref a) (.exc c fd)
inductive RpL (I : Hp) (μ : List Addr) : List V → List D → Prop
  | nil : RpL I μ [] []
  | cons {v : V} {d : D} {vs : List V} {ds : List D} : Rp I μ v d → RpL I μ vs ds → RpL I μ (v :: vs) (d :: ds)
inductive RpK (I : Hp) (μ : List Addr) : List (Key × V) → List (Key × D) → Prop
  | nil : RpK I μ [] []
  | cons {k : Key} {v : V} {d : D} {vs : List (Key × V)} {ds : List (Key × D)} : Rp I μ v d → RpK I μ vs ds → RpK I μ ((k, v) :: vs) ((k, d) :: ds)
inductive RpF (I : Hp) (μ : List Addr) : List (Str × V) → List (Str × D) → Prop
  | nil : RpF I μ [] []
  | cons {k : Str} {v : V} {d : D} {vs : List (Str × V)} {ds : List (Str × D)} : Rp I μ v d → RpF I μ vs ds → RpF I μ ((k, v) :: vs) ((k, d) :: ds)
end

structure Ext (I : Hp) (μ : List Addr) (I' : Hp) (μ' : List Addr) : Prop where
  hp : Same I I'
  mu : ∀ (n : Nat) (a : Addr), μ[n]? = some a → μ'[n]? = some a
end

theorem Ext.refl {I : Hp} {μ : List Addr} : Ext I μ I μ := ⟨Same.refl I, fun _ _ h => h⟩
theorem Ext.trans {I I1 I2 : Hp} {μ μ1 μ2 : List Addr} (a : Ext I μ I1 μ1) (b : Ext I1 μ1 I2 μ2) : Ext I μ I2 μ2 :=
  ⟨a.hp.trans b.hp, fun n x h => b.mu n x (a.mu n x h)⟩

theorem same_l {K : PySem.W.Frag} {H H' : Hp} {a : Addr} {xs : List V} (e : Same H H') (h : SqL K H a xs) : SqL K H' a xs := e.seq h
theorem same_t {K : PySem.W.Frag} {H H' : Hp} {a : Addr} {xs : List V} (e : Same H H') (h : SqT K H a xs) : SqT K H' a xs := by
  rcases h with (h | ⟨o, h⟩) | h
  · exact .inl (.inl (e _ _ h))
  · exact .inl (.inr ⟨o, e _ _ h⟩)
  · exact .inr h

section
variable {K : PySem.W.Frag} {mg : Str → Option Value} {I I' : Hp} {μ μ' : List Addr}
mutual
theorem Rp.ext (e : Ext I μ I' μ') : ∀ {v : V} {d : D}, Rp K mg I μ v d → Rp K mg I' μ' v d
  | _, _, .non => .non
  | _, _, .bl => .bl
  | _, _, .int => .int
  | _, _, .str => .str
  | _, _, .tup h r => .tup (same_t e.hp h) (RpL.ext e r)
  | _, _, .lst h r => .lst (e.hp _ _ h) (RpL.ext e r)
  | _, _, .dct h r => .dct (e.hp _ _ h) (RpK.ext e r)
  | _, _, .fn m => .fn m
  | _, _, .ins m h r => .ins m (e.hp _ _ h) (RpF.ext e r)
  | _, _, .h q => .h (e.mu _ _ q)
  | _, _, .scr h => .scr (same_l e.hp h)
  | _, _, .exc0 m h z q => .exc0 m (e.hp _ _ h) z q
  | _, _, .exc1 m h z q l r => .exc1 m (e.hp _ _ h) z q (e.hp _ _ l) (RpF.ext e r)
theorem RpL.ext (e : Ext I μ I' μ') : ∀ {v : List V} {d : List D}, RpL K mg I μ v d → RpL K mg I' μ' v d
  | _, _, .nil => .nil
  | _, _, .cons h r => .cons (Rp.ext e h) (RpL.ext e r)
theorem RpK.ext (e : Ext I μ I' μ') : ∀ {v : List (Key × V)} {d : List (Key × D)}, RpK K mg I μ v d → RpK K mg I' μ' v d
  | _, _, .nil => .nil
  | _, _, .cons h r => .cons (Rp.ext e h) (RpK.ext e r)
theorem RpF.ext (e : Ext I μ I' μ') : ∀ {v : List (Str × V)} {d : List (Str × D)}, RpF K mg I μ v d → RpF K mg I' μ' v d
  | _, _, .nil => .nil
  | _, _, .cons h r => .cons (Rp.ext e h) (RpF.ext e r)
end

theorem RpL.length {vs : List V} {ds : List D} (r : RpL K mg I μ vs ds) : vs.length = ds.length := by
  induction ds generalizing vs with
  | nil => cases r; rfl
  | cons d ds ih => cases r with | cons h t => simp [ih t]
theorem RpL.get {vs : List V} {ds : List D} (r : RpL K mg I μ vs ds) {i : Nat} {d : D} (h : ds[i]? = some d) : ∃ v, vs[i]? = some v ∧ Rp K mg I μ v d := by
  induction ds generalizing vs i with
  | nil => simp at h
  | cons e ds ih =>
    cases r with
    | cons r t =>
      cases i with
      | zero => simp at h; subst h; exact ⟨_, rfl, r⟩
      | succ i => simpa using ih t (by simpa using h)
theorem RpL.getV {vs : List V} {ds : List D} (r : RpL K mg I μ vs ds) {i : Nat} {v : V} (h : vs[i]? = some v) : ∃ d, ds[i]? = some d ∧ Rp K mg I μ v d := by
  induction vs generalizing ds i with
  | nil => simp at h
  | cons e vs ih =>
    cases r with
    | cons r t =>
      cases i with
      | zero => simp at h; subst h; exact ⟨_, rfl, r⟩
      | succ i => simpa using ih t (by simpa using h)
theorem RpL.append {vs ws : List V} {ds es : List D} (r : RpL K mg I μ vs ds) (q : RpL K mg I μ ws es) : RpL K mg I μ (vs ++ ws) (ds ++ es) := by
  induction ds generalizing vs with
  | nil => cases r; exact q
  | cons d ds ih => cases r with | cons h t => exact .cons h (ih t)
theorem RpL.take {vs : List V} {ds : List D} (r : RpL K mg I μ vs ds) (n : Nat) : RpL K mg I μ (vs.take n) (ds.take n) := by
  induction n generalizing vs ds with
  | zero => simpa using RpL.nil
  | succ n ih => cases r with
    | nil => simpa using RpL.nil
    | cons h t => simpa using RpL.cons h (ih t)
theorem RpL.drop {vs : List V} {ds : List D} (r : RpL K mg I μ vs ds) (n : Nat) : RpL K mg I μ (vs.drop n) (ds.drop n) := by
  induction n generalizing vs ds with
  | zero => simpa using r
  | succ n ih => cases r with
    | nil => simpa using RpL.nil
    | cons h t => simpa using ih t
theorem RpL.set {vs : List V} {ds : List D} (r : RpL K mg I μ vs ds) {v : V} {d : D} (h : Rp K mg I μ v d) (n : Nat) : RpL K mg I μ (vs.set n v) (ds.set n d) := by
  induction n generalizing vs ds with
  | zero => cases r with
    | nil => simpa using RpL.nil
    | cons _ t => simpa using RpL.cons h t
  | succ n ih => cases r with
    | nil => simpa using RpL.nil
    | cons q t => simpa using RpL.cons q (ih t)
theorem RpL.ints {ns : List Int} : RpL K mg I μ (ns.map V.int) (ns.map D.int) := by
  induction ns with
  | nil => exact .nil
  | cons n ns ih => exact .cons .int ih
end

/-- the numbers of a bag -/
structure BagOk (x y z : Int) (cs : List Int) : Prop where
  len : cs.length ≤ 63
  x0 : 0 ≤ x
  y0 : 0 ≤ y
  y1 : y < 2147483647
  z0 : 0 ≤ z
  pos : ∀ c, c ∈ cs → 0 ≤ c
/-! ### what stands in the store -/
section
variable (K : PySem.W.Frag) (mg : Str → Option Value)
def MOk (I : Hp) (μ : List Addr) (H : Hp) (a : Addr) : M → Prop
  | .frz d => H a ≠ none ∧ Rp K mg I μ (.ref a) d
  | .bag => I a = none ∧ ∃ (x y z : Int) (l : Addr) (cs : List Int), H a = some (.lst [.int x, .int y, .int z, .ref l]) ∧ I l = some (.lst (cs.map V.int)) ∧ BagOk x y z cs
  | .lst ds => I a = none ∧ ∃ vs, H a = some (.lst vs) ∧ RpL K mg I μ vs ds
  | .dct kd => I a = none ∧ ∃ kv, H a = some (.dK kv) ∧ RpK K mg I μ kv kd
  | .lck o kd => I a = none ∧ H a = some o ∧ ∃ od kv, o = .frz od (.dK kv) ∧ RpK K mg I μ kv kd
  | .ins c fd => I a = none ∧ ∃ (C dx : Addr) (fv : List (Str × V)), mg c = some (.ref C) ∧ H a = some (.ins C dx fv) ∧ RpF K mg I μ fv fd
/-- what stands beside, is not touched and never held fast; and what is held fast from the beginning on -/
structure Zt where
  z : Hp
  g : Hp → List Addr → Prop
  cl : ∀ (I : Hp) (μ : List Addr) (I' : Hp) (μ' : List Addr), Ext I μ I' μ' → g I μ → g I' μ'
structure Ok (Z : Zt) (I : Hp) (μ : List Addr) (S : Sto) (H : Hp) : Prop where
  fra : ∀ (a : Addr) (o : HO), Z.z a = some o → H a = some o ∧ I a = none ∧ a ∉ μ
  gnd : Z.g I μ
  sub : Same I H
  len : μ.length = S.length
  nd : μ.Nodup
  ob : ∀ (n : Nat) (a : Addr) (m : M), μ[n]? = some a → S[n]? = some m → MOk K mg I μ H a m
end

section
variable {K : PySem.W.Frag} {mg : Str → Option Value} {Z : Zt} {I I' : Hp} {μ μ' : List Addr} {S S' : Sto} {H H' : Hp} {a : Addr}
theorem MOk.there {m : M} (h : MOk K mg I μ H a m) : H a ≠ none := by
  cases m with
  | frz d => exact h.1
  | bag => obtain ⟨_, _, _, _, _, _, e, _⟩ := h; rw [e]; simp
  | lst ds => obtain ⟨_, _, e, _⟩ := h; rw [e]; simp
  | dct kd => obtain ⟨_, _, e, _⟩ := h; rw [e]; simp
  | lck o kd => obtain ⟨_, e, _⟩ := h; rw [e]; simp
  | ins c fd => obtain ⟨_, _, _, _, _, e, _⟩ := h; rw [e]; simp
/-- the object stays as it is; what is fixed may grow -/
theorem MOk.ext {m : M} (h : MOk K mg I μ H a m) (e : Ext I μ I' μ') (ha : H' a = H a) (hi : H a ≠ none → I a = none → I' a = none) : MOk K mg I' μ' H' a m := by
  have t := h.there
  cases m with
  | frz d => exact ⟨by rw [ha]; exact h.1, h.2.ext e⟩
  | bag =>
    obtain ⟨i, x, y, z, l, cs, q, ql, r⟩ := h
    exact ⟨hi t i, x, y, z, l, cs, by rw [ha]; exact q, e.hp _ _ ql, r⟩
  | lst ds => obtain ⟨i, vs, q, r⟩ := h; exact ⟨hi t i, vs, by rw [ha]; exact q, r.ext e⟩
  | dct kd => obtain ⟨i, vs, q, r⟩ := h; exact ⟨hi t i, vs, by rw [ha]; exact q, r.ext e⟩
  | lck o kd => obtain ⟨i, q, od, kv, z, r⟩ := h; exact ⟨hi t i, by rw [ha]; exact q, od, kv, z, r.ext e⟩
  | ins c fd => obtain ⟨i, C, dx, fv, m, q, r⟩ := h; exact ⟨hi t i, C, dx, fv, m, by rw [ha]; exact q, r.ext e⟩
theorem Ok.at (o : Ok K mg Z I μ S H) {n : Nat} {m : M} (h : S[n]? = some m) : ∃ a, μ[n]? = some a ∧ MOk K mg I μ H a m := by
  have hn : n < S.length := (List.getElem?_eq_some_iff.mp h).1
  have hm : n < μ.length := by rw [o.len]; exact hn
  exact ⟨μ[n], List.getElem?_eq_getElem hm, o.ob n _ m (List.getElem?_eq_getElem hm) h⟩
theorem Ok.there (o : Ok K mg Z I μ S H) {n : Nat} (h : μ[n]? = some a) : H a ≠ none := by
  have hn : n < μ.length := (List.getElem?_eq_some_iff.mp h).1
  have hs : n < S.length := by rw [← o.len]; exact hn
  exact (o.ob n a _ h (List.getElem?_eq_getElem hs)).there
theorem Ext.new {p : Addr} {o : HO} (h : I p = none) : Ext I μ (upd I p o) μ := ⟨fun b u e => by rw [upd_ne (ne_of_none e h)]; exact e, fun _ _ q => q⟩
theorem free_of (e : Same I H) {p : Addr} (h : H p = none) : I p = none := e.free h
/-- a new thing that never changes -/
theorem Ok.fne (k : Ok K mg Z I μ S H) {p b : Addr} {o : HO} (h : H p = none) (e : Z.z b = some o) : b ≠ p := fun z => by
  subst z; have := (k.fra b o e).1; rw [h] at this; cases this
theorem Ok.new {p : Addr} {o : HO} (k : Ok K mg Z I μ S H) (h : H p = none) : Ok K mg Z (upd I p o) μ S (upd H p o) where
  fra := fun b u e => let ⟨x, y, z⟩ := k.fra b u e; ⟨by rw [upd_ne (k.fne h e)]; exact x, by rw [upd_ne (k.fne h e)]; exact y, z⟩
  gnd := Z.cl _ _ _ _ (Ext.new (free_of k.sub h)) k.gnd
  sub := fun b u e => by
    by_cases q : b = p
    · subst q; rw [upd_same] at e ⊢; exact e
    · rw [upd_ne q] at e ⊢; exact k.sub b u e
  len := k.len
  nd := k.nd
  ob := fun n b m hb hm => by
    have q : b ≠ p := fun z => by subst z; exact (k.there hb) h
    exact (k.ob n b m hb hm).ext (Ext.new (free_of k.sub h)) (upd_ne q) fun _ i => by rw [upd_ne q]; exact i
/-- a thing that is not looked at is laid, or changes, beside -/
theorem Ok.lay {p : Addr} {o : HO} (k : Ok K mg Z I μ S H) (h : H p = none) : Ok K mg Z I μ S (upd H p o) where
  fra := fun b u e => let ⟨x, y, z⟩ := k.fra b u e; ⟨by rw [upd_ne (k.fne h e)]; exact x, y, z⟩
  gnd := k.gnd
  sub := fun b u e => by
    rw [upd_ne (ne_of_none e (free_of k.sub h))]; exact k.sub b u e
  len := k.len
  nd := k.nd
  ob := fun n b m hb hm => by
    have q : b ≠ p := fun z => by subst z; exact (k.there hb) h
    exact (k.ob n b m hb hm).ext Ext.refl (upd_ne q) fun _ i => i
theorem mu_push {p : Addr} {n : Nat} {b : Addr} (h : μ[n]? = some b) : (μ ++ [p])[n]? = some b := by
  rw [List.getElem?_append_left (List.getElem?_eq_some_iff.mp h).1]; exact h
theorem Ext.push {p : Addr} : Ext I μ I (μ ++ [p]) := ⟨Same.refl I, fun _ _ h => mu_push h⟩
/-- a new thing that may change -/
theorem Ok.push {p : Addr} {o : HO} {m : M} (k : Ok K mg Z I μ S H) (h : H p = none) (hm : MOk K mg I (μ ++ [p]) (upd H p o) p m) : Ok K mg Z I (μ ++ [p]) (S ++ [m]) (upd H p o) where
  fra := fun b u e => let ⟨x, y, z⟩ := k.fra b u e; ⟨by rw [upd_ne (k.fne h e)]; exact x, y, fun q => by
    rcases List.mem_append.mp q with q | q
    · exact z q
    · simp at q; exact k.fne h e q⟩
  gnd := Z.cl _ _ _ _ Ext.push k.gnd
  sub := (k.lay (o := o) h).sub
  len := by simp [k.len]
  nd := by
    refine List.nodup_append.mpr ⟨k.nd, by simp, fun b hb c hc => ?_⟩
    simp at hc
    subst hc
    intro z
    subst z
    obtain ⟨n, hn⟩ := List.getElem?_of_mem hb
    exact (k.there hn) h
  ob := fun n b m' hb hm' => by
    by_cases hn : n < μ.length
    · rw [List.getElem?_append_left hn] at hb
      rw [List.getElem?_append_left (by rw [← k.len]; exact hn)] at hm'
      have q : b ≠ p := fun z => by subst z; exact (k.there hb) h
      exact (k.ob n b m' hb hm').ext Ext.push (upd_ne q) fun _ i => i
    · have hl : n < (μ ++ [p]).length := (List.getElem?_eq_some_iff.mp hb).1
      have e : n = μ.length := by simp at hl; omega
      subst e
      rw [List.getElem?_append_right (Nat.le_refl _)] at hb
      rw [List.getElem?_append_right (by rw [k.len]; exact Nat.le_refl _)] at hm'
      simp [k.len] at hb hm'
      subst hb hm'
      exact hm
/-- a thing in the store changes -/
theorem Ok.put {n : Nat} {o : HO} {m : M} (k : Ok K mg Z I μ S H) (h : μ[n]? = some a) (hi : I a = none) (hm : MOk K mg I μ (upd H a o) a m) : Ok K mg Z I μ (S.set n m) (upd H a o) where
  fra := fun b u e => let ⟨x, y, z⟩ := k.fra b u e; ⟨by rw [upd_ne (fun q => z (by rw [q]; exact List.mem_of_getElem? h))]; exact x, y, z⟩
  gnd := k.gnd
  sub := fun b u e => by rw [upd_ne (ne_of_none e hi)]; exact k.sub b u e
  len := by simp [k.len]
  nd := k.nd
  ob := fun j b m' hb hm' => by
    by_cases e : j = n
    · subst e
      rw [h] at hb
      cases hb
      rw [List.getElem?_set_self (by rw [← k.len]; exact (List.getElem?_eq_some_iff.mp h).1)] at hm'
      cases hm'
      exact hm
    · rw [List.getElem?_set_ne (fun z => e z.symm)] at hm'
      have q : b ≠ a := fun z => by
        subst z
        have h1 := List.getElem?_eq_some_iff.mp hb
        have h2 := List.getElem?_eq_some_iff.mp h
        exact e ((List.getElem_inj k.nd).mp (h1.2.trans h2.2.symm))
      exact (k.ob j b m' hb hm').ext Ext.refl (upd_ne q) fun _ i => i
/-- a list in the store is held fast from now on -/
theorem Ok.freeze {n : Nat} {ds : List D} (k : Ok K mg Z I μ S H) (h : S[n]? = some (.lst ds)) : ∃ a I', μ[n]? = some a ∧ Ext I μ I' μ ∧ Ok K mg Z I' μ (S.set n (.frz (.lst ds))) H ∧ Rp K mg I' μ (.ref a) (.lst ds) := by
  obtain ⟨a, ha, hi, vs, hv, r⟩ := k.at h
  have e : Ext I μ (upd I a (.lst vs)) μ := Ext.new hi
  refine ⟨a, upd I a (.lst vs), ha, e, ⟨fun b u q => let ⟨x, y, z⟩ := k.fra b u q; ⟨x, by rw [upd_ne (fun q => z (by rw [q]; exact List.mem_of_getElem? ha))]; exact y, z⟩, Z.cl _ _ _ _ e k.gnd, fun b u q => ?_, by simp [k.len], k.nd, fun j b m hb hm => ?_⟩, .lst upd_same (r.ext e)⟩
  · by_cases z : b = a
    · subst z; rw [upd_same] at q; cases q; exact hv
    · rw [upd_ne z] at q; exact k.sub b u q
  · by_cases z : j = n
    · subst z
      rw [ha] at hb
      cases hb
      rw [List.getElem?_set_self (by rw [← k.len]; exact (List.getElem?_eq_some_iff.mp ha).1)] at hm
      cases hm
      exact ⟨by rw [hv]; simp, .lst upd_same (r.ext e)⟩
    · rw [List.getElem?_set_ne (fun q => z q.symm)] at hm
      have q : b ≠ a := fun x => by
        subst x
        have h1 := List.getElem?_eq_some_iff.mp hb
        have h2 := List.getElem?_eq_some_iff.mp ha
        exact z ((List.getElem_inj k.nd).mp (h1.2.trans h2.2.symm))
      exact (k.ob j b m hb hm).ext e rfl fun _ i => by rw [upd_ne q]; exact i
/-- a bag is a list of four -/
theorem Ok.openB {n : Nat} (k : Ok K mg Z I μ S H) (h : S[n]? = some .bag) : ∃ (x y z : Int) (cs : List Int), BagOk x y z cs ∧ Ok K mg Z I μ (S.set n (.lst [.int x, .int y, .int z, .lst (cs.map D.int)])) H := by
  obtain ⟨a, ha, hi, x, y, z, l, cs, hH, hl, b⟩ := k.at h
  refine ⟨x, y, z, cs, b, k.fra, k.gnd, k.sub, by simp [k.len], k.nd, fun j c m hb hm => ?_⟩
  by_cases e : j = n
  · subst e
    rw [ha] at hb
    cases hb
    rw [List.getElem?_set_self (by rw [← k.len]; exact (List.getElem?_eq_some_iff.mp ha).1)] at hm
    cases hm
    exact ⟨hi, _, hH, .cons .int (.cons .int (.cons .int (.cons (.lst hl RpL.ints) .nil)))⟩
  · rw [List.getElem?_set_ne (fun q => e q.symm)] at hm
    exact k.ob j c m hb hm
theorem RpL.ints_inv {vs : List V} {ns : List Int} (r : RpL K mg I μ vs (ns.map D.int)) : vs = ns.map V.int := by
  induction ns generalizing vs with
  | nil => cases r; rfl
  | cons n ns ih => cases r with | cons h t => cases h; rw [ih t]; rfl
theorem Ok.closeB {n : Nat} {x y z : Int} {cs : List Int} (k : Ok K mg Z I μ S H) (h : S[n]? = some (.lst [.int x, .int y, .int z, .lst (cs.map D.int)])) (b : BagOk x y z cs) : Ok K mg Z I μ (S.set n .bag) H := by
  obtain ⟨a, ha, hi, vs, hH, r⟩ := k.at h
  refine ⟨k.fra, k.gnd, k.sub, by simp [k.len], k.nd, fun j c m hb hm => ?_⟩
  by_cases e : j = n
  · subst e
    rw [ha] at hb
    cases hb
    rw [List.getElem?_set_self (by rw [← k.len]; exact (List.getElem?_eq_some_iff.mp ha).1)] at hm
    cases hm
    cases r with | cons r1 r =>
    cases r with | cons r2 r =>
    cases r with | cons r3 r =>
    cases r with | cons r4 r =>
    cases r
    cases r1
    cases r2
    cases r3
    cases r4 with
    | lst hl t => exact ⟨hi, x, y, z, _, cs, hH, by rw [hl, t.ints_inv], b⟩
  · rw [List.getElem?_set_ne (fun q => e q.symm)] at hm
    exact k.ob j c m hb hm
end
end Sq

set_option Elab.async false
set_option maxRecDepth 100000
set_option maxHeartbeats 4000000
set_option linter.all false
/-! What an expression does, told of data: its word; the word is kept by the reading. -/
namespace Sq
open PySem L2

abbrev WE := Ro → Sto → (D → Sto → Prop) → Prop
abbrev WT := Ro → Sto → (Bool → Sto → Prop) → Prop
abbrev WA := Ro → Sto → (List D → Sto → Prop) → Prop

def gt : Ro → Nat → Option D
  | [], _ => none
  | x :: _, 0 => x
  | _ :: r, n + 1 => gt r n
def st : Ro → Nat → Option D → Ro
  | [], _, _ => []
  | _ :: r, 0, d => d :: r
  | x :: r, n + 1, d => x :: st r n d
def onS {α : Type} (o : Option α) (k : α → Prop) : Prop :=
  match o with
  | some a => k a
  | none => False
@[simp] theorem onS_some {α : Type} (a : α) (k : α → Prop) : onS (some a) k = k a := rfl
@[simp] theorem onS_none {α : Type} (k : α → Prop) : onS none k = False := rfl
theorem onS_iff {α : Type} {o : Option α} {k : α → Prop} (h : onS o k) : ∃ a, o = some a ∧ k a := by
  cases o with
  | none => exact h.elim
  | some a => exact ⟨a, rfl, h⟩
theorem gt_st : ∀ (ρ : Ro) (i j : Nat) (d : Option D), gt (st ρ i d) j = if i = j ∧ i < ρ.length then d else gt ρ j
  | [], _, _, _ => by simp [st, gt]
  | x :: r, 0, 0, d => by simp [st, gt]
  | x :: r, 0, j + 1, d => by simp [st, gt]
  | x :: r, i + 1, 0, d => by simp [st, gt]
  | x :: r, i + 1, j + 1, d => by simp [st, gt, gt_st r i j d]
theorem st_length : ∀ (ρ : Ro) (i : Nat) (d : Option D), (st ρ i d).length = ρ.length
  | [], _, _ => rfl
  | x :: r, 0, d => rfl
  | x :: r, i + 1, d => by simp [st, st_length r i d]
theorem gt_lt : ∀ {ρ : Ro} {i : Nat} {d : D}, gt ρ i = some d → i < ρ.length
  | [], _, _, h => by simp [gt] at h
  | x :: r, 0, _, h => by simp
  | x :: r, i + 1, d, h => by have := gt_lt (ρ := r) (i := i) (d := d) (by simpa [gt] using h); simpa using this

structure RpS (K : PySem.W.Frag) (mg : Str → Option Value) (I : Hp) (μ : List Addr) (σ : L2.St) (ρ : Ro) : Prop where
  len : σ.length = ρ.length
  get : ∀ (i : Nat) (d : D), gt ρ i = some d → ∃ v, σ[i]? = some (some v) ∧ Rp K mg I μ v d

section
variable {K : PySem.W.Frag} {mg : Str → Option Value} {I I' : Hp} {μ μ' : List Addr} {S S' : Sto} {H H' : Hp} {σ : L2.St} {ρ : Ro}
theorem RpS.ext (r : RpS K mg I μ σ ρ) (e : Ext I μ I' μ') : RpS K mg I' μ' σ ρ :=
  ⟨r.len, fun i d h => let ⟨v, q, z⟩ := r.get i d h; ⟨v, q, z.ext e⟩⟩
theorem RpS.put (r : RpS K mg I μ σ ρ) {v : V} {d : D} (h : Rp K mg I μ v d) (i : Nat) : RpS K mg I μ (σ.set i (some v)) (st ρ i (some d)) := by
  refine ⟨by rw [List.length_set, st_length]; exact r.len, fun j e q => ?_⟩
  rw [gt_st] at q
  split at q
  · rename_i c
    obtain ⟨rfl, hl⟩ := c
    cases q
    exact ⟨v, by rw [List.getElem?_set_self (by rw [r.len]; exact hl)], h⟩
  · rename_i c
    obtain ⟨w, q1, q2⟩ := r.get j e q
    refine ⟨w, ?_, q2⟩
    by_cases z : i = j
    · subst z
      exact absurd ⟨rfl, gt_lt q⟩ c
    · rw [List.getElem?_set_ne z]; exact q1
end

/-- what is wanted of a value and a heap, by what is wanted of data -/
def Kp (K : PySem.W.Frag) (mg : Str → Option Value) (Z : Zt) (I : Hp) (μ : List Addr) (Φ : D → Sto → Prop) (Q : VK) : Prop :=
  ∀ (v : V) (d : D) (I' : Hp) (μ' : List Addr) (S' : Sto) (H' : Hp), Ext I μ I' μ' → Ok K mg Z I' μ' S' H' → Rp K mg I' μ' v d → Φ d S' → Q v H'
def Kb (K : PySem.W.Frag) (mg : Str → Option Value) (Z : Zt) (I : Hp) (μ : List Addr) (Φ : Bool → Sto → Prop) (Q : Bool → Hp → Prop) : Prop :=
  ∀ (b : Bool) (I' : Hp) (μ' : List Addr) (S' : Sto) (H' : Hp), Ext I μ I' μ' → Ok K mg Z I' μ' S' H' → Φ b S' → Q b H'
def Ka (K : PySem.W.Frag) (mg : Str → Option Value) (Z : Zt) (I : Hp) (μ : List Addr) (Φ : List D → Sto → Prop) (Q : List V → Hp → Prop) : Prop :=
  ∀ (vs : List V) (ds : List D) (I' : Hp) (μ' : List Addr) (S' : Sto) (H' : Hp), Ext I μ I' μ' → Ok K mg Z I' μ' S' H' → RpL K mg I' μ' vs ds → Φ ds S' → Q vs H'
def Sim (K : PySem.W.Frag) (mg : Str → Option Value) (Z : Zt) (te : TE) (w : WE) : Prop :=
  ∀ (σ : L2.St) (ρ : Ro) (I : Hp) (μ : List Addr) (S : Sto) (H : Hp) (Q : VK) (Φ : D → Sto → Prop), RpS K mg I μ σ ρ → Ok K mg Z I μ S H → w ρ S Φ → Kp K mg Z I μ Φ Q → te σ H Q
def SimT (K : PySem.W.Frag) (mg : Str → Option Value) (Z : Zt) (te : TT) (w : WT) : Prop :=
  ∀ (σ : L2.St) (ρ : Ro) (I : Hp) (μ : List Addr) (S : Sto) (H : Hp) (Q : Bool → Hp → Prop) (Φ : Bool → Sto → Prop), RpS K mg I μ σ ρ → Ok K mg Z I μ S H → w ρ S Φ → Kb K mg Z I μ Φ Q → te σ H Q
def SimA (K : PySem.W.Frag) (mg : Str → Option Value) (Z : Zt) (te : TA) (w : WA) : Prop :=
  ∀ (σ : L2.St) (ρ : Ro) (I : Hp) (μ : List Addr) (S : Sto) (H : Hp) (Q : List V → Hp → Prop) (Φ : List D → Sto → Prop), RpS K mg I μ σ ρ → Ok K mg Z I μ S H → w ρ S Φ → Ka K mg Z I μ Φ Q → te σ H Q
/-! ### exceptions, told of data: the class, the fields -/
abbrev Xk := Str → List (Str × D) → Ro → Sto → Prop
abbrev Xf := Str → List (Str × D) → Sto → Prop
def XRp (K : PySem.W.Frag) (mg : Str → Option Value) (I : Hp) (μ : List Addr) (c : Str) (fs : List (Str × D)) (cls : Value) (d : Option Addr) : Prop :=
  ∃ C, mg c = some (.ref C) ∧ cls = .ref C ∧ match d with
    | none => fs = []
    | some dd => ∃ fv, I dd = some (.xd fv) ∧ RpF K mg I μ fv fs
theorem XRp.ext {K : PySem.W.Frag} {mg : Str → Option Value} {I I' : Hp} {μ μ' : List Addr} {c : Str} {fs : List (Str × D)} {cls : Value} {d : Option Addr} (r : XRp K mg I μ c fs cls d) (e : Ext I μ I' μ') : XRp K mg I' μ' c fs cls d := by
  obtain ⟨C, h, q, z⟩ := r
  refine ⟨C, h, q, ?_⟩
  cases d with
  | none => exact z
  | some dd => obtain ⟨fv, y, r⟩ := z; exact ⟨fv, e.hp _ _ y, r.ext e⟩
/-- what the surroundings wish of an exception: at the machine; of data -/
structure Gam where
  W : WX
  Ψ : Xk
/-- nothing may be raised -/
def G0 : Gam := ⟨fun _ _ _ _ => False, fun _ _ _ _ => False⟩
def Lk (X : Cx) (Γ : Gam) (Z : Zt) : Prop := ∀ (c : Str) (fs : List (Str × D)) (cls : Value) (d : Option Addr) (σ : L2.St) (ρ : Ro) (I : Hp) (μ : List Addr) (S : Sto) (H : Hp), Ok X.K X.mg Z I μ S H → RpS X.K X.mg I μ σ ρ → XRp X.K X.mg I μ c fs cls d → Γ.Ψ c fs ρ S → Γ.W cls d σ H
theorem Lk.zero {X : Cx} {Z : Zt} : Lk X G0 Z := fun _ _ _ _ _ _ _ _ _ _ _ _ _ h => h
structure SE (X : Cx) (Γ : Gam) (e : Expr) (te : TE) (w : WE) : Prop where
  pe : PE X e te
  si : ∀ Z : Zt, Lk X Γ Z → Sim X.K X.mg Z te w
structure ST (X : Cx) (Γ : Gam) (e : Expr) (te : TT) (w : WT) : Prop where
  pt : PT X e te
  si : ∀ Z : Zt, Lk X Γ Z → SimT X.K X.mg Z te w
structure SA (X : Cx) (Γ : Gam) (es : List Expr) (te : TA) (w : WA) : Prop where
  pa : PA X es te
  si : ∀ Z : Zt, Lk X Γ Z → SimA X.K X.mg Z te w

section
variable {K : PySem.W.Frag} {mg : Str → Option Value} {Z : Zt} {I I1 : Hp} {μ μ1 : List Addr}
theorem Kp.ext {Φ : D → Sto → Prop} {Q : VK} (k : Kp K mg Z I μ Φ Q) (e : Ext I μ I1 μ1) : Kp K mg Z I1 μ1 Φ Q :=
  fun v d I' μ' S' H' e' o r q => k v d I' μ' S' H' (e.trans e') o r q
theorem Kb.ext {Φ : Bool → Sto → Prop} {Q : Bool → Hp → Prop} (k : Kb K mg Z I μ Φ Q) (e : Ext I μ I1 μ1) : Kb K mg Z I1 μ1 Φ Q :=
  fun v I' μ' S' H' e' o q => k v I' μ' S' H' (e.trans e') o q
theorem Ka.ext {Φ : List D → Sto → Prop} {Q : List V → Hp → Prop} (k : Ka K mg Z I μ Φ Q) (e : Ext I μ I1 μ1) : Ka K mg Z I1 μ1 Φ Q :=
  fun v d I' μ' S' H' e' o r q => k v d I' μ' S' H' (e.trans e') o r q
end

/-- what a name stands for: a list in the store that is held fast is that list -/
def res (S : Sto) : D → D
  | .h n => match S[n]? with
    | some (.frz d) => d
    | _ => .h n
  | d => d
theorem res_rp {K : PySem.W.Frag} {mg : Str → Option Value} {Z : Zt} {I : Hp} {μ : List Addr} {S : Sto} {H : Hp} {v : V} {d : D} (o : Ok K mg Z I μ S H) (r : Rp K mg I μ v d) : Rp K mg I μ v (res S d) := by
  cases r with
  | h q =>
    rename_i a n
    unfold res
    simp only
    split
    · rename_i d' e
      have := o.ob n a _ q e
      exact this.2
    · exact .h q
  | _ => first | exact .non | exact .bl | exact .int | exact .str | (constructor <;> assumption)

/-! ### names and constants -/
def wVar (i : Nat) : WE := fun ρ S Q => onS (gt ρ i) fun d => Q (res S d) S
def wC (d : D) : WE := fun _ S Q => Q d S
section
variable {X : Cx} {Γ : Gam}
theorem se_var (i : Nat) {x : Str} {pos : Pos} (hN : X.N[i]? = some x := by rfl) (hv : Vis X.env.scope x := by first | exact Or.inl rfl | exact Or.inr (Or.inl rfl) | exact Or.inr (Or.inr rfl)) (hd : (x == ("__debug__" : Str)) = false := by decide)
    (hcd : (x == ("__classdict__" : Str)) = false := by decide) : SE X Γ (.Name x pos) (tVar i) (wVar i) := by
  refine ⟨pe_var hN hv hd hcd, fun Z lk σ ρ I μ S H Q Φ rs ok h k => ?_⟩
  obtain ⟨d, e, q⟩ := onS_iff h
  obtain ⟨v, e1, r⟩ := rs.get i d e
  exact ⟨v, e1, k v _ I μ S H .refl ok (res_rp ok r) q⟩
theorem se_int {i j pos} : SE X Γ (.Constant (.int i) j pos) (tC (.int i)) (wC (.int i)) := ⟨pe_int, fun _ _ _ _ I μ S H _ _ _ ok h k => k _ _ I μ S H .refl ok .int h⟩
theorem se_bl {i j pos} : SE X Γ (.Constant (.bool i) j pos) (tC (.bl i)) (wC (.bl i)) := ⟨pe_bl, fun _ _ _ _ I μ S H _ _ _ ok h k => k _ _ I μ S H .refl ok .bl h⟩
theorem se_str {i j pos} : SE X Γ (.Constant (.str i) j pos) (tC (.str i)) (wC (.str i)) := ⟨pe_str, fun _ _ _ _ I μ S H _ _ _ ok h k => k _ _ I μ S H .refl ok .str h⟩
theorem se_non {j pos} : SE X Γ (.Constant .none j pos) (tC .non) (wC .non) := ⟨pe_non, fun _ _ _ _ I μ S H _ _ _ ok h k => k _ _ I μ S H .refl ok .non h⟩
end
/-- a constant of the module -/
def GK (K : PySem.W.Frag) (mg : Str → Option Value) (x : Str) (d : D) : Prop := ∃ (v : V) (u : Value), mg x = some u ∧ RelV v u ∧ ∀ (I : Hp) (μ : List Addr), Rp K mg I μ v d
def tG (mg : Str → Option Value) (x : Str) : TE := fun _ H Q => ∃ (v : V) (u : Value), mg x = some u ∧ RelV v u ∧ Q v H
theorem se_glob {X : Cx} {x : Str} {d : D} {pos : Pos} (c : GK X.K X.mg x d) (hg : Gl X x := by rfl) (hd : (x == ("__debug__" : Str)) = false := by decide) : SE X Γ (.Name x pos) (tG X.mg x) (wC d) := by
  refine ⟨⟨fun pins s σ H Q I h => ?_⟩, fun Z lk σ ρ I μ S H Q Φ rs ok h k => ?_⟩
  · obtain ⟨v, u, hm, r, q⟩ := h
    exact (pe_glob hg hm r hd).run pins s σ H Q I q
  · obtain ⟨v, u, hm, r, q⟩ := c
    exact ⟨v, u, hm, r, k v d I μ S H .refl ok (q I μ) h⟩

/-! ### operators -/
abbrev F2 := Sto → D → D → (D → Sto → Prop) → Prop
def OpD (K : PySem.W.Frag) (mg : Str → Option Value) (Z : Zt) (r : R2) (f : F2) : Prop :=
  ∀ (I : Hp) (μ : List Addr) (S : Sto) (H : Hp) (x y : V) (a b : D) (Q : VK) (Φ : D → Sto → Prop), Ok K mg Z I μ S H → Rp K mg I μ x a → Rp K mg I μ y b → f S a b Φ → Kp K mg Z I μ Φ Q → r x y H Q
def wOp (f : F2) (wa wb : WE) : WE := fun ρ S Q => wa ρ S fun x S1 => wb ρ S1 fun y S2 => f S2 x y Q
theorem sim_op {K : PySem.W.Frag} {mg : Str → Option Value} {Z : Zt} {ta tb : TE} {wa wb : WE} {r : R2} {f : F2} (ha : Sim K mg Z ta wa) (hb : Sim K mg Z tb wb) (hf : OpD K mg Z r f) : Sim K mg Z (tOp r ta tb) (wOp f wa wb) := fun σ ρ I μ S H Q Φ rs ok h k =>
  ha σ ρ I μ S H _ _ rs ok h fun x a I1 μ1 S1 H1 e1 o1 r1 q1 => hb σ ρ I1 μ1 S1 H1 _ _ (rs.ext e1) o1 q1 fun y b I2 μ2 S2 H2 e2 o2 r2 q2 =>
    hf I2 μ2 S2 H2 x y a b Q Φ o2 (r1.ext e2) r2 q2 (k.ext (e1.trans e2))
section
variable {X : Cx} {Γ : Gam} {a b : Expr} {ta tb : TE} {wa wb : WE} {pos : Pos}
end
def F2.or (f g : F2) : F2 := fun S x y Q => f S x y Q ∨ g S x y Q
theorem OpD.or {K : PySem.W.Frag} {mg : Str → Option Value} {Z : Zt} {r r' : R2} {f g : F2} (h : OpD K mg Z r f) (h' : OpD K mg Z r' g) : OpD K mg Z (fun x y H Q => r x y H Q ∨ r' x y H Q) (f.or g) := fun I μ S H x y a b Q Φ ok ra rb q k => by
  rcases q with q | q
  · exact .inl (h I μ S H x y a b Q Φ ok ra rb q k)
  · exact .inr (h' I μ S H x y a b Q Φ ok ra rb q k)
/-- the word by cases of the data, kept by rules that are joined -/
theorem OpD.imp {K : PySem.W.Frag} {mg : Str → Option Value} {Z : Zt} {r : R2} {f g : F2} (h : OpD K mg Z r f) (hi : ∀ S x y Q, g S x y Q → f S x y Q) : OpD K mg Z r g := fun I μ S H x y a b Q Φ ok ra rb q k => h I μ S H x y a b Q Φ ok ra rb (hi _ _ _ _ q) k

theorem rp_int {K : PySem.W.Frag} {mg : Str → Option Value} {I : Hp} {μ : List Addr} {v : V} {i : Int} (h : Rp K mg I μ v (.int i)) : v = .int i := by cases h; rfl
theorem rp_bl {K : PySem.W.Frag} {mg : Str → Option Value} {I : Hp} {μ : List Addr} {v : V} {i : Bool} (h : Rp K mg I μ v (.bl i)) : v = .bl i := by cases h; rfl
theorem rp_str {K : PySem.W.Frag} {mg : Str → Option Value} {I : Hp} {μ : List Addr} {v : V} {i : Str} (h : Rp K mg I μ v (.str i)) : v = .str i := by cases h; rfl
theorem rp_non {K : PySem.W.Frag} {mg : Str → Option Value} {I : Hp} {μ : List Addr} {v : V} (h : Rp K mg I μ v .non) : v = .non := by cases h; rfl

/-- ints in -/
def fI (C : Int → Int → Prop) (g : Int → Int → D) : F2 := fun S x y Q => match x, y with
  | .int i, .int j => C i j ∧ Q (g i j) S
  | _, _ => False
theorem opd_I {K : PySem.W.Frag} {mg : Str → Option Value} {Z : Zt} {C : Int → Int → Prop} {g : Int → Int → V} {g' : Int → Int → D} (hg : ∀ i j I μ, Rp K mg I μ (g i j) (g' i j)) : OpD K mg Z (rI C g) (fI C g') := by
  intro I μ S H x y a b Q Φ ok ra rb q k
  unfold fI at q
  split at q
  · rename_i i j
    rw [rp_int ra, rp_int rb]
    exact ⟨i, j, rfl, rfl, q.1, k _ _ I μ S H .refl ok (hg i j I μ) q.2⟩
  · exact q.elim
theorem opd_I0 {K : PySem.W.Frag} {mg : Str → Option Value} {Z : Zt} {g : Int → Int → V} {g' : Int → Int → D} (hg : ∀ i j I μ, Rp K mg I μ (g i j) (g' i j)) : OpD K mg Z (rI0 g) (fI (fun _ _ => True) g') := by
  intro I μ S H x y a b Q Φ ok ra rb q k
  unfold fI at q
  split at q
  · rename_i i j
    rw [rp_int ra, rp_int rb]
    exact ⟨i, j, rfl, rfl, k _ _ I μ S H .refl ok (hg i j I μ) q.2⟩
  · exact q.elim

/-! ### argument lists, displays -/
def wNil : WA := fun _ S Q => Q [] S
def wCons (wa : WE) (wr : WA) : WA := fun ρ S Q => wa ρ S fun x S1 => wr ρ S1 fun xs S2 => Q (x :: xs) S2
section
variable {X : Cx} {Γ : Gam} {e : Expr} {es : List Expr} {te : TE} {t : TA} {we : WE} {wr : WA} {pos : Pos}
theorem sa_nil : SA X Γ [] tNil wNil := ⟨pa_nil, fun _ _ _ _ I μ S H _ _ _ ok h k => k _ _ I μ S H .refl ok .nil h⟩
theorem sa_cons (ha : SE X Γ e te we) (hr : SA X Γ es t wr) (hs : starEach (e :: es) X.env = (false, eval e X.env) :: starEach es X.env := by rfl) : SA X Γ (e :: es) (tCons te t) (wCons we wr) :=
  ⟨pa_cons ha.pe hr.pa hs, fun Z lk σ ρ I μ S H Q Φ rs ok h k => ha.si Z lk σ ρ I μ S H _ _ rs ok h fun x a I1 μ1 S1 H1 e1 o1 r1 q1 => hr.si Z lk σ ρ I1 μ1 S1 H1 _ _ (rs.ext e1) o1 q1 fun y b I2 μ2 S2 H2 e2 o2 r2 q2 =>
    k _ _ I2 μ2 S2 H2 (e1.trans e2) o2 (.cons (r1.ext e2) r2) q2⟩
/-- few items: as written -/
def LIM : Nat := 10000000
theorem lim {n : Nat} (h : n ≤ LIM) : n ≤ sizeLine := Nat.le_trans h (by rw [sizeLine_eq]; decide)
theorem lim_lt {n : Nat} (h : n < LIM) : n < sizeLine := Nat.lt_of_lt_of_le h (lim (Nat.le_refl _))
def wTup (wr : WA) : WE := fun ρ S Q => wr ρ S fun ds S1 => ds.length ≤ LIM ∧ Q (.tup ds) S1
def wLst (wr : WA) : WE := fun ρ S Q => wr ρ S fun ds S1 => ds.length ≤ LIM ∧ Q (.lst ds) S1
theorem se_tup {x1} (h : SA X Γ es t wr) : SE X Γ (.Tuple es x1 pos) (tTup t) (wTup wr) :=
  ⟨pe_tup h.pa, fun Z lk σ ρ I μ S H Q Φ rs ok hw k => h.si Z lk σ ρ I μ S H _ _ rs ok hw fun vs ds I1 μ1 S1 H1 e1 o1 r1 q1 => ⟨lim (by rw [r1.length]; exact q1.1), fun p hp => by
    have i := free_of o1.sub hp
    exact k _ _ _ μ1 S1 _ (e1.trans (Ext.new i)) (o1.new hp) (.tup (SqT.of upd_same) (r1.ext (Ext.new i))) q1.2⟩⟩
theorem se_lst (h : SA X Γ es t wr) : SE X Γ (.List es pos) (tLst t) (wLst wr) :=
  ⟨pe_lst h.pa, fun Z lk σ ρ I μ S H Q Φ rs ok hw k => h.si Z lk σ ρ I μ S H _ _ rs ok hw fun vs ds I1 μ1 S1 H1 e1 o1 r1 q1 => ⟨lim (by rw [r1.length]; exact q1.1), fun p hp => by
    have i := free_of o1.sub hp
    exact k _ _ _ μ1 S1 _ (e1.trans (Ext.new i)) (o1.new hp) (.lst upd_same (r1.ext (Ext.new i))) q1.2⟩⟩
/-- a list that is to change -/
def wLstM (wr : WA) : WE := fun ρ S Q => wr ρ S fun ds S1 => ds.length ≤ LIM ∧ Q (.h S1.length) (S1 ++ [.lst ds])
theorem mu_last {K : PySem.W.Frag} {mg : Str → Option Value} {Z : Zt} {I : Hp} {μ : List Addr} {S : Sto} {H : Hp} (o : Ok K mg Z I μ S H) (p : Addr) : (μ ++ [p])[S.length]? = some p := by
  rw [← o.len, List.getElem?_append_right (Nat.le_refl _)]; simp
theorem se_lstM (h : SA X Γ es t wr) : SE X Γ (.List es pos) (tLst t) (wLstM wr) :=
  ⟨pe_lst h.pa, fun Z lk σ ρ I μ S H Q Φ rs ok hw k => h.si Z lk σ ρ I μ S H _ _ rs ok hw fun vs ds I1 μ1 S1 H1 e1 o1 r1 q1 => ⟨lim (by rw [r1.length]; exact q1.1), fun p hp => by
    have i := free_of o1.sub hp
    exact k _ _ _ _ _ _ (e1.trans Ext.push) (o1.push (m := .lst ds) hp ⟨i, vs, upd_same, r1.ext Ext.push⟩) (.h (mu_last o1 p)) q1.2⟩⟩
end
end Sq

set_option Elab.async false
set_option maxRecDepth 100000
set_option maxHeartbeats 4000000
set_option linter.all false
/-! Operators, comparisons, tests, subscripts, told of data. -/
namespace Sq
open PySem L2

/-- a thing as it is looked at -/
def view (S : Sto) : D → D
  | .h n => match S[n]? with
    | some (.frz d) => d
    | some (.lst ds) => .lst ds
    | some (.dct k) => .dct k
    | some (.lck _ k) => .dct k
    | _ => .h n
  | d => d
section
variable {K : PySem.W.Frag} {mg : Str → Option Value} {Z : Zt} {I : Hp} {μ : List Addr} {S : Sto} {H : Hp} {v : V} {d : D}
theorem view_lst (o : Ok K mg Z I μ S H) (r : Rp K mg I μ v d) {ds : List D} (e : view S d = .lst ds) : ∃ (p : Addr) (vs : List V), v = .ref p ∧ H p = some (.lst vs) ∧ RpL K mg I μ vs ds := by
  have base : ∀ {v : V} {ds : List D}, Rp K mg I μ v (.lst ds) → ∃ (p : Addr) (vs : List V), v = .ref p ∧ H p = some (.lst vs) ∧ RpL K mg I μ vs ds := fun r => by
    cases r with | lst h q => exact ⟨_, _, rfl, o.sub _ _ h, q⟩
  cases r with
  | h q =>
    rename_i a n
    unfold view at e
    simp only at e
    split at e
    · rename_i d' c
      subst e
      exact base (o.ob n a _ q c).2
    · rename_i xs c
      cases e
      obtain ⟨_, vs, z, y⟩ := o.ob n a _ q c
      exact ⟨a, vs, rfl, z, y⟩
    · cases e
    · cases e
    · cases e
  | lst h q =>
    cases e
    exact ⟨_, _, rfl, o.sub _ _ h, q⟩
  | _ => cases e
theorem view_tup (o : Ok K mg Z I μ S H) (r : Rp K mg I μ v d) {ds : List D} (e : view S d = .tup ds) : ∃ (p : Addr) (vs : List V), v = .ref p ∧ SqT K I p vs ∧ SqT K H p vs ∧ RpL K mg I μ vs ds := by
  have base : ∀ {v : V} {ds : List D}, Rp K mg I μ v (.tup ds) → ∃ (p : Addr) (vs : List V), v = .ref p ∧ SqT K I p vs ∧ SqT K H p vs ∧ RpL K mg I μ vs ds := fun r => by
    cases r with | tup h q => exact ⟨_, _, rfl, h, same_t o.sub h, q⟩
  cases r with
  | h q =>
    rename_i a n
    unfold view at e
    simp only at e
    split at e
    · rename_i d' c
      subst e
      exact base (o.ob n a _ q c).2
    · cases e
    · cases e
    · cases e
    · cases e
  | tup h q =>
    cases e
    exact ⟨_, _, rfl, h, same_t o.sub h, q⟩
  | _ => cases e
theorem view_dct (o : Ok K mg Z I μ S H) (r : Rp K mg I μ v d) {ds : List (Key × D)} (e : view S d = .dct ds) : ∃ (p : Addr) (vs : List (Key × V)), v = .ref p ∧ Rd H p (.dK vs) ∧ RpK K mg I μ vs ds := by
  have base : ∀ {v : V} {ds : List (Key × D)}, Rp K mg I μ v (.dct ds) → ∃ (p : Addr) (vs : List (Key × V)), v = .ref p ∧ Rd H p (.dK vs) ∧ RpK K mg I μ vs ds := fun r => by
    cases r with | dct h q => exact ⟨_, _, rfl, .inr ⟨_, o.sub _ _ h⟩, q⟩
  cases r with
  | h q =>
    rename_i a n
    unfold view at e
    simp only at e
    split at e
    · rename_i d' c
      subst e
      exact base (o.ob n a _ q c).2
    · cases e
    · rename_i xs c
      cases e
      obtain ⟨_, vs, z, y⟩ := o.ob n a _ q c
      exact ⟨a, vs, rfl, .inl z, y⟩
    · rename_i o' xs c
      cases e
      obtain ⟨_, z, od, kv, rfl, y⟩ := o.ob n a _ q c
      exact ⟨a, kv, rfl, .inr ⟨_, z⟩, y⟩
    · cases e
  | dct h q =>
    cases e
    exact ⟨_, _, rfl, .inr ⟨_, o.sub _ _ h⟩, q⟩
  | _ => cases e
/-- scalars stand for themselves -/
theorem view_sc (o : Ok K mg Z I μ S H) (r : Rp K mg I μ v d) {e : D} (h : view S d = e) : (∀ i, e = .int i → v = .int i) ∧ (∀ i, e = .bl i → v = .bl i) ∧ (∀ i, e = .str i → v = .str i) ∧ (e = .non → v = .non) := by
  subst h
  have base : ∀ {v : V} {e : D}, Rp K mg I μ v e → (∀ i, e = .int i → v = .int i) ∧ (∀ i, e = .bl i → v = .bl i) ∧ (∀ i, e = .str i → v = .str i) ∧ (e = .non → v = .non) := fun r =>
    ⟨fun i q => by subst q; exact rp_int r, fun i q => by subst q; exact rp_bl r, fun i q => by subst q; exact rp_str r, fun q => by subst q; exact rp_non r⟩
  cases r with
  | h q =>
    rename_i a n
    unfold view
    simp only
    split
    · rename_i d' c
      exact base (o.ob n a _ q c).2
    · exact ⟨fun _ q => (nomatch q), fun _ q => (nomatch q), fun _ q => (nomatch q), fun q => (nomatch q)⟩
    · exact ⟨fun _ q => (nomatch q), fun _ q => (nomatch q), fun _ q => (nomatch q), fun q => (nomatch q)⟩
    · exact ⟨fun _ q => (nomatch q), fun _ q => (nomatch q), fun _ q => (nomatch q), fun q => (nomatch q)⟩
    · exact ⟨fun _ q => (nomatch q), fun _ q => (nomatch q), fun _ q => (nomatch q), fun q => (nomatch q)⟩
  | non => exact base .non
  | bl => exact base .bl
  | int => exact base .int
  | str => exact base .str
  | tup h q => exact base (.tup h q)
  | lst h q => exact base (.lst h q)
  | dct h q => exact base (.dct h q)
  | ins m h q => exact base (.ins m h q)
  | scr h => exact base (.scr h)
  | exc0 a b c d => exact base (.exc0 a b c d)
  | exc1 a b c d e f => exact base (.exc1 a b c d e f)
  | fn a => exact base (.fn a)
theorem view_int (o : Ok K mg Z I μ S H) (r : Rp K mg I μ v d) {i : Int} (h : view S d = .int i) : v = .int i := (view_sc o r h).1 i rfl
theorem view_bl (o : Ok K mg Z I μ S H) (r : Rp K mg I μ v d) {i : Bool} (h : view S d = .bl i) : v = .bl i := (view_sc o r h).2.1 i rfl
theorem view_str (o : Ok K mg Z I μ S H) (r : Rp K mg I μ v d) {i : Str} (h : view S d = .str i) : v = .str i := (view_sc o r h).2.2.1 i rfl
theorem view_non (o : Ok K mg Z I μ S H) (r : Rp K mg I μ v d) (h : view S d = .non) : v = .non := (view_sc o r h).2.2.2 rfl
end

/-! ### arithmetic -/
def fAdd : F2 := fun S x y Q => match view S x, view S y with
  | .int i, .int j => Q (.int (i + j)) S
  | .lst a, .lst b => a.length + b.length ≤ LIM ∧ Q (.lst (a ++ b)) S
  | .tup a, .tup b => a ≠ [] ∧ b ≠ [] ∧ a.length + b.length ≤ LIM ∧ Q (.tup (a ++ b)) S
  | .str a, .str b => a.length + b.length ≤ LIM ∧ Q (.str (a ++ b)) S
  | _, _ => False
def rAddA (K : PySem.W.Frag) : R2 := fun x y H Q => rI0 (fun i j => .int (i + j)) x y H Q ∨ rCat x y H Q ∨ rCatT K x y H Q ∨ ∃ i j, x = .str i ∧ y = .str j ∧ i.length + j.length ≤ sizeLine ∧ Q (.str (i ++ j)) H
theorem or_add {X : Cx} : OpR X (binaryOp .Add) (rAddA X.K) := op_add.or (op_cat.or (op_catT.or op_add_str))
theorem opd_add {K : PySem.W.Frag} {mg : Str → Option Value} {Z : Zt} : OpD K mg Z (rAddA K) fAdd := by
  intro I μ S H x y a b Q Φ ok ra rb q k
  unfold fAdd at q
  split at q
  · rename_i i j e1 e2
    rw [view_int ok ra e1, view_int ok rb e2]
    exact .inl ⟨i, j, rfl, rfl, k _ _ I μ S H .refl ok .int q⟩
  · rename_i i j e1 e2
    obtain ⟨p, vs, rfl, h1, r1⟩ := view_lst ok ra e1
    obtain ⟨p2, ws, rfl, h2, r2⟩ := view_lst ok rb e2
    refine .inr (.inl ⟨p, p2, vs, ws, rfl, rfl, h1, h2, lim (by rw [r1.length, r2.length]; exact q.1), fun l hl => ?_⟩)
    have i := free_of ok.sub hl
    exact k _ _ _ μ S _ (Ext.new i) (ok.new hl) (.lst upd_same ((r1.append r2).ext (Ext.new i))) q.2
  · rename_i i j e1 e2
    obtain ⟨p, vs, rfl, _, h1, r1⟩ := view_tup ok ra e1
    obtain ⟨p2, ws, rfl, _, h2, r2⟩ := view_tup ok rb e2
    have n1 : vs ≠ [] := fun z => q.1 (List.eq_nil_of_length_eq_zero (by rw [← r1.length, z]; rfl))
    have n2 : ws ≠ [] := fun z => q.2.1 (List.eq_nil_of_length_eq_zero (by rw [← r2.length, z]; rfl))
    refine .inr (.inr (.inl ⟨p, p2, vs, ws, rfl, rfl, h1, h2, n1, lim (by rw [r1.length, r2.length]; exact q.2.2.1), ?_⟩))
    refine ⟨fun z => absurd z n2, fun _ l hl => ?_⟩
    have i := free_of ok.sub hl
    exact k _ _ _ μ S _ (Ext.new i) (ok.new hl) (.tup (SqT.of upd_same) ((r1.append r2).ext (Ext.new i))) q.2.2.2
  · rename_i i j e1 e2
    rw [view_str ok ra e1, view_str ok rb e2]
    exact .inr (.inr (.inr ⟨i, j, rfl, rfl, lim q.1, k _ _ I μ S H .refl ok .str q.2⟩))
  · exact q.elim
def fSub : F2 := fI (fun _ _ => True) fun i j => .int (i - j)
def fMod : F2 := fI (fun _ j => 0 < j) fun i j => .int (i % j)
def fDiv : F2 := fI CDivW fun i j => .int (i / j)
/-- repeated: a list, a text -/
def reps {α : Type} : Nat → List α → List α
  | 0, _ => []
  | n + 1, xs => xs ++ reps n xs
def fMul : F2 := fun S x y Q => match view S x, view S y with
  | .int i, .int j => IntMulOk i j ∧ Q (.int (i * j)) S
  | _, _ => False
theorem opd_mul {K : PySem.W.Frag} {mg : Str → Option Value} {Z : Zt} : OpD K mg Z (rI IntMulOk fun i j => .int (i * j)) fMul := by
  intro I μ S H x y a b Q Φ ok ra rb q k
  unfold fMul at q
  split at q
  · rename_i i j e1 e2
    rw [view_int ok ra e1, view_int ok rb e2]
    exact ⟨i, j, rfl, rfl, q.1, k _ _ I μ S H .refl ok .int q.2⟩
  · exact q.elim

/-! ### comparisons -/
mutual
def py : D → Option PyData
  | .non => some .none
  | .bl b => some (.bool b)
  | .int i => some (.int i)
  | .str s => some (.str s)
  | .tup ds => (pys ds).map .tuple
  | .lst ds => (pys ds).map .list
  | _ => none
def pys : List D → Option (List PyData)
  | [] => some []
  | d :: ds => match py d, pys ds with
    | some p, some ps => some (p :: ps)
    | _, _ => none
end
section
variable {K : PySem.W.Frag} {mg : Str → Option Value} {Z : Zt} {I : Hp} {μ : List Addr} {H : Hp}
mutual
theorem Rp.dp (s : Same I H) : ∀ {v : V} {d : D} {p : PyData}, Rp K mg I μ v d → py d = some p → Dp K H v p
  | _, _, _, .non, e => by cases e; exact .non
  | _, _, _, .bl, e => by cases e; exact .bl _
  | _, _, _, .int, e => by cases e; exact .int _
  | _, _, _, .str, e => by cases e; exact .str _
  | _, .tup ds, _, .tup h r, e => by
    unfold py at e
    cases q : pys ds with
    | none => rw [q] at e; cases e
    | some ps => rw [q] at e; cases e; exact .tup (same_t s h) (RpL.dp s r q)
  | _, .lst ds, _, .lst h r, e => by
    unfold py at e
    cases q : pys ds with
    | none => rw [q] at e; cases e
    | some ps => rw [q] at e; cases e; exact .lst (SqL.of (s _ _ h)) (RpL.dp s r q)
  | _, _, _, .dct h r, e => by cases e
  | _, _, _, .ins m h r, e => by cases e
  | _, _, _, .h q, e => by cases e
  | _, _, _, .scr q, e => by cases e
  | _, _, _, .exc0 _ _ _ _, e => by cases e
  | _, _, _, .exc1 _ _ _ _ _ _, e => by cases e
  | _, _, _, .fn _, e => by cases e
theorem RpL.dp (s : Same I H) : ∀ {v : List V} {d : List D} {p : List PyData}, RpL K mg I μ v d → pys d = some p → DpAll K H v p
  | _, _, _, .nil, e => by cases e; exact .nil
  | _, d :: ds, _, .cons h r, e => by
    unfold pys at e
    cases q1 : py d with
    | none => rw [q1] at e; cases e
    | some p =>
      cases q2 : pys ds with
      | none => rw [q1, q2] at e; cases e
      | some ps => rw [q1, q2] at e; cases e; exact .cons (Rp.dp s h q1) (RpL.dp s r q2)
end
theorem view_dp {S : Sto} {v : V} {d : D} {p : PyData} (o : Ok K mg Z I μ S H) (r : Rp K mg I μ v d) (e : py (view S d) = some p) : Dp K H v p := by
  cases r with
  | h q =>
    rename_i a n
    unfold view at e
    simp only at e
    split at e
    · rename_i d' c
      exact (o.ob n a _ q c).2.dp o.sub e
    · rename_i ds c
      obtain ⟨_, vs, z, y⟩ := o.ob n a _ q c
      unfold py at e
      cases q : pys ds with
      | none => rw [q] at e; cases e
      | some ps => rw [q] at e; cases e; exact .lst (SqL.of z) (y.dp o.sub q)
    · cases e
    · cases e
    · cases e
  | non => exact Rp.dp o.sub (K := K) (mg := mg) (I := I) (μ := μ) .non e
  | bl => exact Rp.dp o.sub (K := K) (mg := mg) (I := I) (μ := μ) .bl e
  | int => exact Rp.dp o.sub (K := K) (mg := mg) (I := I) (μ := μ) .int e
  | str => exact Rp.dp o.sub (K := K) (mg := mg) (I := I) (μ := μ) .str e
  | tup h q => exact Rp.dp o.sub (Rp.tup h q) e
  | lst h q => exact Rp.dp o.sub (Rp.lst h q) e
  | dct h q => cases e
  | ins m h q => cases e
  | scr h => cases e
  | exc0 _ _ _ _ => cases e
  | exc1 _ _ _ _ _ _ => cases e
  | fn _ => cases e
end
/-- == of data without own ones within: f of the answer -/
def fEqB (g : Bool → Bool) : F2 := fun S x y Q => match view S x, view S y with
  | .int i, .int j => Q (.bl (g (decide (i = j)))) S
  | .str i, .str j => Q (.bl (g (decide (i = j)))) S
  | .bl i, .bl j => Q (.bl (g (decide (i = j)))) S
  | .non, .non => Q (.bl (g true)) S
  | .non, .int _ => Q (.bl (g false)) S
  | .int _, .non => Q (.bl (g false)) S
  | .non, .str _ => Q (.bl (g false)) S
  | .str _, .non => Q (.bl (g false)) S
  | .non, .bl _ => Q (.bl (g false)) S
  | .bl _, .non => Q (.bl (g false)) S
  | .int _, .str _ => Q (.bl (g false)) S
  | .str _, .int _ => Q (.bl (g false)) S
  | .bl _, .str _ => Q (.bl (g false)) S
  | .str _, .bl _ => Q (.bl (g false)) S
  | a, b => onS (py a) fun p => onS (py b) fun q => SeqAt.shaped p = true ∧ SeqAt.shaped q = true ∧ Q (.bl (g (PyData.eqv p q))) S
def fEq : F2 := fEqB fun b => b
def fNe : F2 := fEqB not
def rEqA (K : PySem.W.Frag) : R2 := fun x y H Q => rEq x y H Q ∨ rEqD K x y H Q
def rNeA (K : PySem.W.Frag) : R2 := fun x y H Q => rNe x y H Q ∨ rNeD K x y H Q
theorem opd_eqB {K : PySem.W.Frag} {mg : Str → Option Value} {Z : Zt} {g : Bool → Bool} {r : R2}
    (h1 : ∀ x y H Q, scal x y = true → Q (.bl (g (decide (x = y)))) H → r x y H Q)
    (h2 : ∀ x y H Q p q, Dp K H x p → Dp K H y q → SeqAt.shaped p = true → SeqAt.shaped q = true → Q (.bl (g (PyData.eqv p q))) H → r x y H Q) : OpD K mg Z r (fEqB g) := by
  intro I μ S H x y a b Q Φ ok ra rb q k
  unfold fEqB at q
  have fin : ∀ c : Bool, Φ (.bl c) S → Q (.bl c) H := fun c z => k _ _ I μ S H .refl ok .bl z
  split at q <;> first
    | (rename_i i j e1 e2; rw [view_int ok ra e1, view_int ok rb e2]; exact h1 _ _ _ _ rfl (fin _ (by simpa using q)))
    | (rename_i i j e1 e2; rw [view_str ok ra e1, view_str ok rb e2]; exact h1 _ _ _ _ rfl (fin _ (by simpa using q)))
    | (rename_i i j e1 e2; rw [view_bl ok ra e1, view_bl ok rb e2]; exact h1 _ _ _ _ rfl (fin _ (by simpa using q)))
    | (rename_i e1 e2; rw [view_non ok ra e1, view_non ok rb e2]; exact h1 _ _ _ _ rfl (fin _ (by simpa using q)))
    | (rename_i i e1 e2; rw [view_non ok ra e1, view_int ok rb e2]; exact h1 _ _ _ _ rfl (fin _ (by simpa using q)))
    | (rename_i i e1 e2; rw [view_int ok ra e1, view_non ok rb e2]; exact h1 _ _ _ _ rfl (fin _ (by simpa using q)))
    | (rename_i i e1 e2; rw [view_non ok ra e1, view_str ok rb e2]; exact h1 _ _ _ _ rfl (fin _ (by simpa using q)))
    | (rename_i i e1 e2; rw [view_str ok ra e1, view_non ok rb e2]; exact h1 _ _ _ _ rfl (fin _ (by simpa using q)))
    | (rename_i i e1 e2; rw [view_non ok ra e1, view_bl ok rb e2]; exact h1 _ _ _ _ rfl (fin _ (by simpa using q)))
    | (rename_i i e1 e2; rw [view_bl ok ra e1, view_non ok rb e2]; exact h1 _ _ _ _ rfl (fin _ (by simpa using q)))
    | (rename_i i j e1 e2; rw [view_int ok ra e1, view_str ok rb e2]; exact h1 _ _ _ _ rfl (fin _ (by simpa using q)))
    | (rename_i i j e1 e2; rw [view_str ok ra e1, view_int ok rb e2]; exact h1 _ _ _ _ rfl (fin _ (by simpa using q)))
    | (rename_i i j e1 e2; rw [view_bl ok ra e1, view_str ok rb e2]; exact h1 _ _ _ _ rfl (fin _ (by simpa using q)))
    | (rename_i i j e1 e2; rw [view_str ok ra e1, view_bl ok rb e2]; exact h1 _ _ _ _ rfl (fin _ (by simpa using q)))
    | skip
  obtain ⟨p, e1, q⟩ := onS_iff q
  obtain ⟨p2, e2, s1, s2, q⟩ := onS_iff q
  exact h2 _ _ _ _ p p2 (view_dp ok ra e1) (view_dp ok rb e2) s1 s2 (fin _ q)
theorem opd_eq {K : PySem.W.Frag} {mg : Str → Option Value} {Z : Zt} : OpD K mg Z (rEqA K) fEq :=
  opd_eqB (fun x y H Q h q => .inl ⟨h, q⟩) fun x y H Q p q a b c d z => .inr ⟨p, q, a, b, c, d, z⟩
theorem opd_ne {K : PySem.W.Frag} {mg : Str → Option Value} {Z : Zt} : OpD K mg Z (rNeA K) fNe :=
  opd_eqB (fun x y H Q h q => .inl ⟨h, q⟩) fun x y H Q p q a b c d z => .inr ⟨p, q, a, b, c, d, z⟩
def fCmp (g : Int → Int → Bool) : F2 := fI (fun _ _ => True) fun i j => .bl (g i j)
def isNon : D → Bool
  | .non => true
  | _ => false
def fIsN : F2 := fun S x y Q => match y with
  | .non => Q (.bl (isNon x)) S
  | _ => False
def fNotN : F2 := fun S x y Q => match y with
  | .non => Q (.bl (!isNon x)) S
  | _ => False
theorem isNon_rp {K : PySem.W.Frag} {mg : Str → Option Value} {I : Hp} {μ : List Addr} {v : V} {d : D} (r : Rp K mg I μ v d) : decide (v = .non) = isNon d := by
  cases r <;> simp [isNon]
theorem opd_isN {K : PySem.W.Frag} {mg : Str → Option Value} {Z : Zt} : OpD K mg Z (fun x y H Q => y = .non ∧ Q (.bl (decide (x = .non))) H) fIsN := by
  intro I μ S H x y a b Q Φ ok ra rb q k
  unfold fIsN at q
  split at q
  · rw [isNon_rp ra]
    exact ⟨rp_non rb, k _ _ I μ S H .refl ok .bl q⟩
  · exact q.elim
theorem opd_notN {K : PySem.W.Frag} {mg : Str → Option Value} {Z : Zt} : OpD K mg Z (fun x y H Q => y = .non ∧ Q (.bl (!decide (x = .non))) H) fNotN := by
  intro I μ S H x y a b Q Φ ok ra rb q k
  unfold fNotN at q
  split at q
  · rw [isNon_rp ra]
    exact ⟨rp_non rb, k _ _ I μ S H .refl ok .bl q⟩
  · exact q.elim
/-- x in a list or tuple of scalars -/
def scV : D → Option V
  | .non => some .non
  | .bl b => some (.bl b)
  | .int i => some (.int i)
  | .str s => some (.str s)
  | _ => none
def scVs : List D → Option (List V)
  | [] => some []
  | d :: ds => match scV d, scVs ds with
    | some v, some vs => some (v :: vs)
    | _, _ => none
theorem scV_rp {K : PySem.W.Frag} {mg : Str → Option Value} {I : Hp} {μ : List Addr} {v w : V} {d : D} (r : Rp K mg I μ v d) (e : scV d = some w) : v = w ∧ flatV w = true := by
  cases r <;> simp [scV] at e <;> subst e <;> exact ⟨rfl, rfl⟩
theorem scVs_rp {K : PySem.W.Frag} {mg : Str → Option Value} {I : Hp} {μ : List Addr} : ∀ {vs ws : List V} {ds : List D}, RpL K mg I μ vs ds → scVs ds = some ws → vs = ws ∧ ws.all flatV = true
  | _, _, [], .nil, e => by cases e; exact ⟨rfl, rfl⟩
  | _, _, d :: ds, .cons h r, e => by
    unfold scVs at e
    cases q1 : scV d with
    | none => rw [q1] at e; cases e
    | some p =>
      cases q2 : scVs ds with
      | none => rw [q1, q2] at e; cases e
      | some ps =>
        rw [q1, q2] at e
        cases e
        obtain ⟨rfl, f1⟩ := scV_rp h q1
        obtain ⟨rfl, f2⟩ := scVs_rp r q2
        exact ⟨rfl, by simp [f1, f2]⟩
def fIn (neg : Bool) : F2 := fun S x y Q => onS (scV x) fun v => match view S y with
  | .lst ds => onS (scVs ds) fun vs => Q (.bl (if neg then !inV v vs else inV v vs)) S
  | .tup ds => onS (scVs ds) fun vs => Q (.bl (if neg then !inV v vs else inV v vs)) S
  | _ => False
theorem opd_in {K : PySem.W.Frag} {mg : Str → Option Value} {Z : Zt} {neg : Bool} : OpD K mg Z (rIn K neg) (fIn neg) := by
  intro I μ S H x y a b Q Φ ok ra rb q k
  obtain ⟨w, e, q⟩ := onS_iff q
  obtain ⟨rfl, f⟩ := scV_rp ra e
  split at q
  · rename_i ds e1
    obtain ⟨p, vs, rfl, h1, r1⟩ := view_lst ok rb e1
    obtain ⟨ws, e2, q⟩ := onS_iff q
    obtain ⟨rfl, f2⟩ := scVs_rp r1 e2
    exact ⟨p, vs, rfl, .inl (SqL.of h1), f, f2, k _ _ I μ S H .refl ok .bl q⟩
  · rename_i ds e1
    obtain ⟨p, vs, rfl, _, h1, r1⟩ := view_tup ok rb e1
    obtain ⟨ws, e2, q⟩ := onS_iff q
    obtain ⟨rfl, f2⟩ := scVs_rp r1 e2
    exact ⟨p, vs, rfl, .inr h1, f, f2, k _ _ I μ S H .refl ok .bl q⟩
  · exact q.elim

/-! ### the rules -/
section
variable {X : Cx} {Γ : Gam} {a b c : Expr} {ta tb tc : TE} {wa wb wc : WE} {pos : Pos}
theorem se_op {op : Operator} {r : R2} {f : F2} (ho : OpR X (binaryOp op) r) (hf : ∀ Z, OpD X.K X.mg Z r f) (ha : SE X Γ a ta wa) (hb : SE X Γ b tb wb) : SE X Γ (.BinOp a op b pos) (tOp r ta tb) (wOp f wa wb) :=
  ⟨pe_op ho ha.pe hb.pe, fun Z lk => sim_op (ha.si Z lk) (hb.si Z lk) (hf Z)⟩
theorem se_add (ha : SE X Γ a ta wa) (hb : SE X Γ b tb wb) : SE X Γ (.BinOp a .Add b pos) (tOp (rAddA X.K) ta tb) (wOp fAdd wa wb) := se_op or_add (fun _ => opd_add) ha hb
theorem se_sub (ha : SE X Γ a ta wa) (hb : SE X Γ b tb wb) : SE X Γ (.BinOp a .Sub b pos) (tOp (rI0 fun i j => .int (i - j)) ta tb) (wOp fSub wa wb) := se_op op_sub (fun _ => opd_I0 fun _ _ _ _ => .int) ha hb
theorem op_mulX {X : Cx} : OpR X (binaryOp .Mult) (rI PySem.IntMulOk fun i j => .int (i * j)) := opI fun _ _ _ _ _ _ _ hc q => PyProof.Rows.mul_int q hc
theorem se_mul (ha : SE X Γ a ta wa) (hb : SE X Γ b tb wb) : SE X Γ (.BinOp a .Mult b pos) (tOp (rI IntMulOk fun i j => .int (i * j)) ta tb) (wOp fMul wa wb) := se_op op_mulX (fun _ => opd_mul) ha hb
theorem se_mod (ha : SE X Γ a ta wa) (hb : SE X Γ b tb wb) : SE X Γ (.BinOp a .Mod b pos) (tOp (rI (fun _ j => 0 < j) fun i j => .int (i % j)) ta tb) (wOp fMod wa wb) := se_op op_mod (fun _ => opd_I fun _ _ _ _ => .int) ha hb
theorem se_div (ha : SE X Γ a ta wa) (hb : SE X Γ b tb wb) : SE X Γ (.BinOp a .FloorDiv b pos) (tOp (rI CDivW fun i j => .int (i / j)) ta tb) (wOp fDiv wa wb) := se_op op_fdivW (fun _ => opd_I fun _ _ _ _ => .int) ha hb
theorem se_cmp {op : CmpOp} {r : R2} {f : F2} (ho : OpR X (compareOp op) r) (hf : ∀ Z, OpD X.K X.mg Z r f) (hm : behindInMarks op b = false) (ha : SE X Γ a ta wa) (hb : SE X Γ b tb wb) : SE X Γ (.Compare a [op] [b] pos) (tOp r ta tb) (wOp f wa wb) :=
  ⟨pe_cmpR ho ha.pe hb.pe hm, fun Z lk => sim_op (ha.si Z lk) (hb.si Z lk) (hf Z)⟩
def wTest (we : WE) : WT := fun ρ S Q => we ρ S fun d S1 => match d with
  | .bl b => Q b S1
  | _ => False
theorem sim_test {K : PySem.W.Frag} {mg : Str → Option Value} {Z : Zt} {te : TE} {we : WE} (h : Sim K mg Z te we) : SimT K mg Z (tTest te) (wTest we) := fun σ ρ I μ S H Q Φ rs ok hw k =>
  h σ ρ I μ S H _ _ rs ok hw fun v d I1 μ1 S1 H1 e1 o1 r1 q1 => by
    split at q1
    · cases r1
      exact ⟨_, rfl, k _ I1 μ1 S1 H1 e1 o1 q1⟩
    · exact q1.elim
theorem st_cmp {op : CmpOp} {r : R2} {f : F2} (ho : OpR X (compareOp op) r) (hf : ∀ Z, OpD X.K X.mg Z r f) (hm : behindInMarks op b = false) (ha : SE X Γ a ta wa) (hb : SE X Γ b tb wb) : ST X Γ (.Compare a [op] [b] pos) (tTest (tOp r ta tb)) (wTest (wOp f wa wb)) :=
  ⟨pt_cmpR ho ha.pe hb.pe hm, fun Z lk => sim_test (sim_op (ha.si Z lk) (hb.si Z lk) (hf Z))⟩
/-- the rule and the word of a comparison's sign -/
def CmpR (X : Cx) (op : CmpOp) (r : R2) (f : F2) : Prop := OpR X (compareOp op) r ∧ ∀ Z, OpD X.K X.mg Z r f
theorem cm_eq (hu : X.A.units + 64 < cLine) : CmpR X .Eq (rEqA X.K) fEq := ⟨op_eq.or (op_eqD hu), fun _ => opd_eq⟩
theorem cm_ne (hu : X.A.units + 64 < cLine) : CmpR X .NotEq (rNeA X.K) fNe := ⟨op_ne.or (op_neD hu), fun _ => opd_ne⟩
theorem cm_lt : CmpR X .Lt (rI0 fun i j => .bl (decide (i < j))) (fCmp fun i j => decide (i < j)) := ⟨op_lt, fun _ => opd_I0 fun _ _ _ _ => .bl⟩
theorem cm_le : CmpR X .LtE (rI0 fun i j => .bl (decide (i ≤ j))) (fCmp fun i j => decide (i ≤ j)) := ⟨op_le, fun _ => opd_I0 fun _ _ _ _ => .bl⟩
theorem cm_gt : CmpR X .Gt (rI0 fun i j => .bl (decide (j < i))) (fCmp fun i j => decide (j < i)) := ⟨op_gt, fun _ => opd_I0 fun _ _ _ _ => .bl⟩
theorem cm_ge : CmpR X .GtE (rI0 fun i j => .bl (decide (j ≤ i))) (fCmp fun i j => decide (j ≤ i)) := ⟨op_ge, fun _ => opd_I0 fun _ _ _ _ => .bl⟩
theorem cm_isN : CmpR X .Is (fun x y H Q => y = .non ∧ Q (.bl (decide (x = .non))) H) fIsN := ⟨op_isN, fun _ => opd_isN⟩
theorem cm_notN : CmpR X .IsNot (fun x y H Q => y = .non ∧ Q (.bl (!decide (x = .non))) H) fNotN := ⟨op_notN, fun _ => opd_notN⟩
theorem cm_in : CmpR X .In (rIn X.K false) (fIn false) := ⟨op_in_seq, fun _ => opd_in⟩
theorem cm_notIn : CmpR X .NotIn (rIn X.K true) (fIn true) := ⟨op_notIn_seq, fun _ => opd_in⟩
theorem sc1 {op : CmpOp} {r : R2} {f : F2} (h : CmpR X op r f) (ha : SE X Γ a ta wa) (hb : SE X Γ b tb wb) (hm : behindInMarks op b = false := by first | exact nomark _ | rfl) : SE X Γ (.Compare a [op] [b] pos) (tOp r ta tb) (wOp f wa wb) := se_cmp h.1 h.2 hm ha hb
theorem tc1 {op : CmpOp} {r : R2} {f : F2} (h : CmpR X op r f) (ha : SE X Γ a ta wa) (hb : SE X Γ b tb wb) (hm : behindInMarks op b = false := by first | exact nomark _ | rfl) : ST X Γ (.Compare a [op] [b] pos) (tTest (tOp r ta tb)) (wTest (wOp f wa wb)) := st_cmp h.1 h.2 hm ha hb
/-- a op b op' c -/
def wChain (f f' : F2) (wa wb wc : WE) : WE := fun ρ S Q => wa ρ S fun x S1 => wb ρ S1 fun y S2 => f S2 x y fun z S3 => match z with
  | .bl true => wc ρ S3 fun u S4 => f' S4 y u Q
  | .bl false => Q (.bl false) S3
  | _ => False
theorem sim_chain {K : PySem.W.Frag} {mg : Str → Option Value} {Z : Zt} {r r' : R2} {f f' : F2} (hf : OpD K mg Z r f) (hf' : OpD K mg Z r' f') (ha : Sim K mg Z ta wa) (hb : Sim K mg Z tb wb) (hc : Sim K mg Z tc wc) : Sim K mg Z (tChain r r' ta tb tc) (wChain f f' wa wb wc) := fun σ ρ I μ S H Q Φ rs ok h k =>
  ha σ ρ I μ S H _ _ rs ok h fun x a I1 μ1 S1 H1 e1 o1 r1 q1 => hb σ ρ I1 μ1 S1 H1 _ _ (rs.ext e1) o1 q1 fun y b I2 μ2 S2 H2 e2 o2 r2 q2 =>
    hf I2 μ2 S2 H2 x y a b _ _ o2 (r1.ext e2) r2 q2 fun z d I3 μ3 S3 H3 e3 o3 r3 q3 => by
      split at q3
      · cases r3
        refine ⟨true, rfl, ?_⟩
        rw [if_pos rfl]
        exact hc σ ρ I3 μ3 S3 H3 _ _ (rs.ext ((e1.trans e2).trans e3)) o3 q3 fun u c I4 μ4 S4 H4 e4 o4 r4 q4 => hf' I4 μ4 S4 H4 y u b c Q Φ o4 (r2.ext (e3.trans e4)) r4 q4 (k.ext (((e1.trans e2).trans e3).trans e4))
      · cases r3
        refine ⟨false, rfl, ?_⟩
        rw [if_neg Bool.false_ne_true]
        exact k _ _ I3 μ3 S3 H3 ((e1.trans e2).trans e3) o3 .bl q3
      · exact q3.elim
theorem sc2 {op op' : CmpOp} {r r' : R2} {f f' : F2} (h : CmpR X op r f) (h' : CmpR X op' r' f') (ha : SE X Γ a ta wa) (hb : SE X Γ b tb wb) (hc : SE X Γ c tc wc) (hm : lastMarks [op, op'] [b, c] = false := by with_unfolding_all rfl) :
    SE X Γ (.Compare a [op, op'] [b, c] pos) (tChain r r' ta tb tc) (wChain f f' wa wb wc) := ⟨pe_chain h.1 h'.1 ha.pe hb.pe hc.pe hm, fun Z lk => sim_chain (h.2 Z) (h'.2 Z) (ha.si Z lk) (hb.si Z lk) (hc.si Z lk)⟩
theorem tc2 {op op' : CmpOp} {r r' : R2} {f f' : F2} (h : CmpR X op r f) (h' : CmpR X op' r' f') (ha : SE X Γ a ta wa) (hb : SE X Γ b tb wb) (hc : SE X Γ c tc wc) (hm : lastMarks [op, op'] [b, c] = false := by with_unfolding_all rfl) :
    ST X Γ (.Compare a [op, op'] [b, c] pos) (tTest (tChain r r' ta tb tc)) (wTest (wChain f f' wa wb wc)) := ⟨pt_chain h.1 h'.1 ha.pe hb.pe hc.pe hm, fun Z lk => sim_test (sim_chain (h.2 Z) (h'.2 Z) (ha.si Z lk) (hb.si Z lk) (hc.si Z lk))⟩

/-! ### tests -/
def tru (S : Sto) (d : D) : Option Bool := match view S d with
  | .non => some false
  | .bl b => some b
  | .int i => some (i != 0)
  | .str s => if s.length ≤ LIM then some ((s.length : Int) != 0) else none
  | .lst ds => some (!ds.isEmpty)
  | .tup ds => some (!ds.isEmpty)
  | .dct ds => some (!ds.isEmpty)
  | _ => none
def wTru (we : WE) : WT := fun ρ S Q => we ρ S fun d S1 => onS (tru S1 d) fun b => Q b S1
def TruA (K : PySem.W.Frag) (x : V) (H : Hp) (k : Bool) : Prop := TruV K x H k ∨ ∃ p vs, x = .ref p ∧ Rd H p (.dK vs) ∧ k = !vs.isEmpty
theorem truA_ok {X : Cx} : TruR X (fun x H Q => ∃ k, TruA X.K x H k ∧ Q k H) := by
  intro pins s σ H x v Q I rx h
  obtain ⟨k, h | ⟨p, vs, rfl, r, rfl⟩, q⟩ := h
  · exact tru_ok pins s σ H x v Q I rx ⟨k, h, q⟩
  · obtain rfl : v = Value.ref p := rx
    exact d_truth I r fun s' I' => ⟨H, I', q⟩
theorem tru_ok' {K : PySem.W.Frag} {mg : Str → Option Value} {Z : Zt} {I : Hp} {μ : List Addr} {S : Sto} {H : Hp} {v : V} {d : D} {b : Bool} (ok : Ok K mg Z I μ S H) (r : Rp K mg I μ v d) (e : tru S d = some b) : TruA K v H b := by
  unfold tru at e
  split at e
  · rename_i q; rw [view_non ok r q]; cases e; exact Or.inl rfl
  · rename_i q; rw [view_bl ok r q]; cases e; exact Or.inl rfl
  · rename_i q; rw [view_int ok r q]; cases e; exact Or.inl rfl
  · rename_i s q
    rw [view_str ok r q]
    split at e
    · rename_i hs; cases e; exact Or.inl ⟨lim hs, rfl⟩
    · cases e
  · rename_i ds q
    obtain ⟨p, vs, rfl, h, t⟩ := view_lst ok r q
    cases e
    refine .inl (.inl ⟨vs, SqL.of h, ?_⟩)
    cases t <;> rfl
  · rename_i ds q
    obtain ⟨p, vs, rfl, _, h, t⟩ := view_tup ok r q
    cases e
    refine .inl (.inr (.inl ⟨vs, h, ?_⟩))
    cases t <;> rfl
  · rename_i ds q
    obtain ⟨p, vs, rfl, h, t⟩ := view_dct ok r q
    cases e
    refine .inr ⟨p, vs, rfl, h, ?_⟩
    cases t <;> rfl
  · cases e
def tTru (K : PySem.W.Frag) (te : TE) : TT := fun σ H Q => te σ H fun x H' => ∃ k, TruA K x H' k ∧ Q k H'
theorem tt_val (he : SE X Γ a ta wa) (hi : ∀ whole, isTrue a X.env whole = (do let v ← whole; standAt a.pos; holding [v] (truthy v)) := by intro _; rfl) : ST X Γ a (tTru X.K ta) (wTru wa) := by
  refine ⟨⟨(pt_truthR he.pe truA_ok hi).run⟩, fun Z lk σ ρ I μ S H Q Φ rs ok h k => ?_⟩
  refine he.si Z lk σ ρ I μ S H _ _ rs ok h fun v d I1 μ1 S1 H1 e1 o1 r1 q1 => ?_
  obtain ⟨b, e, q⟩ := onS_iff q1
  exact ⟨b, tru_ok' o1 r1 e, k _ I1 μ1 S1 H1 e1 o1 q⟩
def wAnd (wa wb : WT) : WT := fun ρ S Q => wa ρ S fun b S1 => if b = true then wb ρ S1 Q else Q false S1
def wOr (wa wb : WT) : WT := fun ρ S Q => wa ρ S fun b S1 => if b = true then Q true S1 else wb ρ S1 Q
def wNot (wa : WT) : WT := fun ρ S Q => wa ρ S fun b S1 => Q (!b) S1
variable {t u : TT} {wt wu : WT} {rest : List Expr}
/-- a chain of and, or -/
structure SW (X : Cx) (Γ : Gam) (e : Expr) (te : TT) (w : WT) : Prop where
  pw : PW X e te
  si : ∀ Z : Zt, Lk X Γ Z → SimT X.K X.mg Z te w
theorem sw_one1 (h : ST X Γ a t wt) : SW X Γ (.BoolOp .And [a] pos) t wt := ⟨pw_and1 h.pt, h.si⟩
theorem sw_one2 (h : ST X Γ a t wt) : SW X Γ (.BoolOp .Or [a] pos) t wt := ⟨pw_or1 h.pt, h.si⟩
theorem sw_and (h : ST X Γ a t wt) (hb : SW X Γ (.BoolOp .And (b :: rest) pos) u wu) : SW X Γ (.BoolOp .And (a :: b :: rest) pos) (tAnd t u) (wAnd wt wu) :=
  ⟨pw_and h.pt hb.pw, fun Z lk σ ρ I μ S H Q Φ rs ok hw k => h.si Z lk σ ρ I μ S H _ _ rs ok hw fun c I1 μ1 S1 H1 e1 o1 q1 => by
    cases c with
    | true => exact hb.si Z lk σ ρ I1 μ1 S1 H1 _ _ (rs.ext e1) o1 q1 (k.ext e1)
    | false => exact k _ I1 μ1 S1 H1 e1 o1 q1⟩
theorem sw_or (h : ST X Γ a t wt) (hb : SW X Γ (.BoolOp .Or (b :: rest) pos) u wu) : SW X Γ (.BoolOp .Or (a :: b :: rest) pos) (tOr t u) (wOr wt wu) :=
  ⟨pw_or h.pt hb.pw, fun Z lk σ ρ I μ S H Q Φ rs ok hw k => h.si Z lk σ ρ I μ S H _ _ rs ok hw fun c I1 μ1 S1 H1 e1 o1 q1 => by
    cases c with
    | false => exact hb.si Z lk σ ρ I1 μ1 S1 H1 _ _ (rs.ext e1) o1 q1 (k.ext e1)
    | true => exact k _ I1 μ1 S1 H1 e1 o1 q1⟩
theorem SW.st (h : SW X Γ a t wt) : ST X Γ a t wt := ⟨h.pw.pt, h.si⟩
theorem tt_not (h : ST X Γ a t wt) : ST X Γ (.UnaryOp .Not a pos) (tNot t) (wNot wt) :=
  ⟨pt_not h.pt, fun Z lk σ ρ I μ S H Q Φ rs ok hw k => h.si Z lk σ ρ I μ S H _ _ rs ok hw fun c I1 μ1 S1 H1 e1 o1 q1 => k _ I1 μ1 S1 H1 e1 o1 q1⟩
/-- as values: all but the last are truths -/
def wAndV (wa wb : WE) : WE := fun ρ S Q => wa ρ S fun d S1 => match d with
  | .bl b => if b = true then wb ρ S1 Q else Q (.bl false) S1
  | _ => False
def wOrV (wa wb : WE) : WE := fun ρ S Q => wa ρ S fun d S1 => match d with
  | .bl b => if b = true then Q (.bl true) S1 else wb ρ S1 Q
  | _ => False
def wNotV (wa : WE) : WE := fun ρ S Q => wa ρ S fun d S1 => match d with
  | .bl b => Q (.bl (!b)) S1
  | _ => False
theorem se_one {op} (h : SE X Γ a ta wa) : SE X Γ (.BoolOp op [a] pos) ta wa := ⟨pe_one h.pe, h.si⟩
theorem se_and (h : SE X Γ a ta wa) (hb : SE X Γ (.BoolOp .And (b :: rest) pos) tb wb) : SE X Γ (.BoolOp .And (a :: b :: rest) pos) (tAndV ta tb) (wAndV wa wb) :=
  ⟨pe_and h.pe hb.pe, fun Z lk σ ρ I μ S H Q Φ rs ok hw k => h.si Z lk σ ρ I μ S H _ _ rs ok hw fun v d I1 μ1 S1 H1 e1 o1 r1 q1 => by
    split at q1
    · rename_i c
      cases r1
      refine ⟨c, rfl, ?_⟩
      cases c with
      | true => exact hb.si Z lk σ ρ I1 μ1 S1 H1 _ _ (rs.ext e1) o1 q1 (k.ext e1)
      | false => exact k _ _ I1 μ1 S1 H1 e1 o1 .bl q1
    · exact q1.elim⟩
theorem se_or (h : SE X Γ a ta wa) (hb : SE X Γ (.BoolOp .Or (b :: rest) pos) tb wb) : SE X Γ (.BoolOp .Or (a :: b :: rest) pos) (tOrV ta tb) (wOrV wa wb) :=
  ⟨pe_or h.pe hb.pe, fun Z lk σ ρ I μ S H Q Φ rs ok hw k => h.si Z lk σ ρ I μ S H _ _ rs ok hw fun v d I1 μ1 S1 H1 e1 o1 r1 q1 => by
    split at q1
    · rename_i c
      cases r1
      refine ⟨c, rfl, ?_⟩
      cases c with
      | false => exact hb.si Z lk σ ρ I1 μ1 S1 H1 _ _ (rs.ext e1) o1 q1 (k.ext e1)
      | true => exact k _ _ I1 μ1 S1 H1 e1 o1 .bl q1
    · exact q1.elim⟩
theorem se_not (h : SE X Γ a ta wa) : SE X Γ (.UnaryOp .Not a pos) (tNotV ta) (wNotV wa) :=
  ⟨pe_not h.pe, fun Z lk σ ρ I μ S H Q Φ rs ok hw k => h.si Z lk σ ρ I μ S H _ _ rs ok hw fun v d I1 μ1 S1 H1 e1 o1 r1 q1 => by
    split at q1
    · rename_i c
      cases r1
      exact ⟨c, rfl, k _ _ I1 μ1 S1 H1 e1 o1 .bl q1⟩
    · exact q1.elim⟩
def wIf (wt : WT) (wa wb : WE) : WE := fun ρ S Q => wt ρ S fun b S1 => if b = true then wa ρ S1 Q else wb ρ S1 Q
theorem se_if (ht : ST X Γ c t wt) (ha : SE X Γ a ta wa) (hb : SE X Γ b tb wb) : SE X Γ (.IfExp c a b pos) (tIf t ta tb) (wIf wt wa wb) :=
  ⟨pe_ifExp ht.pt ha.pe hb.pe, fun Z lk σ ρ I μ S H Q Φ rs ok hw k => ht.si Z lk σ ρ I μ S H _ _ rs ok hw fun c I1 μ1 S1 H1 e1 o1 q1 => by
    cases c with
    | true => exact ha.si Z lk σ ρ I1 μ1 S1 H1 _ _ (rs.ext e1) o1 q1 (k.ext e1)
    | false => exact hb.si Z lk σ ρ I1 μ1 S1 H1 _ _ (rs.ext e1) o1 q1 (k.ext e1)⟩

/-! ### subscripts -/
def fIx : F2 := fun S x y Q => match view S x, y with
  | .lst ds, .int i => onS (atI ds i) fun d => Q d S
  | .tup ds, .int i => onS (atI ds i) fun d => Q d S
  | .str s, .int i => s.length ≤ LIM ∧ onS (atI s.cps.toList i) fun c => Q (.str ⟨#[c]⟩) S
  | _, _ => False
theorem RpL.atI {K : PySem.W.Frag} {mg : Str → Option Value} {I : Hp} {μ : List Addr} {vs : List V} {ds : List D} (r : RpL K mg I μ vs ds) {i : Int} {d : D} (h : atI ds i = some d) : ∃ v, L2.atI vs i = some v ∧ Rp K mg I μ v d := by
  unfold L2.atI at h ⊢
  rw [r.length]
  cases q : ixN ds.length i with
  | none => rw [q] at h; cases h
  | some j => rw [q] at h; exact r.get h
theorem opd_ix {K : PySem.W.Frag} {mg : Str → Option Value} {Z : Zt} : OpD K mg Z (rIx K) fIx := by
  intro I μ S H x y a b Q Φ ok ra rb q k
  unfold fIx at q
  split at q
  · rename_i ds i e1
    obtain ⟨p, vs, rfl, h1, r1⟩ := view_lst ok ra e1
    obtain ⟨d, e, q⟩ := onS_iff q
    obtain ⟨v, e2, r2⟩ := r1.atI e
    cases rb
    exact .inl ⟨p, vs, i, v, rfl, rfl, SqL.of h1, e2, k _ _ I μ S H .refl ok r2 q⟩
  · rename_i ds i e1
    obtain ⟨p, vs, rfl, _, h1, r1⟩ := view_tup ok ra e1
    obtain ⟨d, e, q⟩ := onS_iff q
    obtain ⟨v, e2, r2⟩ := r1.atI e
    cases rb
    exact .inr (.inl ⟨p, vs, i, v, rfl, rfl, h1, e2, k _ _ I μ S H .refl ok r2 q⟩)
  · rename_i s i e1
    obtain ⟨c, e, q'⟩ := onS_iff q.2
    cases rb
    exact .inr (.inr ⟨s, i, c, view_str ok ra e1, rfl, lim q.1, e, k _ _ I μ S H .refl ok .str q'⟩)
  · exact q.elim
theorem se_ix (ha : SE X Γ a ta wa) (hb : SE X Γ b tb wb) (hs : PlainIx b := by exact fun _ _ => rfl) : SE X Γ (.Subscript a b pos) (tOp (rIx X.K) ta tb) (wOp fIx wa wb) :=
  ⟨pe_ix ix_seq ha.pe hb.pe hs, fun Z lk => sim_op (ha.si Z lk) (hb.si Z lk) opd_ix⟩
end
end Sq

set_option Elab.async false
set_option maxRecDepth 100000
set_option maxHeartbeats 4000000
set_option linter.all false
/-! Statements, loops, calls of defs, told of data. -/
namespace Sq
open PySem L2

structure WK where
  nx : Ro → Sto → Prop
  rt : D → Sto → Prop
  bk : Ro → Sto → Prop := fun _ _ => False
  ct : Ro → Sto → Prop := fun _ _ => False
abbrev WS := WK → Ro → Sto → Prop
structure Cov (K : PySem.W.Frag) (mg : Str → Option Value) (Z : Zt) (I : Hp) (μ : List Addr) (E : Ends) (κ : WK) : Prop where
  nx : ∀ (σ : L2.St) (ρ : Ro) (I' : Hp) (μ' : List Addr) (S' : Sto) (H' : Hp), Ext I μ I' μ' → RpS K mg I' μ' σ ρ → Ok K mg Z I' μ' S' H' → κ.nx ρ S' → E.nx σ H'
  rt : Kp K mg Z I μ κ.rt E.rt
  bk : ∀ (σ : L2.St) (ρ : Ro) (I' : Hp) (μ' : List Addr) (S' : Sto) (H' : Hp), Ext I μ I' μ' → RpS K mg I' μ' σ ρ → Ok K mg Z I' μ' S' H' → κ.bk ρ S' → E.bk σ H'
  ct : ∀ (σ : L2.St) (ρ : Ro) (I' : Hp) (μ' : List Addr) (S' : Sto) (H' : Hp), Ext I μ I' μ' → RpS K mg I' μ' σ ρ → Ok K mg Z I' μ' S' H' → κ.ct ρ S' → E.ct σ H'
theorem Cov.ext {K : PySem.W.Frag} {mg : Str → Option Value} {Z : Zt} {I I1 : Hp} {μ μ1 : List Addr} {E : Ends} {κ : WK} (c : Cov K mg Z I μ E κ) (e : Ext I μ I1 μ1) : Cov K mg Z I1 μ1 E κ :=
  ⟨fun σ ρ I' μ' S' H' e' => c.nx σ ρ I' μ' S' H' (e.trans e'), c.rt.ext e, fun σ ρ I' μ' S' H' e' => c.bk σ ρ I' μ' S' H' (e.trans e'), fun σ ρ I' μ' S' H' e' => c.ct σ ρ I' μ' S' H' (e.trans e')⟩
def SimS (K : PySem.W.Frag) (mg : Str → Option Value) (Z : Zt) (ts : TS) (w : WS) : Prop :=
  ∀ (σ : L2.St) (ρ : Ro) (I : Hp) (μ : List Addr) (S : Sto) (H : Hp) (E : Ends) (κ : WK), RpS K mg I μ σ ρ → Ok K mg Z I μ S H → w κ ρ S → Cov K mg Z I μ E κ → ts E σ H
structure SS (X : Cx) (Γ : Gam) (s : Stmt) (ts : TS) (w : WS) : Prop where
  ps : PS X s ts
  si : ∀ Z : Zt, Lk X Γ Z → SimS X.K X.mg Z ts w
structure SSs (X : Cx) (Γ : Gam) (s : List Stmt) (ts : TS) (w : WS) : Prop where
  ps : PSs X s ts
  si : ∀ Z : Zt, Lk X Γ Z → SimS X.K X.mg Z ts w
def wSeq (w u : WS) : WS := fun κ ρ S => w { κ with nx := u κ } ρ S
def wSkip : WS := fun κ ρ S => κ.nx ρ S
section
variable {X : Cx} {Γ : Gam} {s : Stmt} {rest : List Stmt} {t u : TS} {w v : WS} {pos : Pos} {e : Expr} {te : TE} {we : WE}
theorem ss_nil : SSs X Γ [] tNext wSkip := ⟨pss_nil, fun Z lk σ ρ I μ S H E κ rs ok h c => c.nx σ ρ I μ S H .refl rs ok h⟩
theorem ss_cons (h1 : SS X Γ s t w) (h2 : SSs X Γ rest u v) : SSs X Γ (s :: rest) (tSeq t u) (wSeq w v) :=
  ⟨pss_cons h1.ps h2.ps, fun Z lk σ ρ I μ S H E κ rs ok h c => h1.si Z lk σ ρ I μ S H _ _ rs ok h
    ⟨fun σ' ρ' I' μ' S' H' e' rs' ok' h' => h2.si Z lk σ' ρ' I' μ' S' H' E κ rs' ok' h' (c.ext e'), c.rt, c.bk, c.ct⟩⟩
theorem ss_one (h1 : SS X Γ s t w) : SSs X Γ [s] t w := ⟨pss_one h1.ps, h1.si⟩
theorem s_pass : SS X Γ (.Pass pos) tNext wSkip := ⟨ps_pass, fun Z lk σ ρ I μ S H E κ rs ok h c => c.nx σ ρ I μ S H .refl rs ok h⟩
theorem s_doc {x j pos pos'} : SS X Γ (.Expr (.Constant (.str x) j pos) pos') tNext wSkip := ⟨ps_doc, fun Z lk σ ρ I μ S H E κ rs ok h c => c.nx σ ρ I μ S H .refl rs ok h⟩
def wBreak : WS := fun κ ρ S => κ.bk ρ S
def wCont : WS := fun κ ρ S => κ.ct ρ S
theorem s_break : SS X Γ (.Break pos) tBreak wBreak := ⟨ps_break, fun Z lk σ ρ I μ S H E κ rs ok h c => c.bk σ ρ I μ S H .refl rs ok h⟩
theorem s_cont : SS X Γ (.Continue pos) tCont wCont := ⟨ps_continue, fun Z lk σ ρ I μ S H E κ rs ok h c => c.ct σ ρ I μ S H .refl rs ok h⟩
def wRet (we : WE) : WS := fun κ ρ S => we ρ S κ.rt
theorem s_ret (h : SE X Γ e te we) : SS X Γ (.Return (some e) pos) (tRet te) (wRet we) := ⟨ps_ret h.pe, fun Z lk σ ρ I μ S H E κ rs ok hw c => h.si Z lk σ ρ I μ S H _ _ rs ok hw c.rt⟩
def wRetN : WS := fun κ _ S => κ.rt .non S
theorem s_retN : SS X Γ (.Return none pos) tRetN wRetN := ⟨ps_retN, fun Z lk σ ρ I μ S H E κ rs ok hw c => c.rt _ _ I μ S H .refl ok .non hw⟩
def wDrop (we : WE) : WS := fun κ ρ S => we ρ S fun _ S1 => κ.nx ρ S1
theorem s_expr (h : SE X Γ e te we) (hs : swapsWith e none pos.line X.env = pure false := by rfl) : SS X Γ (.Expr e pos) (tDrop te) (wDrop we) :=
  ⟨ps_expr h.pe hs, fun Z lk σ ρ I μ S H E κ rs ok hw c => h.si Z lk σ ρ I μ S H _ _ rs ok hw fun v d I1 μ1 S1 H1 e1 o1 r1 q1 => c.nx σ ρ I1 μ1 S1 H1 e1 (rs.ext e1) o1 q1⟩
def wIfS (wt : WT) (w v : WS) : WS := fun κ ρ S => wt ρ S fun b S1 => if b = true then w κ ρ S1 else v κ ρ S1
variable {c : Expr} {tc : TT} {wc : WT} {a b : List Stmt}
theorem s_if (hc : ST X Γ c tc wc) (ha : SSs X Γ a t w) (hb : SSs X Γ b u v) : SS X Γ (.If c a b pos) (tIfS tc t u) (wIfS wc w v) :=
  ⟨ps_if hc.pt ha.ps hb.ps, fun Z lk σ ρ I μ S H E κ rs ok hw k => hc.si Z lk σ ρ I μ S H _ _ rs ok hw fun b I1 μ1 S1 H1 e1 o1 q1 => by
    cases b with
    | true => exact ha.si Z lk σ ρ I1 μ1 S1 H1 E κ (rs.ext e1) o1 q1 (k.ext e1)
    | false => exact hb.si Z lk σ ρ I1 μ1 S1 H1 E κ (rs.ext e1) o1 q1 (k.ext e1)⟩
/-- what is never reached -/
def wNever : WS := fun _ _ _ => False
theorem s_never : SS X Γ s tNever wNever := ⟨ps_never, fun _ _ _ _ _ _ _ _ _ _ _ _ h _ => h.elim⟩
end

/-! ### targets -/
abbrev WG := D → Ro → Sto → (Ro → Sto → Prop) → Prop
abbrev WGs := List D → Ro → Sto → (Ro → Sto → Prop) → Prop
def Kn (K : PySem.W.Frag) (mg : Str → Option Value) (Z : Zt) (I : Hp) (μ : List Addr) (Φ : Ro → Sto → Prop) (Q : L2.St → Hp → Prop) : Prop :=
  ∀ (σ : L2.St) (ρ : Ro) (I' : Hp) (μ' : List Addr) (S' : Sto) (H' : Hp), Ext I μ I' μ' → RpS K mg I' μ' σ ρ → Ok K mg Z I' μ' S' H' → Φ ρ S' → Q σ H'
def SimG (K : PySem.W.Frag) (mg : Str → Option Value) (Z : Zt) (g : TG) (w : WG) : Prop :=
  ∀ (v : V) (d : D) (σ : L2.St) (ρ : Ro) (I : Hp) (μ : List Addr) (S : Sto) (H : Hp) (Q : L2.St → Hp → Prop) (Φ : Ro → Sto → Prop), Rp K mg I μ v d → RpS K mg I μ σ ρ → Ok K mg Z I μ S H → w d ρ S Φ → Kn K mg Z I μ Φ Q → g v σ H Q
def SimGs (K : PySem.W.Frag) (mg : Str → Option Value) (Z : Zt) (g : TGs) (w : WGs) : Prop :=
  ∀ (v : List V) (d : List D) (σ : L2.St) (ρ : Ro) (I : Hp) (μ : List Addr) (S : Sto) (H : Hp) (Q : L2.St → Hp → Prop) (Φ : Ro → Sto → Prop), RpL K mg I μ v d → RpS K mg I μ σ ρ → Ok K mg Z I μ S H → w d ρ S Φ → Kn K mg Z I μ Φ Q → g v σ H Q
theorem Kn.ext {K : PySem.W.Frag} {mg : Str → Option Value} {Z : Zt} {I I1 : Hp} {μ μ1 : List Addr} {Φ : Ro → Sto → Prop} {Q : L2.St → Hp → Prop} (k : Kn K mg Z I μ Φ Q) (e : Ext I μ I1 μ1) : Kn K mg Z I1 μ1 Φ Q :=
  fun σ ρ I' μ' S' H' e' => k σ ρ I' μ' S' H' (e.trans e')
structure SG (X : Cx) (Γ : Gam) (e : Expr) (g : TG) (w : WG) : Prop where
  pg : PG X e g
  si : ∀ Z : Zt, Lk X Γ Z → SimG X.K X.mg Z g w
structure SGs (X : Cx) (Γ : Gam) (es : List Expr) (g : TGs) (w : WGs) : Prop where
  pg : PGs X es g
  si : ∀ Z : Zt, Lk X Γ Z → SimGs X.K X.mg Z g w
def wName (i : Nat) : WG := fun d ρ S Q => Q (st ρ i (some d)) S
def wGNil : WGs := fun ds ρ S Q => match ds with
  | [] => Q ρ S
  | _ => False
def wGCons (g : WG) (gs : WGs) : WGs := fun ds ρ S Q => match ds with
  | d :: r => g d ρ S fun ρ1 S1 => gs r ρ1 S1 Q
  | [] => False
def wGTup (n : Nat) (gs : WGs) : WG := fun d ρ S Q => match view S d with
  | .tup ds => ds.length = n ∧ gs ds ρ S Q
  | _ => False
theorem sim_name {K : PySem.W.Frag} {mg : Str → Option Value} {Z : Zt} {i : Nat} : SimG K mg Z (gName i) (wName i) := fun v d σ ρ I μ S H Q Φ r rs ok h k => k _ _ I μ S H .refl (rs.put r i) ok h
section
variable {X : Cx} {Γ : Gam} {pos : Pos}
theorem sg_name (i : Nat) {x : Str} (hN : X.N.Nodup) (hi : X.N[i]? = some x := by rfl) (hx : Loc X.env.scope x := by first | exact Or.inl rfl | exact Or.inr rfl) (hf : X.fn x = true ∨ X.env.scope.names.lookup x = some .local := by first | exact .inl rfl | exact .inr rfl | assumption) :
    SG X Γ (.Name x pos) (gName i) (wName i) := ⟨pg_name hN hi hx hf, fun _ _ => sim_name⟩
theorem sgs_nil : SGs X Γ [] gNil wGNil := ⟨pgs_nil, fun Z lk v d σ ρ I μ S H Q Φ r rs ok h k => by
  cases r with
  | nil => exact ⟨rfl, k σ ρ I μ S H .refl rs ok h⟩
  | cons _ _ => exact h.elim⟩
theorem sgs_cons {e : Expr} {es : List Expr} {g : TG} {gs : TGs} {w : WG} {ws : WGs} (h1 : SG X Γ e g w) (h2 : SGs X Γ es gs ws) (hs : (assignEach (e :: es) X.env).map (·.2) = assign e X.env :: (assignEach es X.env).map (·.2) := by rfl) : SGs X Γ (e :: es) (gCons g gs) (wGCons w ws) :=
  ⟨pgs_cons h1.pg h2.pg hs, fun Z lk v d σ ρ I μ S H Q Φ r rs ok h k => by
    cases r with
    | nil => exact h.elim
    | cons r t => exact ⟨_, _, rfl, h1.si Z lk _ _ σ ρ I μ S H _ _ r rs ok h fun σ' ρ' I' μ' S' H' e' rs' ok' q' => h2.si Z lk _ _ σ' ρ' I' μ' S' H' Q Φ (t.ext e') rs' ok' q' (k.ext e')⟩⟩
end
end Sq

set_option Elab.async false
set_option maxRecDepth 100000
set_option maxHeartbeats 4000000
set_option linter.all false
/-! Assignments, loops, calls, defs. -/
namespace Sq
open PySem L2
section
variable {X : Cx} {Γ : Gam} {pos : Pos} {e tg : Expr} {es : List Expr} {te : TE} {we : WE} {g : TG} {gs : TGs} {w : WG} {ws : WGs}
theorem sg_tup {k n : Nat} (hc : X.calm = true) (h : SGs X Γ es gs ws) (hn : (assignEach es X.env).length = n := by rfl) (hst : (assignEach es X.env).findIdx? (·.1) = none := by rfl) : SG X Γ (.Tuple es k pos) (gTup X.K n gs) (wGTup n ws) :=
  ⟨pg_tup hc h.pg hn hst, fun Z lk v d σ ρ I μ S H Q Φ r rs ok hw kn => by
    unfold wGTup at hw
    split at hw
    · rename_i ds e1
      obtain ⟨p, vs, rfl, _, h1, r1⟩ := view_tup ok r e1
      exact ⟨p, vs, rfl, h1, by rw [r1.length]; exact hw.1, h.si Z lk _ _ σ ρ I μ S H Q Φ r1 rs ok hw.2 kn⟩
    · exact hw.elim⟩
def wAsg (we : WE) (g : WG) : WS := fun κ ρ S => we ρ S fun d S1 => g d ρ S1 κ.nx
theorem s_asg (he : SE X Γ e te we) (hg : SG X Γ tg g w) (hs : swapsWithSole [tg] e pos.line X.env = pure false := by rfl) (hw : swappedStores [tg] e X.env = pure none := by rfl) (h1 : (assignEach [tg] X.env).map (·.2) = [assign tg X.env] := by rfl) : SS X Γ (.Assign [tg] e pos) (tAsg te g) (wAsg we w) :=
  ⟨ps_asg he.pe hg.pg hs hw h1, fun Z lk σ ρ I μ S H E κ rs ok h c => he.si Z lk σ ρ I μ S H _ _ rs ok h fun v d I1 μ1 S1 H1 e1 o1 r1 q1 =>
    hg.si Z lk v d σ ρ I1 μ1 S1 H1 _ _ r1 (rs.ext e1) o1 q1 fun σ' ρ' I' μ' S' H' e' rs' ok' q' => c.nx σ' ρ' I' μ' S' H' (e1.trans e') rs' ok' q'⟩
/-- a, b = e1, e2 -/
def wPar (i j : Nat) (wa : WA) : WS := fun κ ρ S => wa ρ S fun ds S1 => match ds with
  | [a, b] => κ.nx (st (st ρ i (some a)) j (some b)) S1
  | _ => False
theorem s_par {x y : Str} {a b : Expr} {ta : TA} {wa : WA} {px py pt : Pos} {kt k2 pt2} (i j : Nat) (hc : X.calm = true) (hN : X.N.Nodup) (ha : SA X Γ [a, b] ta wa) (hp : PS X (.Assign [.Tuple [.Name x px, .Name y py] k2 pt2] (.Tuple [a, b] kt pt) pos) (tPar i j ta)) :
    SS X Γ (.Assign [.Tuple [.Name x px, .Name y py] k2 pt2] (.Tuple [a, b] kt pt) pos) (tPar i j ta) (wPar i j wa) :=
  ⟨hp, fun Z lk σ ρ I μ S H E κ rs ok h c => ha.si Z lk σ ρ I μ S H _ _ rs ok h fun vs ds I1 μ1 S1 H1 e1 o1 r1 q1 => by
    split at q1
    · rename_i da db
      cases r1 with
      | cons ra r1 =>
        cases r1 with
        | cons rb r1 =>
          cases r1
          exact ⟨_, _, rfl, c.nx _ _ I1 μ1 S1 H1 e1 (((rs.ext e1).put ra i).put rb j) o1 q1⟩
    · exact q1.elim⟩
end

/-! ### what is walked -/
structure Drw (K : PySem.W.Frag) (mg : Str → Option Value) (J : It) (I : Hp) (μ : List Addr) (ds : List D) : Prop where
  go : ∀ (Z : Zt) (i : Nat) (I' : Hp) (μ' : List Addr) (S : Sto) (H : Hp), Ext I μ I' μ' → Ok K mg Z I' μ' S H → i < ds.length → J.go i H
  yld : ∀ (Z : Zt) (i : Nat) (d : D) (I' : Hp) (μ' : List Addr) (S : Sto) (H : Hp) (x : V) (H' : Hp), Ext I μ I' μ' → Ok K mg Z I' μ' S H → ds[i]? = some d → J.yld i H x H' → ∃ I'', Ext I' μ' I'' μ' ∧ Ok K mg Z I'' μ' S H' ∧ Rp K mg I'' μ' x d
  stop : ∀ (Z : Zt) (I' : Hp) (μ' : List Addr) (S : Sto) (H : Hp), Ext I μ I' μ' → Ok K mg Z I' μ' S H → J.stop ds.length H
theorem Drw.ext {K : PySem.W.Frag} {mg : Str → Option Value} {J : It} {I I1 : Hp} {μ μ1 : List Addr} {ds : List D} (h : Drw K mg J I μ ds) (e : Ext I μ I1 μ1) : Drw K mg J I1 μ1 ds :=
  ⟨fun Z i I' μ' S H e' => h.go Z i I' μ' S H (e.trans e'), fun Z i d I' μ' S H x H' e' => h.yld Z i d I' μ' S H x H' (e.trans e'), fun Z I' μ' S H e' => h.stop Z I' μ' S H (e.trans e')⟩
def Kd (K : PySem.W.Frag) (mg : Str → Option Value) (Z : Zt) (I : Hp) (μ : List Addr) (Φ : List D → Sto → Prop) (R : It → Hp → Prop) : Prop :=
  ∀ (J : It) (ds : List D) (I' : Hp) (μ' : List Addr) (S' : Sto) (H' : Hp), Ext I μ I' μ' → Ok K mg Z I' μ' S' H' → Drw K mg J I' μ' ds → Φ ds S' → R J H'
structure SI (X : Cx) (Γ : Gam) (tg iter : Expr) (wi : TI) (w : WA) : Prop where
  pi : PI X tg iter wi
  si : ∀ (Z : Zt), Lk X Γ Z → ∀ (σ : L2.St) (ρ : Ro) (I : Hp) (μ : List Addr) (S : Sto) (H : Hp) (R : It → Hp → Prop) (Φ : List D → Sto → Prop), RpS X.K X.mg I μ σ ρ → Ok X.K X.mg Z I μ S H → w ρ S Φ → Kd X.K X.mg Z I μ Φ R → wi σ H R
theorem drw_list {K : PySem.W.Frag} {mg : Str → Option Value} {I : Hp} {μ : List Addr} {a : Addr} {vs : List V} {ds : List D} (h : I a = some (.lst vs)) (r : RpL K mg I μ vs ds) : Drw K mg (Itl K a) I μ ds where
  go := fun Z i I' μ' S H e o hi => ⟨vs, vs[i]'(by rw [r.length]; exact hi), SqL.of (o.sub _ _ (e.hp _ _ h)), List.getElem?_eq_getElem _⟩
  yld := fun Z i d I' μ' S H x H' e o hd y => by
    obtain ⟨rfl, y⟩ := y
    have q := y vs (SqL.of (o.sub _ _ (e.hp _ _ h)))
    obtain ⟨d', e1, r1⟩ := r.getV q
    rw [hd] at e1
    cases e1
    exact ⟨I', .refl, o, r1.ext e⟩
  stop := fun Z I' μ' S H e o => ⟨vs, SqL.of (o.sub _ _ (e.hp _ _ h)), by rw [r.length]; exact Nat.le_refl _⟩
theorem drw_tup {K : PySem.W.Frag} {mg : Str → Option Value} {I : Hp} {μ : List Addr} {a : Addr} {vs : List V} {ds : List D} (h : SqT K I a vs) (r : RpL K mg I μ vs ds) : Drw K mg (Itt K a) I μ ds where
  go := fun Z i I' μ' S H e o hi => ⟨vs, vs[i]'(by rw [r.length]; exact hi), same_t o.sub (same_t e.hp h), List.getElem?_eq_getElem _⟩
  yld := fun Z i d I' μ' S H x H' e o hd y => by
    obtain ⟨rfl, y⟩ := y
    have q := y vs (same_t o.sub (same_t e.hp h))
    obtain ⟨d', e1, r1⟩ := r.getV q
    rw [hd] at e1
    cases e1
    exact ⟨I', .refl, o, r1.ext e⟩
  stop := fun Z I' μ' S H e o => ⟨vs, same_t o.sub (same_t e.hp h), by rw [r.length]; exact Nat.le_refl _⟩
/-- lo, lo + 1, .. n of them -/
def rngD (lo : Int) (n : Nat) : List D := (List.range n).map fun (k : Nat) => D.int (lo + (k : Int))
theorem rngD_length (lo : Int) (n : Nat) : (rngD lo n).length = n := by simp [rngD]
theorem drw_rng {K : PySem.W.Frag} {mg : Str → Option Value} {I : Hp} {μ : List Addr} {lo : Int} {n : Nat} : Drw K mg (Itr lo n) I μ (rngD lo n) where
  go := fun Z i I' μ' S H e o hi => by rw [rngD_length] at hi; exact hi
  yld := fun Z i d I' μ' S H x H' e o hd y => by
    obtain ⟨rfl, rfl⟩ := y
    unfold rngD at hd
    rw [List.getElem?_map] at hd
    have hi : i < n := by
      have := (List.getElem?_eq_some_iff.mp (show (rngD lo n)[i]? = some d from by unfold rngD; rw [List.getElem?_map]; exact hd)).1
      rw [rngD_length] at this
      exact this
    rw [List.getElem?_range hi] at hd
    cases hd
    exact ⟨I', .refl, o, .int⟩
  stop := fun Z I' μ' S H e o => by rw [rngD_length]; exact Nat.le_refl _
/-- a list, held fast from now on | a tuple -/
def wItL (we : WE) : WA := fun ρ S Q => we ρ S fun d S1 => match d with
  | .lst ds => Q ds S1
  | .h n => match S1[n]? with
    | some (.lst ds) => Q ds (S1.set n (.frz (.lst ds)))
    | some (.frz (.lst ds)) => Q ds S1
    | _ => False
  | _ => False
def wItT (we : WE) : WA := fun ρ S Q => we ρ S fun d S1 => match view S1 d with
  | .tup ds => Q ds S1
  | _ => False
section
variable {X : Cx} {Γ : Gam} {tg e : Expr} {te : TE} {we : WE} {pos p : Pos}
theorem si_list (h : SE X Γ e te we) : SI X Γ tg e (iList X.K te) (wItL we) :=
  ⟨pi_list h.pe, fun Z lk σ ρ I μ S H R Φ rs ok hw k => h.si Z lk σ ρ I μ S H _ _ rs ok hw fun v d I1 μ1 S1 H1 e1 o1 r1 q1 => by
    split at q1
    · cases r1 with
      | lst z t => exact ⟨_, rfl, ⟨_, SqL.of (o1.sub _ _ z)⟩, k _ _ I1 μ1 S1 H1 e1 o1 (drw_list z t) q1⟩
    · split at q1
      · rename_i n _ ds q
        cases r1 with
        | h z =>
          obtain ⟨a, I2, z2, e2, o2, r2⟩ := o1.freeze q
          rw [z] at z2
          cases z2
          cases r2 with
          | lst y t => exact ⟨_, rfl, ⟨_, SqL.of (o2.sub _ _ y)⟩, k _ _ I2 μ1 _ H1 (e1.trans e2) o2 (drw_list y t) q1⟩
      · rename_i n _ ds q
        cases r1 with
        | h z =>
          have y := (o1.ob n _ _ z q).2
          cases y with
          | lst y t => exact ⟨_, rfl, ⟨_, SqL.of (o1.sub _ _ y)⟩, k _ _ I1 μ1 _ H1 e1 o1 (drw_list y t) q1⟩
      · exact q1.elim
    · exact q1.elim⟩
theorem si_tup (h : SE X Γ e te we) : SI X Γ tg e (iTup X.K te) (wItT we) :=
  ⟨pi_tup h.pe, fun Z lk σ ρ I μ S H R Φ rs ok hw k => h.si Z lk σ ρ I μ S H _ _ rs ok hw fun v d I1 μ1 S1 H1 e1 o1 r1 q1 => by
    split at q1
    · rename_i ds q
      obtain ⟨a, vs, rfl, z, y, t⟩ := view_tup o1 r1 q
      exact ⟨_, rfl, ⟨_, y⟩, k _ _ I1 μ1 S1 H1 e1 o1 (drw_tup z t) q1⟩
    · exact q1.elim⟩
def BIG : Int := 2 ^ 62
def wRng1 (wa : WA) : WA := fun ρ S Q => wa ρ S fun ds S1 => match ds with
  | [.int j] => -BIG ≤ j ∧ j < BIG ∧ Q (rngD 0 j.toNat) S1
  | _ => False
def wRng2 (wa : WA) : WA := fun ρ S Q => wa ρ S fun ds S1 => match ds with
  | [.int i, .int j] => (-BIG ≤ i ∧ i < BIG ∧ -BIG ≤ j ∧ j < BIG) ∧ Q (rngD i (j - i).toNat) S1
  | _ => False
theorem si_rng1 {a : Expr} {ta : TA} {wa : WA} (hm : X.mg "range" = none) (ha : SA X Γ [a] ta wa) (hg : Gl X "range" := by rfl) (hs : starEach [a] X.env = [(false, eval a X.env)] := by rfl) : SI X Γ tg (.Call (.Name "range" p) [a] [] pos) (iRng1 ta) (wRng1 wa) :=
  ⟨pi_range1 hg hm ha.pa hs, fun Z lk σ ρ I μ S H R Φ rs ok hw k => ha.si Z lk σ ρ I μ S H _ _ rs ok hw fun vs ds I1 μ1 S1 H1 e1 o1 r1 q1 => by
    split at q1
    · rename_i j
      cases r1 with
      | cons r t =>
        cases t
        cases r
        exact ⟨j, rfl, q1.1, q1.2.1, k _ _ I1 μ1 S1 H1 e1 o1 drw_rng q1.2.2⟩
    · exact q1.elim⟩
theorem si_rng2 {a b : Expr} {ta : TA} {wa : WA} (hm : X.mg "range" = none) (ha : SA X Γ [a, b] ta wa) (hg : Gl X "range" := by rfl) (hs : starEach [a, b] X.env = [(false, eval a X.env), (false, eval b X.env)] := by rfl) (hs2 : starEach [b] X.env = [(false, eval b X.env)] := by rfl) :
    SI X Γ tg (.Call (.Name "range" p) [a, b] [] pos) (iRng2 ta) (wRng2 wa) :=
  ⟨pi_range2 hg hm ha.pa hs hs2, fun Z lk σ ρ I μ S H R Φ rs ok hw k => ha.si Z lk σ ρ I μ S H _ _ rs ok hw fun vs ds I1 μ1 S1 H1 e1 o1 r1 q1 => by
    split at q1
    · rename_i i j
      cases r1 with
      | cons r t =>
        cases t with
        | cons r' t =>
          cases t
          cases r
          cases r'
          exact ⟨i, j, rfl, q1.1, k _ _ I1 μ1 S1 H1 e1 o1 drw_rng q1.2⟩
    · exact q1.elim⟩
end
/-- the turns of a for -/
def loopD (g : WG) (w : WS) (κ : WK) : List D → Ro → Sto → Prop
  | [], ρ, S => κ.nx ρ S
  | d :: ds, ρ, S => g d ρ S fun ρ1 S1 => w { κ with nx := loopD g w κ ds, ct := loopD g w κ ds, bk := κ.nx } ρ1 S1
def wFor (wi : WA) (g : WG) (w : WS) : WS := fun κ ρ S => wi ρ S fun ds S1 => loopD g w κ ds ρ S1
section
variable {X : Cx} {Γ : Gam} {tg iter : Expr} {body : List Stmt} {wi : TI} {wa : WA} {g : TG} {wg : WG} {tb : TS} {wb : WS} {pos : Pos}
theorem s_for (hp : PassesOwn (model X.prog X.w) X.A X.env X.xe) (hc : X.calm = true) (hi : SI X Γ tg iter wi wa) (hg : SG X Γ tg g wg) (hb : SSs X Γ body tb wb) (hs : ∀ x, foldedSetIterable iter X.env x = pure x := by intro _; rfl) :
    SS X Γ (.For tg iter body [] pos) (tFor wi g tb) (wFor wa wg wb) :=
  ⟨ps_for hp hc hi.pi hg.pg hb.ps hs, fun Z lk σ ρ I μ S H E κ rs ok hw c => hi.si Z lk σ ρ I μ S H _ _ rs ok hw fun J ds I1 μ1 S1 H1 e1 o1 dr q1 => by
    refine ⟨fun i m σ' H' => m = ds.length - i ∧ i ≤ ds.length ∧ ∃ ρ' I' μ' S', Ext I1 μ1 I' μ' ∧ RpS X.K X.mg I' μ' σ' ρ' ∧ Ok X.K X.mg Z I' μ' S' H' ∧ loopD wg wb κ (ds.drop i) ρ' S',
      ⟨ds.length, by simp, Nat.zero_le _, ρ, I1, μ1, S1, .refl, rs.ext e1, o1, by simpa using q1⟩, ?_⟩
    rintro i m σ' H' ⟨rfl, hi, ρ', I', μ', S', e', rs', o', q'⟩
    by_cases hlt : i < ds.length
    · have hd : ds[i]? = some ds[i] := List.getElem?_eq_getElem hlt
      rw [List.drop_eq_getElem_cons hlt] at q'
      refine .inr ⟨dr.go Z i I' μ' S' H' e' o' hlt, fun σ2 H2 => ∃ ρ2 I2 μ2 S2, Ext I1 μ1 I2 μ2 ∧ RpS X.K X.mg I2 μ2 σ2 ρ2 ∧ Ok X.K X.mg Z I2 μ2 S2 H2 ∧ loopD wg wb κ (ds.drop (i + 1)) ρ2 S2, fun σ2 H2 y => ⟨ds.length - (i + 1), by omega, rfl, hlt, y⟩, fun x H2 y => ?_⟩
      obtain ⟨I2, e2, o2, r2⟩ := dr.yld Z i _ I' μ' S' H' x H2 e' o' hd y
      refine hg.si Z lk x _ σ' ρ' I2 μ' S' H2 _ _ r2 (rs'.ext e2) o2 q' fun σ3 ρ3 I3 μ3 S3 H3 e3 rs3 o3 q3 => ?_
      have e13 : Ext I1 μ1 I3 μ3 := (e'.trans e2).trans e3
      refine hb.si Z lk σ3 ρ3 I3 μ3 S3 H3 _ _ rs3 o3 q3 ⟨fun σ4 ρ4 I4 μ4 S4 H4 e4 rs4 o4 q4 => ⟨ρ4, I4, μ4, S4, e13.trans e4, rs4, o4, q4⟩, c.rt.ext (e1.trans e13), fun σ4 ρ4 I4 μ4 S4 H4 e4 rs4 o4 q4 => c.nx σ4 ρ4 I4 μ4 S4 H4 ((e1.trans e13).trans e4) rs4 o4 q4,
        fun σ4 ρ4 I4 μ4 S4 H4 e4 rs4 o4 q4 => ⟨ρ4, I4, μ4, S4, e13.trans e4, rs4, o4, q4⟩⟩
    · have hi' : i = ds.length := by omega
      subst hi'
      rw [List.drop_length] at q'
      exact .inl ⟨dr.stop Z I' μ' S' H' e' o', c.nx σ' ρ' I' μ' S' H' (e1.trans e') rs' o' q'⟩⟩
/-- while: a word by a measure -/
def wWhile (wt : WT) (wb : WS) : WS := fun κ ρ S => ∃ W : Nat → Ro → Sto → Prop, (∃ m, W m ρ S) ∧ ∀ m ρ S, W m ρ S → wt ρ S fun b S1 =>
  if b = true then wb { κ with nx := fun ρ' S' => ∃ m', m' < m ∧ W m' ρ' S', ct := fun ρ' S' => ∃ m', m' < m ∧ W m' ρ' S', bk := κ.nx } ρ S1 else κ.nx ρ S1
variable {c : Expr} {tc : TT} {wt : WT}
theorem s_while (hp : PassesOwn (model X.prog X.w) X.A X.env X.xe) (hc : ST X Γ c tc wt) (hb : SSs X Γ body tb wb) : SS X Γ (.While c body [] pos) (tWhile tc tb) (wWhile wt wb) :=
  ⟨ps_while hp hc.pt hb.ps, fun Z lk σ ρ I μ S H E κ rs ok hw k => by
    obtain ⟨W, ⟨m0, h0⟩, turn⟩ := hw
    refine ⟨fun m σ' H' => ∃ ρ' I' μ' S', Ext I μ I' μ' ∧ RpS X.K X.mg I' μ' σ' ρ' ∧ Ok X.K X.mg Z I' μ' S' H' ∧ W m ρ' S', ⟨m0, ρ, I, μ, S, .refl, rs, ok, h0⟩, ?_⟩
    rintro m σ' H' ⟨ρ', I', μ', S', e', rs', o', q'⟩
    refine hc.si Z lk σ' ρ' I' μ' S' H' _ _ rs' o' (turn m ρ' S' q') fun b I1 μ1 S1 H1 e1 o1 q1 => ?_
    cases b with
    | true =>
      rw [if_pos rfl] at q1 ⊢
      refine ⟨fun σ2 H2 => ∃ m', m' < m ∧ ∃ ρ2 I2 μ2 S2, Ext I μ I2 μ2 ∧ RpS X.K X.mg I2 μ2 σ2 ρ2 ∧ Ok X.K X.mg Z I2 μ2 S2 H2 ∧ W m' ρ2 S2, fun σ2 H2 y => y, ?_⟩
      have e01 : Ext I μ I1 μ1 := e'.trans e1
      refine hb.si Z lk σ' ρ' I1 μ1 S1 H1 _ _ (rs'.ext e1) o1 q1 ⟨fun σ4 ρ4 I4 μ4 S4 H4 e4 rs4 o4 ⟨m', hm, q4⟩ => ⟨m', hm, ρ4, I4, μ4, S4, e01.trans e4, rs4, o4, q4⟩, k.rt.ext e01, fun σ4 ρ4 I4 μ4 S4 H4 e4 rs4 o4 q4 => k.nx σ4 ρ4 I4 μ4 S4 H4 (e01.trans e4) rs4 o4 q4,
        fun σ4 ρ4 I4 μ4 S4 H4 e4 rs4 o4 ⟨m', hm, q4⟩ => ⟨m', hm, ρ4, I4, μ4, S4, e01.trans e4, rs4, o4, q4⟩⟩
    | false =>
      rw [if_neg Bool.false_ne_true] at q1 ⊢
      exact k.nx σ' ρ' I1 μ1 S1 H1 (e'.trans e1) (rs'.ext e1) o1 q1⟩
end

/-! ### calls -/
/-- a def's promise, of data -/
abbrev FSp := List D → Sto → (D → Sto → Prop) → Prop
def spOf (K : PySem.W.Frag) (mg : Str → Option Value) (n : Nat) (sp : FSp) : Sp := fun vs H Q _ => vs.length = n ∧ ∃ (ds : List D) (Z : Zt) (I : Hp) (μ : List Addr) (S : Sto) (Φ : D → Sto → Prop), RpL K mg I μ vs ds ∧ Ok K mg Z I μ S H ∧ sp ds S Φ ∧ Kp K mg Z I μ Φ Q
def wCall (n : Nat) (sp : FSp) (dd : List D) (wa : WA) : WE := fun ρ S Q => wa ρ S fun ds S1 => (ds ++ dd).length = n ∧ sp (ds ++ dd) S1 Q
section
variable {X : Cx} {Γ : Gam} {k j n : Nat} {x m : Str} {sp : FSp} {dvs : List V} {dd : List D} {p pos apos : Pos} {e : Expr} {es : List Expr} {t : TA} {wa : WA}
theorem sim_call {K : PySem.W.Frag} {mg : Str → Option Value} {Z : Zt} (hd : ∀ I μ, RpL K mg I μ dvs dd) (ha : SimA K mg Z t wa) : Sim K mg Z (tCall (spOf K mg n sp) dvs C8.E0 t) (wCall n sp dd wa) := fun σ ρ I μ S H Q Φ rs ok hw k =>
  ha σ ρ I μ S H _ _ rs ok hw fun vs ds I1 μ1 S1 H1 e1 o1 r1 q1 => by
    have r2 := r1.append (hd I1 μ1)
    exact ⟨by rw [r2.length]; exact q1.1, _, Z, I1, μ1, S1, Φ, r2, o1, q1.2, k.ext e1⟩
theorem se_call (c : C8.Cal X.prog X.w X.K X.mg X.base k x (spOf X.K X.mg n sp) dvs) (hr : Room j X.A) (hk : k ≤ j) (hd : ∀ I μ, RpL X.K X.mg I μ dvs dd) (ha : SA X Γ (e :: es) t wa) (hg : Gl X x := by rfl)
    (hdb : (x == ("__debug__" : Str)) = false := by decide) (he : starEach (e :: es) X.env = (false, eval e X.env) :: starEach es X.env := by rfl) (hpl : (backTo pos (starEach es X.env)).any (·.1) = false := by rfl) :
    SE X Γ (.Call (.Name x p) (e :: es) [] pos) (tCall (spOf X.K X.mg n sp) dvs C8.E0 t) (wCall n sp dd wa) := ⟨C8.pe_c c hr hk hg ha.pa hdb he hpl, fun Z lk => sim_call hd (ha.si Z lk)⟩
/-- a built-in, by its values -/
def wB (f : List D → Sto → (D → Sto → Prop) → Prop) (wa : WA) : WE := fun ρ S Q => wa ρ S fun ds S1 => f ds S1 Q
def CbD (K : PySem.W.Frag) (mg : Str → Option Value) (Z : Zt) (r : List V → Hp → VK → Prop) (f : FSp) : Prop :=
  ∀ (I : Hp) (μ : List Addr) (S : Sto) (H : Hp) (vs : List V) (ds : List D) (Q : VK) (Φ : D → Sto → Prop), Ok K mg Z I μ S H → RpL K mg I μ vs ds → f ds S Φ → Kp K mg Z I μ Φ Q → r vs H Q
theorem sim_cb {K : PySem.W.Frag} {mg : Str → Option Value} {Z : Zt} {r : List V → Hp → VK → Prop} {f : FSp} (h : CbD K mg Z r f) (ha : SimA K mg Z t wa) : Sim K mg Z (tCB r t) (wB f wa) := fun σ ρ I μ S H Q Φ rs ok hw k =>
  ha σ ρ I μ S H _ _ rs ok hw fun vs ds I1 μ1 S1 H1 e1 o1 r1 q1 => h I1 μ1 S1 H1 vs ds Q Φ o1 r1 q1 (k.ext e1)
theorem se_cb {id : String} {r : List V → Hp → VK → Prop} {f : FSp} (hc : CallR X (.builtin id) r) (h : ∀ Z, CbD X.K X.mg Z r f) (hm : X.mg x = none) (hv : bootBuiltins x = some (.builtin id)) (ha : SA X Γ (e :: es) t wa) (hg : Gl X x := by rfl) (hn : x ≠ "__name__" := by decide) (hdb : (x == ("__debug__" : Str)) = false := by decide)
    (he : starEach (e :: es) X.env = (false, eval e X.env) :: starEach es X.env := by rfl) (hpl : (backTo pos (starEach es X.env)).any (·.1) = false := by rfl) : SE X Γ (.Call (.Name x p) (e :: es) [] pos) (tCB r t) (wB f wa) :=
  ⟨pe_callB hc hg hm hv ha.pa hn hdb he hpl, fun Z lk => sim_cb (h Z) (ha.si Z lk)⟩
theorem se_cty {T : String} {r : List V → Hp → VK → Prop} {f : FSp} (hc : CallR X (.type T) r) (h : ∀ Z, CbD X.K X.mg Z r f) (hm : X.mg x = none) (hv : bootBuiltins x = some (.type T)) (ha : SA X Γ (e :: es) t wa) (hg : Gl X x := by rfl) (hn : x ≠ "__name__" := by decide) (hdb : (x == ("__debug__" : Str)) = false := by decide)
    (he : starEach (e :: es) X.env = (false, eval e X.env) :: starEach es X.env := by rfl) (hpl : (backTo pos (starEach es X.env)).any (·.1) = false := by rfl) : SE X Γ (.Call (.Name x p) (e :: es) [] pos) (tCB r t) (wB f wa) :=
  ⟨pe_callTy hc hg hm hv ha.pa hn hdb he hpl, fun Z lk => sim_cb (h Z) (ha.si Z lk)⟩
end

/-! ### a def by its body -/
def ro (N : List Str) (ds : List D) : Ro := ds.map some ++ List.replicate (N.length - ds.length) none
theorem gt_ix : ∀ {ρ : Ro} {i : Nat} {d : D}, gt ρ i = some d → ρ[i]? = some (some d)
  | [], _, _, h => by simp [gt] at h
  | x :: r, 0, d, h => by simp [gt] at h; simp [h]
  | x :: r, i + 1, d, h => by simpa using gt_ix (ρ := r) (i := i) (d := d) (by simpa [gt] using h)
theorem rps_start {K : PySem.W.Frag} {mg : Str → Option Value} {I : Hp} {μ : List Addr} {N : List Str} {vs : List V} {ds : List D} (r : RpL K mg I μ vs ds) : RpS K mg I μ (L2.start N vs) (ro N ds) := by
  refine ⟨by simp [L2.start, ro, r.length], fun i d h => ?_⟩
  have q := gt_ix h
  unfold ro at q
  by_cases hi : i < ds.length
  · rw [List.getElem?_append_left (by simpa using hi), List.getElem?_map] at q
    cases e : ds[i]? with
    | none => rw [e] at q; simp at q
    | some d' =>
      rw [e] at q
      simp at q
      subst q
      obtain ⟨v, e1, r1⟩ := r.get e
      refine ⟨v, ?_, r1⟩
      unfold L2.start
      rw [List.getElem?_append_left (by rw [List.length_map, r.length]; exact hi), List.getElem?_map, e1]
      rfl
  · rw [List.getElem?_append_right (by simpa using Nat.le_of_not_lt hi), List.getElem?_replicate] at q
    split at q
    · cases q
    · cases q
/-- the context of a def's body -/
abbrev Bx (P : Program) (w : World) (K : PySem.W.Frag) (mg : Str → Option Value) (base : Heap) (N : List Str) (qual : Str) (sc : Scope) (f : Addr) (cdv : Value) (A : Around) (outer : List Env) (s : Shared) (H : Hp) (E : XK) : Cx :=
  (cxOf C8.CX0 P w K mg base N qual sc f cdv A outer s H E).nox
section
variable {P : Program} {w : World} {K : PySem.W.Frag} {mg : Str → Option Value} {base : Heap}
/-- what a body's derivation shows -/
def Bd (P : Program) (w : World) (K : PySem.W.Frag) (mg : Str → Option Value) (base : Heap) (k : Nat) (N : List Str) (qual : Str) (s : Stmt) (wb : WS) : Prop :=
  ∀ (f : Addr) (cdv : Value) (A : Around) (outer : List Env) (sh : Shared) (H : Hp) (E : XK), Room k (A.deeper (PyProof.Rows.envOfC qual (C8.fnScope s) sh.heap.objs.size f cdv)) →
    ∃ t, SSs (Bx P w K mg base N qual (C8.fnScope s) f cdv A outer sh H E) G0 (C8.fnBody s) t wb
theorem fn_data {x qual : Str} {s : Stmt} {f : Addr} {fd : FuncData} {N ps : List Str} {k : Nat} {wb : WS} {sp : FSp} (F : C8.Fun K x qual s f fd) (S : FnScope N ps (C8.fnScope s)) (d : Bd P w K mg base k N qual s wb)
    (law : ∀ (ds : List D) (S : Sto) (Φ : D → Sto → Prop), ds.length = ps.length → sp ds S Φ → wb { nx := fun _ S' => Φ .non S', rt := Φ } (ro N ds) S) : FnOk P w K mg base C8.CX0 (k + 1) f fd ps (spOf K mg ps.length sp) := by
  refine C8.fn0 F S (fun vs H Q E h => h.1) fun cdv A outer s' H vs Q E hr h => ?_
  obtain ⟨hl, ds, Z, I, μ, St, Φ, r, ok, hs, kp⟩ := h
  obtain ⟨t, q⟩ := d f cdv A outer s' H E hr
  refine ⟨t, q.ps, q.si Z Lk.zero (L2.start N vs) (ro N ds) I μ St H _ _ (rps_start r) ok (law ds St Φ (by rw [← r.length]; exact hl) hs) ⟨fun σ' ρ' I' μ' S' H' e' rs' ok' q' => ?_, kp, fun _ _ _ _ _ _ _ _ _ z => z.elim, fun _ _ _ _ _ _ _ _ _ z => z.elim⟩⟩
  exact kp .non .non I' μ' S' H' e' ok' .non q'
theorem cal_data {x : Str} {s : Stmt} {f : Addr} {fd : FuncData} {N ps : List Str} {ds : List Value} {dvs : List V} {k : Nat} {wb : WS} {sp : FSp} (F : C8.Def K mg x s f fd) (b : Binds K fd ps ds) (dv : Vals dvs ds) (S : FnScope N ps (C8.fnScope s)) (d : Bd P w K mg base k N x s wb)
    (law : ∀ (ds : List D) (S : Sto) (Φ : D → Sto → Prop), ds.length = ps.length → sp ds S Φ → wb { nx := fun _ S' => Φ .non S', rt := Φ } (ro N ds) S) : C8.Cal P w K mg base (k + 1) x (spOf K mg ps.length sp) dvs :=
  ⟨f, fd, ps, ds, fn_data F.fn S d law, F.mgf, F.kp, b, dv⟩
end
end Sq

set_option Elab.async false
set_option maxRecDepth 100000
set_option maxHeartbeats 4000000
set_option linter.all false
/-! Comprehensions; instances of own classes. -/
namespace Sq
open PySem L2

/-! ### comprehensions -/
def wp (ρ : Ro) : List Nat → Ro
  | [] => ρ
  | v :: vs => st (wp ρ vs) v none
theorem wp_length (ρ : Ro) : ∀ vs : List Nat, (wp ρ vs).length = ρ.length
  | [] => rfl
  | v :: vs => by unfold wp; rw [st_length, wp_length ρ vs]
theorem gt_wp {ρ : Ro} {i : Nat} {d : D} : ∀ {vs : List Nat}, gt (wp ρ vs) i = some d → gt ρ i = some d ∧ i ∉ vs
  | [], h => ⟨h, by simp⟩
  | v :: vs, h => by
    unfold wp at h
    rw [gt_st] at h
    split at h
    · cases h
    · rename_i c
      obtain ⟨h1, h2⟩ := gt_wp h
      refine ⟨h1, fun hm => ?_⟩
      rcases List.mem_cons.mp hm with rfl | hm
      · exact c ⟨rfl, by rw [wp_length]; exact gt_lt h1⟩
      · exact h2 hm
theorem rps_wipe {K : PySem.W.Frag} {mg : Str → Option Value} {I : Hp} {μ : List Addr} {σ : L2.St} {ρ : Ro} (r : RpS K mg I μ σ ρ) (vs : List Nat) : RpS K mg I μ (wipe σ vs) (wp ρ vs) :=
  ⟨by rw [wipe_length, wp_length]; exact r.len, fun i d h => by
    obtain ⟨h1, h2⟩ := gt_wp h
    obtain ⟨v, e, q⟩ := r.get i d h1
    exact ⟨v, by rw [wipe_out h2]; exact e, q⟩⟩
theorem wipe_ix (σ : L2.St) (j : Nat) : ∀ vs : List Nat, (wipe σ vs)[j]? = if j ∈ vs then (if j < σ.length then some none else none) else σ[j]?
  | [] => by simp [wipe]
  | v :: vs => by
    unfold wipe
    by_cases e : v = j
    · subst e
      rw [List.getElem?_set]
      simp [wipe_length]
    · rw [List.getElem?_set_ne e, wipe_ix σ j vs]
      have e' : ¬ j = v := fun q => e q.symm
      simp [e']
theorem wipe_back (σ : L2.St) {i : Nat} {vs : List Nat} {o : Option V} (h : i ∈ vs) : wipe (σ.set i o) vs = wipe σ vs := by
  apply List.ext_getElem?
  intro j
  rw [wipe_ix, wipe_ix, List.length_set]
  by_cases hj : j ∈ vs
  · simp [hj]
  · simp only [hj, if_false]
    rw [List.getElem?_set_ne (fun q => hj (by rw [← q]; exact h))]
theorem wipe_twice (σ : L2.St) (vs : List Nat) : wipe (wipe σ vs) vs = wipe σ vs := by
  apply List.ext_getElem?
  intro j
  rw [wipe_ix, wipe_ix, wipe_length]
  by_cases hj : j ∈ vs <;> simp [hj]
/-- a target within a block: it stores the block's own names alone -/
def SimW (K : PySem.W.Frag) (mg : Str → Option Value) (Z : Zt) (vs : List Nat) (g : TG) (w : WG) : Prop :=
  ∀ (v : V) (d : D) (σ σ0 : L2.St) (ρ : Ro) (I : Hp) (μ : List Addr) (S : Sto) (H : Hp) (Q : L2.St → Hp → Prop) (Φ : Ro → Sto → Prop), Rp K mg I μ v d → wipe σ vs = wipe σ0 vs → RpS K mg I μ σ ρ → Ok K mg Z I μ S H → w d ρ S Φ → Kn K mg Z I μ Φ Q → g v σ H fun σ2 H2 => wipe σ2 vs = wipe σ0 vs ∧ Q σ2 H2
def SimWs (K : PySem.W.Frag) (mg : Str → Option Value) (Z : Zt) (vs : List Nat) (g : TGs) (w : WGs) : Prop :=
  ∀ (v : List V) (d : List D) (σ σ0 : L2.St) (ρ : Ro) (I : Hp) (μ : List Addr) (S : Sto) (H : Hp) (Q : L2.St → Hp → Prop) (Φ : Ro → Sto → Prop), RpL K mg I μ v d → wipe σ vs = wipe σ0 vs → RpS K mg I μ σ ρ → Ok K mg Z I μ S H → w d ρ S Φ → Kn K mg Z I μ Φ Q → g v σ H fun σ2 H2 => wipe σ2 vs = wipe σ0 vs ∧ Q σ2 H2
theorem simw_name {K : PySem.W.Frag} {mg : Str → Option Value} {Z : Zt} {vs : List Nat} {i : Nat} (hi : i ∈ vs) : SimW K mg Z vs (gName i) (wName i) := fun v d σ σ0 ρ I μ S H Q Φ r e rs ok h k =>
  ⟨by rw [wipe_back σ hi]; exact e, k _ _ I μ S H .refl (rs.put r i) ok h⟩
theorem simws_nil {K : PySem.W.Frag} {mg : Str → Option Value} {Z : Zt} {vs : List Nat} : SimWs K mg Z vs gNil wGNil := fun v d σ σ0 ρ I μ S H Q Φ r e rs ok h k => by
  cases r with
  | nil => exact ⟨rfl, e, k σ ρ I μ S H .refl rs ok h⟩
  | cons _ _ => exact h.elim
theorem simws_cons {K : PySem.W.Frag} {mg : Str → Option Value} {Z : Zt} {vs : List Nat} {i : Nat} {gs : TGs} {ws : WGs} (hi : i ∈ vs) (h2 : SimWs K mg Z vs gs ws) : SimWs K mg Z vs (gCons (gName i) gs) (wGCons (wName i) ws) := fun v d σ σ0 ρ I μ S H Q Φ r e rs ok h k => by
  cases r with
  | nil => exact h.elim
  | cons r t => exact ⟨_, _, rfl, h2 _ _ _ σ0 _ I μ S H Q Φ t (by rw [wipe_back σ hi]; exact e) (rs.put r i) ok h k⟩
theorem simw_tup {K : PySem.W.Frag} {mg : Str → Option Value} {Z : Zt} {vs : List Nat} {n : Nat} {gs : TGs} {ws : WGs} (h2 : SimWs K mg Z vs gs ws) : SimW K mg Z vs (gTup K n gs) (wGTup n ws) := fun v d σ σ0 ρ I μ S H Q Φ r e rs ok h k => by
  unfold wGTup at h
  split at h
  · rename_i ds e1
    obtain ⟨p, us, rfl, _, h1, r1⟩ := view_tup ok r e1
    exact ⟨p, us, rfl, h1, by rw [r1.length]; exact h.1, h2 _ _ σ σ0 ρ I μ S H Q Φ r1 e rs ok h.2 k⟩
  · exact h.elim
/-- the turns of a comprehension -/
def compD (g : WG) (wt : WT) (we : WE) (ρ : Ro) (Q : List D → Sto → Prop) : List D → List D → Sto → Prop
  | [], acc, S => Q acc S
  | d :: ds, acc, S => g d ρ S fun ρ1 S1 => wt ρ1 S1 fun b S2 => if b = true then we ρ1 S2 fun y S3 => acc.length < LIM ∧ compD g wt we ρ Q ds (acc ++ [y]) S3 else compD g wt we ρ Q ds acc S2
def wYes : WT := fun _ S Q => Q true S
def wLc (wi : WA) (g : WG) (wt : WT) (we : WE) (vs : List Nat) : WE := fun ρ S Q => wi ρ S fun ds S1 => compD g wt we (wp ρ vs) (fun acc S2 => Q (.lst acc) S2) ds [] S1
def wLcM (wi : WA) (g : WG) (wt : WT) (we : WE) (vs : List Nat) : WE := fun ρ S Q => wi ρ S fun ds S1 => compD g wt we (wp ρ vs) (fun acc S2 => Q (.h S2.length) (S2 ++ [.lst acc])) ds [] S1
abbrev Zt.up (Z : Zt) (p : Addr) (u : HO) : Zt := ⟨upd Z.z p u, Z.g, Z.cl⟩
/-- a frame with one more -/
theorem Ok.beside {K : PySem.W.Frag} {mg : Str → Option Value} {Z : Zt} {I : Hp} {μ : List Addr} {S : Sto} {H : Hp} (o : Ok K mg Z I μ S H) {p : Addr} {u : HO} (h : H p = none) : Ok K mg (Z.up p u) I μ S (upd H p u) := by
  have k := o.lay (o := u) h
  refine ⟨fun b v e => ?_, o.gnd, k.sub, k.len, k.nd, k.ob⟩
  have e : upd Z.z p u b = some v := e
  by_cases q : b = p
  · subst q
    rw [upd_same] at e
    cases e
    exact ⟨upd_same, free_of o.sub h, fun hm => by
      obtain ⟨n, hn⟩ := List.getElem?_of_mem hm
      exact (o.there hn) h⟩
  · rw [upd_ne q] at e
    exact k.fra b v e
theorem Ok.beside_put {K : PySem.W.Frag} {mg : Str → Option Value} {Z : Zt} {I : Hp} {μ : List Addr} {S : Sto} {H : Hp} {p : Addr} {u v : HO} (o : Ok K mg (Z.up p u) I μ S H) : Ok K mg (Z.up p v) I μ S (upd H p v) := by
  obtain ⟨hp, hi, hm⟩ := o.fra p u upd_same
  refine ⟨fun b x e => ?_, o.gnd, fun b x e => ?_, o.len, o.nd, fun n b m hb hm' => ?_⟩
  · have e : upd Z.z p v b = some x := e
    by_cases q : b = p
    · subst q
      rw [upd_same] at e
      cases e
      exact ⟨upd_same, hi, hm⟩
    · rw [upd_ne q] at e ⊢
      exact o.fra b x (by show upd Z.z p _ b = some x; rw [upd_ne q]; exact e)
  · rw [upd_ne (ne_of_none e hi)]; exact o.sub b x e
  · have q : b ≠ p := fun z => hm (by rw [← z]; exact List.mem_of_getElem? hb)
    exact (o.ob n b m hb hm').ext Ext.refl (upd_ne q) fun _ i => i
/-- what stood beside is held fast, or enters the store -/
theorem Ok.beside_new {K : PySem.W.Frag} {mg : Str → Option Value} {Z : Zt} {I : Hp} {μ : List Addr} {S : Sto} {H : Hp} {p : Addr} {u : HO} (o : Ok K mg (Z.up p u) I μ S H) (hz : Z.z p = none) : Ok K mg Z (upd I p u) μ S H := by
  obtain ⟨hp, hi, hm⟩ := o.fra p u upd_same
  refine ⟨fun b x e => ?_, Z.cl _ _ _ _ (Ext.new hi) o.gnd, fun b x e => ?_, o.len, o.nd, fun n b m hb hm' => ?_⟩
  · have q : b ≠ p := ne_of_none e hz
    obtain ⟨x1, x2, x3⟩ := o.fra b x (by show upd Z.z p _ b = some x; rw [upd_ne q]; exact e)
    exact ⟨x1, by rw [upd_ne q]; exact x2, x3⟩
  · by_cases q : b = p
    · subst q; rw [upd_same] at e; cases e; exact hp
    · rw [upd_ne q] at e; exact o.sub b x e
  · have q : b ≠ p := fun z => hm (by rw [← z]; exact List.mem_of_getElem? hb)
    exact (o.ob n b m hb hm').ext (Ext.new hi) rfl fun _ i => by rw [upd_ne q]; exact i
theorem Ok.beside_push {K : PySem.W.Frag} {mg : Str → Option Value} {Z : Zt} {I : Hp} {μ : List Addr} {S : Sto} {H : Hp} {p : Addr} {vs : List V} {ds : List D} (o : Ok K mg (Z.up p (.lst vs)) I μ S H) (hz : Z.z p = none) (r : RpL K mg I μ vs ds) : Ok K mg Z I (μ ++ [p]) (S ++ [.lst ds]) H := by
  obtain ⟨hp, hi, hm⟩ := o.fra p (.lst vs) upd_same
  refine ⟨fun b x e => ?_, Z.cl _ _ _ _ Ext.push o.gnd, o.sub, by simp [o.len], ?_, fun n b m hb hm' => ?_⟩
  · have q : b ≠ p := ne_of_none e hz
    obtain ⟨x1, x2, x3⟩ := o.fra b x (by show upd Z.z p _ b = some x; rw [upd_ne q]; exact e)
    exact ⟨x1, x2, fun z => by
      rcases List.mem_append.mp z with z | z
      · exact x3 z
      · simp at z; exact q z⟩
  · exact List.nodup_append.mpr ⟨o.nd, by simp, fun b hb c hc => by
      simp at hc
      subst hc
      intro z
      subst z
      exact hm hb⟩
  · by_cases hn : n < μ.length
    · rw [List.getElem?_append_left hn] at hb
      rw [List.getElem?_append_left (by rw [← o.len]; exact hn)] at hm'
      exact (o.ob n b m hb hm').ext Ext.push rfl fun _ i => i
    · have hl : n < (μ ++ [p]).length := (List.getElem?_eq_some_iff.mp hb).1
      have e : n = μ.length := by simp at hl; omega
      subst e
      rw [List.getElem?_append_right (Nat.le_refl _)] at hb
      rw [List.getElem?_append_right (by rw [o.len]; exact Nat.le_refl _)] at hm'
      simp [o.len] at hb hm'
      subst hb hm'
      exact ⟨hi, vs, hp, r.ext Ext.push⟩
section
variable {X : Cx} {Γ : Gam} {elt tg iter : Expr} {ifs : List Expr} {scope : Scope} {own : List (Str × Nat)} {pos : Pos} {wi : TI} {wa : WA} {g : TG} {wg : WG} {tt : TT} {wt : WT} {te : TE} {we : WE}
/-- a target within the blocks of a comprehension -/
structure SB (X : Cx) (scope : Scope) (vs : List Nat) (tg : Expr) (g : TG) (w : WG) : Prop where
  pg : ∀ (s : Shared) (H : Hp) (C : Addr) (cl : List (Str × Addr)) (fp : List Addr), PG (X.blk s H scope (compEnvC scope cl C X.env) fp) tg g
  si : ∀ Z, SimW X.K X.mg Z vs g w
/-- the conditions -/
structure SF (X : Cx) (scope : Scope) (ifs : List Expr) (tt : TT) (w : WT) : Prop where
  pt : ∀ (s : Shared) (H : Hp) (C : Addr) (cl : List (Str × Addr)) (fp : List Addr), PTs (X.blk s H scope (compEnvC scope cl C X.env) fp) ifs tt
  si : ∀ Z, SimT X.K X.mg Z tt w
/-- an expression within -/
structure SX (X : Cx) (scope : Scope) (e : Expr) (te : TE) (w : WE) : Prop where
  pe : ∀ (s : Shared) (H : Hp) (C : Addr) (cl : List (Str × Addr)) (fp : List Addr), PE (X.blk s H scope (compEnvC scope cl C X.env) fp) e te
  si : ∀ Z, Sim X.K X.mg Z te w
theorem SX.of {tf : Shared → Hp → Addr → List (Str × Addr) → List Addr → TE} (h : ∀ (s : Shared) (H : Hp) (C : Addr) (cl : List (Str × Addr)) (fp : List Addr), SE (X.blk s H scope (compEnvC scope cl C X.env) fp) G0 elt (tf s H C cl fp) we) (s0 : Shared) (H0 : Hp)
    (hc : ∀ s H C cl fp, tf s H C cl fp = tf s0 H0 0 [] [] := by intros; rfl) : SX X scope elt (tf s0 H0 0 [] []) we :=
  ⟨fun s H C cl fp => by rw [← hc s H C cl fp]; exact (h s H C cl fp).pe, fun Z => (h s0 H0 0 [] []).si Z Lk.zero⟩
theorem SF.yes : SF X scope [] tYes wYes := ⟨fun _ _ _ _ _ => pts_nil, fun Z σ ρ I μ S H Q Φ rs ok h k => k _ I μ S H .refl ok h⟩
theorem SF.of {c : Expr} {tf : Shared → Hp → Addr → List (Str × Addr) → List Addr → TT} (h : ∀ (s : Shared) (H : Hp) (C : Addr) (cl : List (Str × Addr)) (fp : List Addr), ST (X.blk s H scope (compEnvC scope cl C X.env) fp) G0 c (tf s H C cl fp) wt) (s0 : Shared) (H0 : Hp)
    (hc : ∀ s H C cl fp, tf s H C cl fp = tf s0 H0 0 [] [] := by intros; rfl) : SF X scope [c] (tf s0 H0 0 [] []) wt :=
  ⟨fun s H C cl fp => by rw [← hc s H C cl fp]; exact pts_one (h s H C cl fp).pt, fun Z => (h s0 H0 0 [] []).si Z Lk.zero⟩
theorem sim_lc {K : PySem.W.Frag} {mg : Str → Option Value} {vs : List Nat} {bm : Bool}
    {Z : Zt} (hi : ∀ (σ : L2.St) (ρ : Ro) (I : Hp) (μ : List Addr) (S : Sto) (H : Hp) (R : It → Hp → Prop) (Φ : List D → Sto → Prop), RpS K mg I μ σ ρ → Ok K mg Z I μ S H → wa ρ S Φ → Kd K mg Z I μ Φ R → wi σ H R)
    (hg : ∀ Z, SimW K mg Z vs g wg) (ht : ∀ Z, SimT K mg Z tt wt) (he : ∀ Z, Sim K mg Z te we) : Sim K mg Z (tLc wi g tt te vs) (if bm then wLcM wa wg wt we vs else wLc wa wg wt we vs) := by
  intro σ ρ I μ S H Q Φ rs ok h k
  have h' : wa ρ S fun ds S1 => compD wg wt we (wp ρ vs) (fun acc S2 => if bm then Φ (.h S2.length) (S2 ++ [.lst acc]) else Φ (.lst acc) S2) ds [] S1 := by
    cases bm <;> exact h
  refine hi σ ρ I μ S H _ _ rs ok h' fun J ds I1 μ1 S1 H1 e1 o1 dr q1 => ?_
  intro D hD
  have hZD : Z.z D = none := by
    cases q : Z.z D with
    | none => rfl
    | some u => have := (o1.fra D u q).1; rw [hD] at this; cases this
  have rsw : RpS K mg I1 μ1 (wipe σ vs) (wp ρ vs) := rps_wipe (rs.ext e1) vs
  refine ⟨fun i m H' => m = ds.length - i ∧ i ≤ ds.length ∧ ∃ accV accD I' μ' S', Ext I1 μ1 I' μ' ∧ Ok K mg (Z.up D (.lst accV)) I' μ' S' H' ∧ RpL K mg I' μ' accV accD ∧
      compD wg wt we (wp ρ vs) (fun acc S2 => if bm then Φ (.h S2.length) (S2 ++ [.lst acc]) else Φ (.lst acc) S2) (ds.drop i) accD S',
    ⟨ds.length, by simp, Nat.zero_le _, [], [], I1, μ1, S1, .refl, o1.beside hD, .nil, by simpa using q1⟩, ?_⟩
  rintro i m H' ⟨rfl, hil, accV, accD, I', μ', S', e', o', ra, q'⟩
  by_cases hlt : i < ds.length
  · have hd : ds[i]? = some ds[i] := List.getElem?_eq_getElem hlt
    rw [List.drop_eq_getElem_cons hlt] at q'
    refine .inr ⟨dr.go _ i I' μ' S' H' e' o' hlt, fun H2 => ∃ accV accD I2 μ2 S2, Ext I1 μ1 I2 μ2 ∧ Ok K mg (Z.up D (.lst accV)) I2 μ2 S2 H2 ∧ RpL K mg I2 μ2 accV accD ∧
      compD wg wt we (wp ρ vs) (fun acc S2 => if bm then Φ (.h S2.length) (S2 ++ [.lst acc]) else Φ (.lst acc) S2) (ds.drop (i + 1)) accD S2, fun H2 y => ⟨ds.length - (i + 1), by omega, rfl, hlt, y⟩, fun x H2 y => ?_⟩
    obtain ⟨I2, e2, o2, r2⟩ := dr.yld _ i _ I' μ' S' H' x H2 e' o' hd y
    refine hg _ x _ (wipe σ vs) σ (wp ρ vs) I2 μ' S' H2 _ _ r2 (wipe_twice σ vs) (rsw.ext (e'.trans e2)) o2 q' fun σ3 ρ3 I3 μ3 S3 H3 e3 rs3 o3 q3 => ?_
    refine ht _ σ3 ρ3 I3 μ3 S3 H3 _ _ rs3 o3 q3 fun b I4 μ4 S4 H4 e4 o4 q4 => ?_
    have e14 : Ext I1 μ1 I4 μ4 := ((e'.trans e2).trans e3).trans e4
    cases b with
    | true =>
      rw [if_pos rfl] at q4 ⊢
      refine he _ σ3 ρ3 I4 μ4 S4 H4 _ _ (rs3.ext e4) o4 q4 fun w d I5 μ5 S5 H5 e5 o5 r5 q5 => ?_
      have ra5 : RpL K mg I5 μ5 accV accD := ra.ext (((e2.trans e3).trans e4).trans e5)
      exact ⟨accV, (o5.fra D _ upd_same).1, lim_lt (by rw [ra5.length]; exact q5.1), accV ++ [w], accD ++ [d], I5, μ5, S5, e14.trans e5, o5.beside_put, ra5.append (.cons r5 .nil), q5.2⟩
    | false =>
      rw [if_neg Bool.false_ne_true] at q4 ⊢
      exact ⟨accV, accD, I4, μ4, S4, e14, o4, ra.ext ((e2.trans e3).trans e4), q4⟩
  · have hi' : i = ds.length := by omega
    subst hi'
    rw [List.drop_length] at q'
    refine .inl ⟨dr.stop _ I' μ' S' H' e' o', ?_⟩
    cases bm with
    | false =>
      have hi2 := (o'.fra D _ upd_same).2.1
      exact k _ _ (upd I' D (.lst accV)) μ' S' H' ((e1.trans e').trans (Ext.new hi2)) (o'.beside_new hZD) (.lst upd_same (ra.ext (Ext.new hi2))) (by simpa [compD] using q')
    | true =>
      exact k (.ref D) (.h S'.length) I' (μ' ++ [D]) (S' ++ [M.lst accD]) H' ((e1.trans e').trans Ext.push) (o'.beside_push hZD ra) (.h (mu_last o' D)) (by simpa [compD] using q')
end
end Sq

set_option Elab.async false
set_option maxRecDepth 100000
set_option maxHeartbeats 4000000
set_option linter.all false
/-! The rules of comprehensions; own classes; built-ins. -/
namespace Sq
open PySem L2

section
variable {X : Cx} {Γ : Gam} {elt tg iter : Expr} {ifs : List Expr} {scope : Scope} {own : List (Str × Nat)} {pos : Pos} {wi : TI} {wa : WA} {g : TG} {wg : WG} {tt : TT} {wt : WT} {te : TE} {we : WE}
theorem se_lc (hc : X.calm = true) (hN : X.N.Nodup) (hi : SI X Γ tg iter wi wa) (ok : BlkOk X.N X.env.scope scope own) (hg : SB X scope (own.map (·.2)) tg g wg) (ht : SF X scope ifs tt wt) (he : SX X scope elt te we) (hs : ∀ x, foldedSetIterable iter X.env x = pure x := by intro _; rfl) :
    SE X Γ (.ListComp elt [⟨tg, iter, ifs, 0⟩] scope pos) (tLc wi g tt te (own.map (·.2))) (wLc wa wg wt we (own.map (·.2))) :=
  ⟨pe_lc hc hN hi.pi ok hg.pg ht.pt he.pe hs, fun Z lk => sim_lc (bm := false) (hi.si Z lk) hg.si ht.si he.si⟩
theorem se_lcM (hc : X.calm = true) (hN : X.N.Nodup) (hi : SI X Γ tg iter wi wa) (ok : BlkOk X.N X.env.scope scope own) (hg : SB X scope (own.map (·.2)) tg g wg) (ht : SF X scope ifs tt wt) (he : SX X scope elt te we) (hs : ∀ x, foldedSetIterable iter X.env x = pure x := by intro _; rfl) :
    SE X Γ (.ListComp elt [⟨tg, iter, ifs, 0⟩] scope pos) (tLc wi g tt te (own.map (·.2))) (wLcM wa wg wt we (own.map (·.2))) :=
  ⟨pe_lc hc hN hi.pi ok hg.pg ht.pt he.pe hs, fun Z lk => sim_lc (bm := true) (hi.si Z lk) hg.si ht.si he.si⟩
theorem s_setLc (i : Nat) {y : Str} {py spos : Pos} (hc : X.calm = true) (hN : X.N.Nodup) (hi : SI X Γ tg iter wi wa) (ok : BlkOk X.N X.env.scope scope own) (hg : SB X scope (own.map (·.2)) tg g wg) (ht : SF X scope ifs tt wt) (he : SX X scope elt te we)
    (hsw : swapsWith (.ListComp elt [⟨tg, iter, ifs, 0⟩] scope pos) (some (.Name y py)) spos.line X.env = pure true) (hy : X.N[i]? = some y := by rfl) (hyl : X.env.scope.names.lookup y = some .local := by rfl) (hs : ∀ x, foldedSetIterable iter X.env x = pure x := by intro _; rfl) :
    SS X Γ (.Assign [.Name y py] (.ListComp elt [⟨tg, iter, ifs, 0⟩] scope pos) spos) (tAsg (tLc wi g tt te (own.map (·.2))) (gName i)) (wAsg (wLc wa wg wt we (own.map (·.2))) (wName i)) :=
  ⟨ps_setLc hc hN hy hyl hsw hi.pi ok hg.pg ht.pt he.pe hs, fun Z lk σ ρ I μ S H E κ rs ok h c => sim_lc (bm := false) (hi.si Z lk) hg.si ht.si he.si σ ρ I μ S H _ _ rs ok h fun v d I1 μ1 S1 H1 e1 o1 r1 q1 =>
    c.nx _ _ I1 μ1 S1 H1 e1 ((rs.ext e1).put r1 i) o1 q1⟩
theorem s_setLcM (i : Nat) {y : Str} {py spos : Pos} (hc : X.calm = true) (hN : X.N.Nodup) (hi : SI X Γ tg iter wi wa) (ok : BlkOk X.N X.env.scope scope own) (hg : SB X scope (own.map (·.2)) tg g wg) (ht : SF X scope ifs tt wt) (he : SX X scope elt te we)
    (hsw : swapsWith (.ListComp elt [⟨tg, iter, ifs, 0⟩] scope pos) (some (.Name y py)) spos.line X.env = pure true) (hy : X.N[i]? = some y := by rfl) (hyl : X.env.scope.names.lookup y = some .local := by rfl) (hs : ∀ x, foldedSetIterable iter X.env x = pure x := by intro _; rfl) :
    SS X Γ (.Assign [.Name y py] (.ListComp elt [⟨tg, iter, ifs, 0⟩] scope pos) spos) (tAsg (tLc wi g tt te (own.map (·.2))) (gName i)) (wAsg (wLcM wa wg wt we (own.map (·.2))) (wName i)) :=
  ⟨ps_setLc hc hN hy hyl hsw hi.pi ok hg.pg ht.pt he.pe hs, fun Z lk σ ρ I μ S H E κ rs ok h c => sim_lc (bm := true) (hi.si Z lk) hg.si ht.si he.si σ ρ I μ S H _ _ rs ok h fun v d I1 μ1 S1 H1 e1 o1 r1 q1 =>
    c.nx _ _ I1 μ1 S1 H1 e1 ((rs.ext e1).put r1 i) o1 q1⟩
theorem sb_name (i : Nat) {x : Str} {p : Pos} {vs : List Nat} (hv : i ∈ vs) (hg : ∀ (s : Shared) (H : Hp) (C : Addr) (cl : List (Str × Addr)) (fp : List Addr), PG (X.blk s H scope (compEnvC scope cl C X.env) fp) (.Name x p) (gName i)) : SB X scope vs (.Name x p) (gName i) (wName i) :=
  ⟨hg, fun _ => simw_name hv⟩
end

/-! ### no handle from n on -/
mutual
def low (n : Nat) : D → Prop
  | .tup ds => lows n ds
  | .lst ds => lows n ds
  | .dct k => lowk n k
  | .ins _ f => lowf n f
  | .exc _ f => lowf n f
  | .h k => k < n
  | _ => True
def lows (n : Nat) : List D → Prop
  | [] => True
  | d :: ds => low n d ∧ lows n ds
def lowk (n : Nat) : List (Key × D) → Prop
  | [] => True
  | (_, d) :: ds => low n d ∧ lowk n ds
def lowf (n : Nat) : List (Str × D) → Prop
  | [] => True
  | (_, d) :: ds => low n d ∧ lowf n ds
end
section
variable {K : PySem.W.Frag} {mg : Str → Option Value} {Z : Zt} {I : Hp} {μ μ' : List Addr} {n : Nat}
mutual
theorem Rp.cut (hm : ∀ (k : Nat) (a : Addr), k < n → μ[k]? = some a → μ'[k]? = some a) : ∀ {v : V} {d : D}, Rp K mg I μ v d → low n d → Rp K mg I μ' v d
  | _, _, .non, _ => .non
  | _, _, .bl, _ => .bl
  | _, _, .int, _ => .int
  | _, _, .str, _ => .str
  | _, _, .tup h r, l => .tup h (RpL.cut hm r (by simpa [low] using l))
  | _, _, .lst h r, l => .lst h (RpL.cut hm r (by simpa [low] using l))
  | _, _, .dct h r, l => .dct h (RpK.cut hm r (by simpa [low] using l))
  | _, _, .fn m, _ => .fn m
  | _, _, .ins m h r, l => .ins m h (RpF.cut hm r (by simpa [low] using l))
  | _, _, .h q, l => .h (hm _ _ (by simpa [low] using l) q)
  | _, _, .scr q, _ => .scr q
  | _, _, .exc0 m h z q, _ => .exc0 m h z q
  | _, _, .exc1 m h z q l r, w => .exc1 m h z q l (RpF.cut hm r (by simpa [low] using w))
theorem RpL.cut (hm : ∀ (k : Nat) (a : Addr), k < n → μ[k]? = some a → μ'[k]? = some a) : ∀ {v : List V} {d : List D}, RpL K mg I μ v d → lows n d → RpL K mg I μ' v d
  | _, _, .nil, _ => .nil
  | _, _, .cons h r, l => by
    rw [lows] at l
    exact .cons (Rp.cut hm h l.1) (RpL.cut hm r l.2)
theorem RpK.cut (hm : ∀ (k : Nat) (a : Addr), k < n → μ[k]? = some a → μ'[k]? = some a) : ∀ {v : List (Key × V)} {d : List (Key × D)}, RpK K mg I μ v d → lowk n d → RpK K mg I μ' v d
  | _, _, .nil, _ => .nil
  | _, _, .cons h r, l => by
    rw [lowk] at l
    exact .cons (Rp.cut hm h l.1) (RpK.cut hm r l.2)
theorem RpF.cut (hm : ∀ (k : Nat) (a : Addr), k < n → μ[k]? = some a → μ'[k]? = some a) : ∀ {v : List (Str × V)} {d : List (Str × D)}, RpF K mg I μ v d → lowf n d → RpF K mg I μ' v d
  | _, _, .nil, _ => .nil
  | _, _, .cons h r, l => by
    rw [lowf] at l
    exact .cons (Rp.cut hm h l.1) (RpF.cut hm r l.2)
end
/-- what is in the store below n -/
def lowM (n : Nat) : M → Prop
  | .frz d => low n d
  | .bag => True
  | .lst ds => lows n ds
  | .dct k => lowk n k
  | .ins _ f => lowf n f
  | .lck _ k => lowk n k
theorem MOk.cut {H : Hp} {a : Addr} {m : M} (hm : ∀ (k : Nat) (a : Addr), k < n → μ[k]? = some a → μ'[k]? = some a) (h : MOk K mg I μ H a m) (l : lowM n m) : MOk K mg I μ' H a m := by
  cases m with
  | frz d => exact ⟨h.1, h.2.cut hm l⟩
  | bag => exact h
  | lst ds => obtain ⟨i, vs, q, r⟩ := h; exact ⟨i, vs, q, r.cut hm l⟩
  | dct kd => obtain ⟨i, vs, q, r⟩ := h; exact ⟨i, vs, q, r.cut hm l⟩
  | lck o kd => obtain ⟨i, q, od, kv, z, r⟩ := h; exact ⟨i, q, od, kv, z, r.cut hm l⟩
  | ins c fd => obtain ⟨i, C, dx, fv, m, q, r⟩ := h; exact ⟨i, C, dx, fv, m, q, r.cut hm l⟩
/-- the store's end is forgotten -/
theorem Ok.take {S : Sto} {H : Hp} (o : Ok K mg Z I μ S H) (n : Nat) (hg : Z.g I (μ.take n)) (l : ∀ (k : Nat) (m : M), k < n → S[k]? = some m → lowM n m) : Ok K mg Z I (μ.take n) (S.take n) H := by
  refine ⟨fun b u e => ?_, hg, o.sub, by simp [o.len], o.nd.sublist (List.take_sublist _ _), fun k b m hb hm => ?_⟩
  · obtain ⟨x, y, z⟩ := o.fra b u e
    exact ⟨x, y, fun q => z (List.mem_of_mem_take q)⟩
  · have hk : k < n := by
      have := (List.getElem?_eq_some_iff.mp hb).1
      simp at this
      omega
    rw [List.getElem?_take_of_lt hk] at hb hm
    exact (o.ob k b m hb hm).cut (fun j a hj e => by rw [List.getElem?_take_of_lt hj]; exact e) (l k m hk hm)
theorem mu_take {n : Nat} (hl : μ.length ≤ n) (h : ∀ (k : Nat) (a : Addr), μ[k]? = some a → μ'[k]? = some a) : ∀ (k : Nat) (a : Addr), μ[k]? = some a → (μ'.take n)[k]? = some a := fun k a e => by
  have := (List.getElem?_eq_some_iff.mp e).1
  rw [List.getElem?_take_of_lt (by omega)]
  exact h k a e
end

/-! ### defs whose own lists end with them -/
section
variable {P : Program} {w : World} {K : PySem.W.Frag} {mg : Str → Option Value} {base : Heap}
/-- behind a def: its own part of the store is forgotten -/
def Cut (n : Nat) (Φ : D → Sto → Prop) : D → Sto → Prop := fun d S => low n d ∧ (∀ (k : Nat) (m : M), k < n → S[k]? = some m → lowM n m) ∧ Φ d (S.take n)
theorem Kp.cut {Z : Zt} {I : Hp} {μ : List Addr} {n : Nat} {Φ : D → Sto → Prop} {Q : VK} (k : Kp K mg Z I μ Φ Q) (hg : Z.g I μ) (hl : μ.length ≤ n) : Kp K mg Z I μ (Cut n Φ) Q := fun v d I' μ' S' H' e o r q => by
  obtain ⟨l1, l2, q⟩ := q
  exact k v d I' (μ'.take n) (S'.take n) H' ⟨e.hp, mu_take hl e.mu⟩ (o.take n (Z.cl _ _ _ _ ⟨e.hp, mu_take hl e.mu⟩ hg) l2) (r.cut (fun j a hj x => by rw [List.getElem?_take_of_lt hj]; exact x) l1) q
theorem fn_dataC {x qual : Str} {s : Stmt} {f : Addr} {fd : FuncData} {N ps : List Str} {k : Nat} {wb : WS} {sp : FSp} (F : C8.Fun K x qual s f fd) (S : FnScope N ps (C8.fnScope s)) (d : Bd P w K mg base k N qual s wb)
    (law : ∀ (ds : List D) (S : Sto) (Φ : D → Sto → Prop), ds.length = ps.length → sp ds S Φ → wb { nx := fun _ S' => Cut S.length Φ .non S', rt := Cut S.length Φ } (ro N ds) S) : FnOk P w K mg base C8.CX0 (k + 1) f fd ps (spOf K mg ps.length sp) := by
  refine C8.fn0 F S (fun vs H Q E h => h.1) fun cdv A outer s' H vs Q E hr h => ?_
  obtain ⟨hl, ds, Z, I, μ, St, Φ, r, ok, hs, kp⟩ := h
  obtain ⟨t, q⟩ := d f cdv A outer s' H E hr
  have kc := kp.cut (n := St.length) ok.gnd (by rw [ok.len]; exact Nat.le_refl _)
  refine ⟨t, q.ps, q.si Z Lk.zero (L2.start N vs) (ro N ds) I μ St H _ _ (rps_start r) ok (law ds St Φ (by rw [← r.length]; exact hl) hs) ⟨fun σ' ρ' I' μ' S' H' e' rs' ok' q' => ?_, kc, fun _ _ _ _ _ _ _ _ _ z => z.elim, fun _ _ _ _ _ _ _ _ _ z => z.elim⟩⟩
  exact kc .non .non I' μ' S' H' e' ok' .non q'
theorem cal_dataC {x : Str} {s : Stmt} {f : Addr} {fd : FuncData} {N ps : List Str} {ds : List Value} {dvs : List V} {k : Nat} {wb : WS} {sp : FSp} (F : C8.Def K mg x s f fd) (b : Binds K fd ps ds) (dv : Vals dvs ds) (S : FnScope N ps (C8.fnScope s)) (d : Bd P w K mg base k N x s wb)
    (law : ∀ (ds : List D) (S : Sto) (Φ : D → Sto → Prop), ds.length = ps.length → sp ds S Φ → wb { nx := fun _ S' => Cut S.length Φ .non S', rt := Cut S.length Φ } (ro N ds) S) : C8.Cal P w K mg base (k + 1) x (spOf K mg ps.length sp) dvs :=
  ⟨f, fd, ps, ds, fn_dataC F.fn S d law, F.mgf, F.kp, b, dv⟩
end

/-! ### instances -/
/-- the attributes of an instance of the class c -/
def atts (S : Sto) (c : Str) : D → Option (List (Str × D))
  | .ins c' fs => if c' = c then some fs else none
  | .h n => match S[n]? with
    | some (.ins c' fs) => if c' = c then some fs else none
    | some (.frz (.ins c' fs)) => if c' = c then some fs else none
    | _ => none
  | _ => none
theorem RpF.look {K : PySem.W.Frag} {mg : Str → Option Value} {I : Hp} {μ : List Addr} {f : Str} : ∀ {fv : List (Str × V)} {fs : List (Str × D)}, RpF K mg I μ fv fs → (∀ d, fs.lookup f = some d → ∃ v, fv.lookup f = some v ∧ Rp K mg I μ v d) ∧ (fs.lookup f = none → fv.lookup f = none)
  | _, _, .nil => ⟨fun _ h => (nomatch h), fun _ => rfl⟩
  | _, _, .cons (k := k) h r => by
    obtain ⟨i1, i2⟩ := RpF.look (f := f) r
    cases e : f == k with
    | true => simp only [List.lookup, e]; exact ⟨fun d q => by cases q; exact ⟨_, rfl, h⟩, fun q => by cases q⟩
    | false => simp only [List.lookup, e]; exact ⟨i1, i2⟩
theorem RpF.length {K : PySem.W.Frag} {mg : Str → Option Value} {I : Hp} {μ : List Addr} : ∀ {fv : List (Str × V)} {fs : List (Str × D)}, RpF K mg I μ fv fs → fv.length = fs.length
  | _, _, .nil => rfl
  | _, _, .cons _ r => by simp [RpF.length r]
theorem atts_ok {K : PySem.W.Frag} {mg : Str → Option Value} {Z : Zt} {I : Hp} {μ : List Addr} {S : Sto} {H : Hp} {v : V} {d : D} {c : Str} {fs : List (Str × D)} (o : Ok K mg Z I μ S H) (r : Rp K mg I μ v d) (e : atts S c d = some fs) :
    ∃ (a C dx : Addr) (fv : List (Str × V)), v = .ref a ∧ mg c = some (.ref C) ∧ H a = some (.ins C dx fv) ∧ RpF K mg I μ fv fs := by
  have base : ∀ {v : V} {c' : Str} {gs : List (Str × D)}, Rp K mg I μ v (.ins c' gs) → (if c' = c then some gs else none) = some fs → ∃ (a C dx : Addr) (fv : List (Str × V)), v = .ref a ∧ mg c = some (.ref C) ∧ H a = some (.ins C dx fv) ∧ RpF K mg I μ fv fs := fun r e => by
    split at e
    · rename_i q
      cases e
      subst q
      cases r with | ins m h t => exact ⟨_, _, _, _, rfl, m, o.sub _ _ h, t⟩
    · cases e
  cases r with
  | ins m h t => exact base (.ins m h t) e
  | h q =>
    rename_i a n
    unfold atts at e
    simp only at e
    split at e
    · rename_i c' gs z
      split at e
      · rename_i w
        cases e
        subst w
        obtain ⟨_, C, dx, fv, m, y, t⟩ := o.ob n a _ q z
        exact ⟨a, C, dx, fv, rfl, m, y, t⟩
      · cases e
    · rename_i c' gs z
      exact base (o.ob n a _ q z).2 e
    · cases e
  | _ => cases e
/-- a class of the text -/
structure KC (K : PySem.W.Frag) (mg : Str → Option Value) (c : Str) : Prop where
  ex : ∃ C, mg c = some (.ref C) ∧ Cls K C
structure KF (K : PySem.W.Frag) (mg : Str → Option Value) (c f : Str) : Prop where
  ex : ∀ C, mg c = some (.ref C) → Cls K C ∧ NoAttr K C f
def wFld (c f : Str) (we : WE) : WE := fun ρ S Q => we ρ S fun d S1 => onS (atts S1 c d) fun fs => onS (fs.lookup f) fun x => Q x S1
section
variable {X : Cx} {Γ : Gam} {e o : Expr} {pos p apos : Pos} {te : TE} {we : WE} {c f m : Str}
theorem se_fld (k : KF X.K X.mg c f) (h : SE X Γ e te we) (hb : attributeBase e f X.env (eval e X.env) = eval e X.env := by rfl) : SE X Γ (.Attribute e f pos) (tFld X.K te f) (wFld c f we) :=
  ⟨pe_fld h.pe hb, fun Z lk σ ρ I μ S H Q Φ rs ok hw kp => h.si Z lk σ ρ I μ S H _ _ rs ok hw fun v d I1 μ1 S1 H1 e1 o1 r1 q1 => by
    obtain ⟨fs, q, q1⟩ := onS_iff q1
    obtain ⟨x, q2, q1⟩ := onS_iff q1
    obtain ⟨a, C, dx, fv, rfl, hm, hh, t⟩ := atts_ok o1 r1 q
    obtain ⟨v, l, r⟩ := t.look.1 x q2
    obtain ⟨k1, k2⟩ := k.ex C hm
    exact ⟨a, C, dx, fv, v, rfl, hh, k1, k2, l, kp _ _ I1 μ1 S1 H1 e1 o1 r q1⟩⟩
/-- a method -/
def wMeth (c m : Str) (n : Nat) (sp : FSp) (dd : List D) (we : WE) (wa : WA) : WE := fun ρ S Q => we ρ S fun d S1 => onS (atts S1 c d) fun fs => fs.lookup m = none ∧ wa ρ S1 fun ds S2 => (d :: (ds ++ dd)).length = n ∧ sp (d :: (ds ++ dd)) S2 Q
/-- a method of the class c, its promise by data -/
structure MD (P : Program) (w : World) (K : PySem.W.Frag) (mg : Str → Option Value) (base : Heap) (k : Nat) (c m : Str) (n : Nat) (sp : FSp) (dvs : List V) : Prop where
  ex : ∃ C, mg c = some (.ref C) ∧ C8.Met P w K mg base k C m (spOf K mg n sp) dvs
theorem sim_meth {K : PySem.W.Frag} {mg : Str → Option Value} {C : Addr} {n : Nat} {sp : FSp} {dvs : List V} {dd : List D} {t : TA} {wa : WA} (hC : mg c = some (.ref C)) (hd : ∀ I μ, RpL K mg I μ dvs dd) {Z : Zt} (he : Sim K mg Z te we) (ha : SimA K mg Z t wa) : Sim K mg Z (tMeth C m (spOf K mg n sp) dvs C8.E0 te t) (wMeth c m n sp dd we wa) := fun σ ρ I μ S H Q Φ rs ok hw kp =>
  he σ ρ I μ S H _ _ rs ok hw fun v d I1 μ1 S1 H1 e1 o1 r1 q1 => by
    obtain ⟨fs, q, q1⟩ := onS_iff q1
    obtain ⟨a, C', dx, fv, rfl, hm, hh, t⟩ := atts_ok o1 r1 q
    rw [hC] at hm
    cases hm
    refine ⟨a, dx, fv, rfl, hh, t.look.2 q1.1, ?_⟩
    refine ha σ ρ I1 μ1 S1 H1 _ _ (rs.ext e1) o1 q1.2 fun vs ds I2 μ2 S2 H2 e2 o2 r2 q2 => ?_
    have r3 : RpL K mg I2 μ2 (V.ref a :: (vs ++ dvs)) (d :: (ds ++ dd)) := .cons (r1.ext e2) (r2.append (hd I2 μ2))
    exact ⟨by rw [r3.length]; exact q2.1, _, Z, I2, μ2, S2, Φ, r3, o2, q2.2, kp.ext (e1.trans e2)⟩
def tMt (mg : Str → Option Value) (c m : Str) (sp : Sp) (dvs : List V) (te : TE) (t : TA) : TE := fun σ H Q => ∃ C, mg c = some (.ref C) ∧ tMeth C m sp dvs C8.E0 te t σ H Q
theorem se_meth0 {k j n : Nat} {sp : FSp} {dvs : List V} {dd : List D} {pl : Sem Bool} (cm : MD X.prog X.w X.K X.mg X.base k c m n sp dvs) (hr : Room j X.A) (hk : k ≤ j) (hd : ∀ I μ, RpL X.K X.mg I μ dvs dd) (h : SE X Γ o te we)
    (ht : eval (.Call (.Attribute o m apos) [] [] pos) X.env = (do
      let ov ← eval o X.env
      standAt apos.atName
      let (f, first) ← holding [ov] (getMethod ov m pl)
      callWith pos f first (backTo pos (starEach [] X.env)) (backToKw pos (keywordEach [] X.env))) := by rfl) :
    SE X Γ (.Call (.Attribute o m apos) [] [] pos) (tMt X.mg c m (spOf X.K X.mg n sp) dvs te tNil) (wMeth c m n sp dd we wNil) := by
  obtain ⟨C, hC, M⟩ := cm.ex
  refine ⟨⟨fun pins s σ H Q I hw => ?_⟩, fun Z lk σ ρ I μ S H Q Φ rs ok hw kp => ⟨C, hC, sim_meth hC hd (h.si Z lk) (fun _ _ I μ S H _ _ _ ok h k => k _ _ I μ S H .refl ok .nil h) σ ρ I μ S H Q Φ rs ok hw kp⟩⟩
  obtain ⟨C', hC', q⟩ := hw
  rw [hC] at hC'
  cases hC'
  exact (C8.pe_mt0 (pl := pl) M hr hk h.pe ht).run pins s σ H Q I q
theorem se_meth {k j n : Nat} {sp : FSp} {dvs : List V} {dd : List D} {pl : Sem Bool} {e : Expr} {es : List Expr} {t : TA} {wa : WA} (cm : MD X.prog X.w X.K X.mg X.base k c m n sp dvs) (hr : Room j X.A) (hk : k ≤ j) (hd : ∀ I μ, RpL X.K X.mg I μ dvs dd) (h : SE X Γ o te we) (ha : SA X Γ (e :: es) t wa)
    (hst : starEach (e :: es) X.env = (false, eval e X.env) :: starEach es X.env := by rfl) (hpl : (backTo pos (starEach es X.env)).any (·.1) = false := by rfl)
    (ht : eval (.Call (.Attribute o m apos) (e :: es) [] pos) X.env = (do
      let ov ← eval o X.env
      standAt apos.atName
      let (f, first) ← holding [ov] (getMethod ov m pl)
      callWith pos f first (backTo pos (starEach (e :: es) X.env)) (backToKw pos (keywordEach [] X.env))) := by rfl) :
    SE X Γ (.Call (.Attribute o m apos) (e :: es) [] pos) (tMt X.mg c m (spOf X.K X.mg n sp) dvs te t) (wMeth c m n sp dd we wa) := by
  obtain ⟨C, hC, M⟩ := cm.ex
  refine ⟨⟨fun pins s σ H Q I hw => ?_⟩, fun Z lk σ ρ I μ S H Q Φ rs ok hw kp => ⟨C, hC, sim_meth hC hd (h.si Z lk) (ha.si Z lk) σ ρ I μ S H Q Φ rs ok hw kp⟩⟩
  obtain ⟨C', hC', q⟩ := hw
  rw [hC] at hC'
  cases hC'
  exact (C8.pe_mt (pl := pl) M hr hk h.pe ha.pa hst hpl ht).run pins s σ H Q I q
end
end Sq

set_option Elab.async false
set_option maxRecDepth 100000
set_option maxHeartbeats 4000000
set_option linter.all false
/-! Instances made, called, added; built-ins; methods of lists. -/
namespace Sq
open PySem L2

/-! ### an instance is made, and held fast -/
structure MkD (P : Program) (w : World) (K : PySem.W.Frag) (mg : Str → Option Value) (base : Heap) (k : Nat) (c : Str) (n : Nat) (sp : FSp) (dvs : List V) : Prop where
  ex : ∃ C, mg c = some (.ref C) ∧ C8.Mak P w K mg base k c C (spOf K mg n sp) dvs
def tMk (mg : Str → Option Value) (c : Str) (sp : Sp) (dvs : List V) (t : TA) : TE := fun σ H Q => ∃ C, mg c = some (.ref C) ∧ tMake C sp dvs C8.E0 t σ H Q
/-- it is held fast: the def's own part of the store ends with it -/
def wMakeF (c : Str) (n : Nat) (sp : FSp) (dd : List D) (wa : WA) : WE := fun ρ S Q => wa ρ S fun ds S1 => (D.h S1.length :: (ds ++ dd)).length = n ∧
  sp (.h S1.length :: (ds ++ dd)) (S1 ++ [.ins c []]) fun r S2 => r = .non ∧ ∃ fs, S2 = S1 ++ [.ins c fs] ∧ lowf S1.length fs ∧ (∀ (k : Nat) (m : M), k < S1.length → S1[k]? = some m → lowM S1.length m) ∧ Q (.ins c fs) S1
/-- it stays in the store -/
def wMakeM (c : Str) (n : Nat) (sp : FSp) (dd : List D) (wa : WA) : WE := fun ρ S Q => wa ρ S fun ds S1 => (D.h S1.length :: (ds ++ dd)).length = n ∧
  sp (.h S1.length :: (ds ++ dd)) (S1 ++ [.ins c []]) fun r S2 => r = .non ∧ Q (.h S1.length) S2
section
variable {K : PySem.W.Frag} {mg : Str → Option Value} {Z : Zt} {I : Hp} {μ : List Addr} {S : Sto} {H : Hp}
theorem ok_made (o : Ok K mg Z I μ S H) {x dx C : Addr} {c : Str} (hC : mg c = some (.ref C)) (hx : H x = none) (hd : H dx = none) (ne : dx ≠ x) : Ok K mg Z I (μ ++ [x]) (S ++ [.ins c []]) (upd (upd H dx (.own x)) x (.ins C dx [])) := by
  have o1 := o.lay (o := .own x) hd
  have hx1 : upd H dx (.own x) x = none := by rw [upd_ne (fun z => ne z.symm)]; exact hx
  exact o1.push (m := .ins c []) hx1 ⟨free_of o.sub hx, C, dx, [], hC, upd_same, .nil⟩
theorem mu_one {μ2 : List Addr} {x : Addr} (hl : μ2.length = μ.length + 1) (h : ∀ (k : Nat) (a : Addr), (μ ++ [x])[k]? = some a → μ2[k]? = some a) : μ2 = μ ++ [x] := by
  apply List.ext_getElem?
  intro k
  by_cases hk : k < μ.length + 1
  · have h1 : k < (μ ++ [x]).length := by simp; omega
    rw [List.getElem?_eq_getElem h1]
    exact h k _ (List.getElem?_eq_getElem h1)
  · rw [List.getElem?_eq_none (by omega), List.getElem?_eq_none (by simp; omega)]
/-- the newest of the store is held fast and leaves it -/
theorem ok_hold {x : Addr} {c : Str} {fs : List (Str × D)} (o : Ok K mg Z I (μ ++ [x]) (S ++ [.ins c fs]) H) (hg : Z.g I μ) (l : lowf S.length fs) (ls : ∀ (k : Nat) (m : M), k < S.length → S[k]? = some m → lowM S.length m) (hl : μ.length = S.length) :
    ∃ I', Ext I μ I' μ ∧ Ok K mg Z I' μ S H ∧ Rp K mg I' μ (.ref x) (.ins c fs) := by
  have hx : (μ ++ [x])[S.length]? = some x := by rw [← hl, List.getElem?_append_right (Nat.le_refl _)]; simp
  have hm : (S ++ [M.ins c fs])[S.length]? = some (.ins c fs) := by rw [List.getElem?_append_right (Nat.le_refl _)]; simp
  obtain ⟨hi, C, dx, fv, hC, hH, r⟩ := o.ob S.length x _ hx hm
  have nx : x ∉ μ := fun z => by
    have := o.nd
    rw [List.nodup_append] at this
    exact this.2.2 x z x (by simp) rfl
  have o1 := o.take S.length (by rw [← hl, List.take_left' rfl]; exact hg) (fun k m hk e => ls k m hk (by rw [List.getElem?_append_left hk] at e; exact e))
  rw [← hl, List.take_left' rfl, hl, List.take_left' rfl] at o1
  have r1 : RpF K mg I μ fv fs := r.cut (fun k a hk e => by rw [List.getElem?_append_left (by omega)] at e; exact e) l
  have e : Ext I μ (upd I x (.ins C dx fv)) μ := Ext.new hi
  refine ⟨upd I x (.ins C dx fv), e, ⟨fun b u q => ?_, Z.cl _ _ _ _ e hg, fun b u q => ?_, o1.len, o1.nd, fun j b m hb hm' => ?_⟩, .ins hC upd_same (r1.ext e)⟩
  · obtain ⟨y1, y2, y3⟩ := o.fra b u q
    exact ⟨y1, by rw [upd_ne (fun z => y3 (by rw [z]; simp))]; exact y2, fun z => y3 (List.mem_append_left _ z)⟩
  · by_cases z : b = x
    · subst z; rw [upd_same] at q; cases q; exact hH
    · rw [upd_ne z] at q; exact o1.sub b u q
  · have q : b ≠ x := fun z => nx (by rw [← z]; exact List.mem_of_getElem? hb)
    exact (o1.ob j b m hb hm').ext e rfl fun _ i => by rw [upd_ne q]; exact i
end
section
variable {X : Cx} {Γ : Gam} {k j n : Nat} {c : Str} {sp : FSp} {dvs : List V} {dd : List D} {p pos apos : Pos} {e o : Expr} {es : List Expr} {te : TE} {we : WE} {t : TA} {wa : WA}
theorem pe_mkD (m : MkD X.prog X.w X.K X.mg X.base k c n sp dvs) (hr : Room j X.A) (hk : k + 1 ≤ j) (ha : PA X (e :: es) t) (hg : Gl X c := by rfl)
    (hdb : (c == ("__debug__" : Str)) = false := by decide) (he : starEach (e :: es) X.env = (false, eval e X.env) :: starEach es X.env := by rfl) (hpl : (backTo pos (starEach es X.env)).any (·.1) = false := by rfl) :
    PE X (.Call (.Name c p) (e :: es) [] pos) (tMk X.mg c (spOf X.K X.mg n sp) dvs t) := by
  obtain ⟨C, hC, M⟩ := m.ex
  refine ⟨fun pins s σ H Q I hw => ?_⟩
  obtain ⟨C', hC', q⟩ := hw
  rw [hC] at hC'
  cases hC'
  exact (C8.pe_mk M hr hk hg ha hdb he hpl).run pins s σ H Q I q
theorem se_makeF (m : MkD X.prog X.w X.K X.mg X.base k c n sp dvs) (hr : Room j X.A) (hk : k + 1 ≤ j) (hd : ∀ I μ, RpL X.K X.mg I μ dvs dd) (ha : SA X Γ (e :: es) t wa) (hg : Gl X c := by rfl)
    (hdb : (c == ("__debug__" : Str)) = false := by decide) (he : starEach (e :: es) X.env = (false, eval e X.env) :: starEach es X.env := by rfl) (hpl : (backTo pos (starEach es X.env)).any (·.1) = false := by rfl) :
    SE X Γ (.Call (.Name c p) (e :: es) [] pos) (tMk X.mg c (spOf X.K X.mg n sp) dvs t) (wMakeF c n sp dd wa) := by
  refine ⟨pe_mkD m hr hk ha.pa hg hdb he hpl, fun Z lk σ ρ I μ S H Q Φ rs ok hw kp => ?_⟩
  obtain ⟨C, hC, M⟩ := m.ex
  refine ⟨C, hC, ha.si Z lk σ ρ I μ S H _ _ rs ok hw fun vs ds I1 μ1 S1 H1 e1 o1 r1 q1 x dx hx hdx ne => ?_⟩
  have o2 := ok_made o1 hC hx hdx ne
  have r2 : RpL X.K X.mg I1 (μ1 ++ [x]) (V.ref x :: (vs ++ dvs)) (.h S1.length :: (ds ++ dd)) := .cons (.h (mu_last o1 x)) ((r1.append (hd I1 μ1)).ext Ext.push)
  refine ⟨by rw [r2.length]; exact q1.1, _, Z, I1, μ1 ++ [x], _, _, r2, o2, q1.2, fun v d I3 μ3 S3 H3 e3 o3 r3 q3 => ?_⟩
  obtain ⟨rfl, fs, rfl, l, ls, q⟩ := q3
  have hμ : μ3 = μ1 ++ [x] := mu_one (by rw [o3.len]; simp [o1.len]) e3.mu
  subst hμ
  obtain ⟨I4, e4, o4, r4⟩ := ok_hold o3 (Z.cl _ _ _ _ ⟨e3.hp, fun _ _ q => q⟩ o1.gnd) l ls o1.len
  exact ⟨rp_non r3, kp _ _ I4 μ1 S1 H3 (e1.trans ⟨e3.hp.trans e4.hp, fun _ _ h => h⟩) o4 r4 q⟩
theorem se_makeM (m : MkD X.prog X.w X.K X.mg X.base k c n sp dvs) (hr : Room j X.A) (hk : k + 1 ≤ j) (hd : ∀ I μ, RpL X.K X.mg I μ dvs dd) (ha : SA X Γ (e :: es) t wa) (hg : Gl X c := by rfl)
    (hdb : (c == ("__debug__" : Str)) = false := by decide) (he : starEach (e :: es) X.env = (false, eval e X.env) :: starEach es X.env := by rfl) (hpl : (backTo pos (starEach es X.env)).any (·.1) = false := by rfl) :
    SE X Γ (.Call (.Name c p) (e :: es) [] pos) (tMk X.mg c (spOf X.K X.mg n sp) dvs t) (wMakeM c n sp dd wa) := by
  refine ⟨pe_mkD m hr hk ha.pa hg hdb he hpl, fun Z lk σ ρ I μ S H Q Φ rs ok hw kp => ?_⟩
  obtain ⟨C, hC, M⟩ := m.ex
  refine ⟨C, hC, ha.si Z lk σ ρ I μ S H _ _ rs ok hw fun vs ds I1 μ1 S1 H1 e1 o1 r1 q1 x dx hx hdx ne => ?_⟩
  have o2 := ok_made o1 hC hx hdx ne
  have r2 : RpL X.K X.mg I1 (μ1 ++ [x]) (V.ref x :: (vs ++ dvs)) (.h S1.length :: (ds ++ dd)) := .cons (.h (mu_last o1 x)) ((r1.append (hd I1 μ1)).ext Ext.push)
  refine ⟨by rw [r2.length]; exact q1.1, _, Z, I1, μ1 ++ [x], _, _, r2, o2, q1.2, fun v d I3 μ3 S3 H3 e3 o3 r3 q3 => ?_⟩
  obtain ⟨rfl, q⟩ := q3
  exact ⟨rp_non r3, kp _ _ I3 μ3 S3 H3 ((e1.trans Ext.push).trans e3) o3 (.h (e3.mu _ _ (mu_last o1 x))) q⟩

/-! ### an attribute is stored -/
def putA (f : Str) (d : D) : List (Str × D) → List (Str × D)
  | [] => [(f, d)]
  | (g, e) :: r => if g = f then (g, d) :: r else (g, e) :: putA f d r
theorem putA_rp {K : PySem.W.Frag} {mg : Str → Option Value} {I : Hp} {μ : List Addr} {f : Str} {v : V} {d : D} (h : Rp K mg I μ v d) : ∀ {fv : List (Str × V)} {fs : List (Str × D)}, RpF K mg I μ fv fs → RpF K mg I μ (putF f v fv) (putA f d fs)
  | _, _, .nil => .cons h .nil
  | _, _, .cons (k := k) q r => by
    unfold putF putA
    by_cases e : k = f
    · rw [if_pos e, if_pos e]; exact .cons h r
    · rw [if_neg e, if_neg e]; exact .cons q (putA_rp h r)
/-- o.f = e, o an instance in the store -/
def wSetA (c f : Str) (we wo : WE) : WS := fun κ ρ S => we ρ S fun d S1 => wo ρ S1 fun x S2 => match x with
  | .h n => onS (S2[n]?) fun m => match m with
    | .ins c' fs => c' = c ∧ fs.length < 1000 ∧ κ.nx ρ (S2.set n (.ins c (putA f d fs)))
    | _ => False
  | _ => False
theorem s_setA {f : Str} {pos' : Pos} {to : TE} {wo : WE} (kf : KF X.K X.mg c f) (ho : SE X Γ o to wo) (he : SE X Γ e te we) (hs : swapsWith e (some (.Attribute o f pos')) pos.line X.env = pure false := by rfl) :
    SS X Γ (.Assign [.Attribute o f pos'] e pos) (sFld X.K to te f) (wSetA c f we wo) :=
  ⟨ps_fld ho.pe he.pe hs, fun Z lk σ ρ I μ S H E κ rs ok h cv => he.si Z lk σ ρ I μ S H _ _ rs ok h fun v d I1 μ1 S1 H1 e1 o1 r1 q1 => ho.si Z lk σ ρ I1 μ1 S1 H1 _ _ (rs.ext e1) o1 q1 fun y x I2 μ2 S2 H2 e2 o2 r2 q2 => by
    split at q2
    · rename_i m
      obtain ⟨mm, q, q2⟩ := onS_iff q2
      cases mm with
      | ins c' fs =>
        obtain ⟨rfl, hl, q2⟩ := q2
        cases r2 with
        | h z =>
          obtain ⟨hi, C, dx, fv, hC, hH, rf⟩ := o2.ob _ _ _ z q
          obtain ⟨k1, k2⟩ := kf.ex C hC
          refine ⟨_, C, dx, fv, rfl, hH, k1, k2, by rw [rf.length]; exact hl, ?_⟩
          have rd := r1.ext e2
          exact cv.nx σ ρ I2 μ2 _ _ (e1.trans e2) ((rs.ext e1).ext e2) (o2.put (m := .ins c' (putA f d fs)) z hi ⟨hi, C, dx, _, hC, upd_same, putA_rp rd rf⟩) q2
      | frz _ => exact q2.elim
      | bag => exact q2.elim
      | lst _ => exact q2.elim
      | dct _ => exact q2.elim
      | lck _ _ => exact q2.elim
    · exact q2.elim⟩

/-! ### an instance is called; an operator of its own -/
structure CallD (P : Program) (w : World) (K : PySem.W.Frag) (mg : Str → Option Value) (base : Heap) (k : Nat) (c : Str) (n : Nat) (sp : FSp) : Prop where
  ex : ∃ (C g : Addr) (fd : FuncData) (ps : List Str), mg c = some (.ref C) ∧ StX.CallO K C g ∧ FnOk P w K mg base C8.CX0 k g fd ps (spOf K mg n sp) ∧ Binds K fd ps []
def tCl (X : Cx) (c : Str) (sp : Sp) (tf : TE) (t : TA) : TE := fun σ H Q => ∃ C, X.mg c = some (.ref C) ∧ StX.tCallO X C sp C8.E0 tf t σ H Q
def wCallO (c : Str) (n : Nat) (sp : FSp) (we : WE) (wa : WA) : WE := fun ρ S Q => we ρ S fun d S1 => (atts S1 c d).isSome = true ∧ wa ρ S1 fun ds S2 => (atts S2 c d).isSome = true ∧ (d :: ds).length = n ∧ sp (d :: ds) S2 Q
theorem rp_ref {K : PySem.W.Frag} {mg : Str → Option Value} {Z : Zt} {I : Hp} {μ : List Addr} {S : Sto} {H : Hp} {v : V} {d : D} (o : Ok K mg Z I μ S H) (r : Rp K mg I μ v d) (h : (∃ c fs, d = .ins c fs) ∨ ∃ n, d = .h n) : ∃ a, v = .ref a := by
  rcases h with ⟨c, fs, rfl⟩ | ⟨n, rfl⟩ <;> cases r <;> exact ⟨_, rfl⟩
theorem se_callO (cd : CallD X.prog X.w X.K X.mg X.base k c n sp) (hr : Room j X.A) (hk : k ≤ j) (h : SE X Γ o te we) (ha : SA X Γ (e :: es) t wa)
    (ht : eval (.Call o (e :: es) [] pos) X.env = (do callWith pos (← eval o X.env) [] (backTo pos (starEach (e :: es) X.env)) (backToKw pos (keywordEach [] X.env))) := by rfl)
    (he : starEach (e :: es) X.env = (false, eval e X.env) :: starEach es X.env := by rfl) (hpl : (backTo pos (starEach es X.env)).any (·.1) = false := by rfl) :
    SE X Γ (.Call o (e :: es) [] pos) (tCl X c (spOf X.K X.mg n sp) te t) (wCallO c n sp we wa) := by
  obtain ⟨C, g, fd, ps, hC, cl, F, b⟩ := cd.ex
  have F' : FnR X.prog X.w X.K X.mg X.base C8.CX0 k g (spOf X.K X.mg n sp) := (F.raw b .nil).imp fun vs H Q E h => by rw [List.append_nil]; exact h
  refine ⟨⟨fun pins s σ H Q I hw => ?_⟩, fun Z lk σ ρ I μ S H Q Φ rs ok hw kp => ⟨C, hC, h.si Z lk σ ρ I μ S H _ _ rs ok hw fun v d I1 μ1 S1 H1 e1 o1 r1 q1 => ?_⟩⟩
  · obtain ⟨C', hC', q⟩ := hw
    rw [hC] at hC'
    cases hC'
    exact (StX.pe_callO h.pe cl F' (hr.mono hk) C8.pass0 ha.pa ht he hpl).run pins s σ H Q I q
  · have key : ∀ {I2 : Hp} {μ2 : List Addr} {S2 : Sto} {H2 : Hp}, Ext I1 μ1 I2 μ2 → Ok X.K X.mg Z I2 μ2 S2 H2 → (atts S2 c d).isSome = true → ∃ a, v = .ref a ∧ StX.InsC X H2 a C := fun e2 o2 hs => by
      obtain ⟨fs, hs⟩ := Option.isSome_iff_exists.mp hs
      obtain ⟨a, C', dx, fv, rfl, hm, hh, _⟩ := atts_ok o2 (r1.ext e2) hs
      rw [hC] at hm
      cases hm
      exact ⟨a, rfl, .inr ⟨dx, fv, hh⟩⟩
    obtain ⟨a, rfl, _⟩ := key .refl o1 q1.1
    refine ⟨a, rfl, ha.si Z lk σ ρ I1 μ1 S1 H1 _ _ (rs.ext e1) o1 q1.2 fun vs ds I2 μ2 S2 H2 e2 o2 r2 q2 => ?_⟩
    obtain ⟨a', ea, hi⟩ := key e2 o2 q2.1
    cases ea
    have r3 : RpL X.K X.mg I2 μ2 (V.ref a :: vs) (d :: ds) := .cons (r1.ext e2) r2
    exact ⟨hi, by rw [r3.length]; exact q2.2.1, _, Z, I2, μ2, S2, Φ, r3, o2, q2.2.2, kp.ext (e1.trans e2)⟩
/-- a op b, the operator a def of the class c -/
structure OpO (P : Program) (w : World) (K : PySem.W.Frag) (mg : Str → Option Value) (base : Heap) (k : Nat) (c : Str) (op : Operator) (sp : FSp) : Prop where
  ex : ∃ (C g : Addr) (fd : FuncData) (ps : List Str), mg c = some (.ref C) ∧ PySem.W.selfFirst K C = true ∧ PySem.W.findIn K (.ref C) (PySem.dunder op.info.2) = some (some (.ref g)) ∧ PySem.W.isFn K (.ref g) = true ∧ FnOk P w K mg base C8.CX0 k g fd ps (spOf K mg 2 sp) ∧ Binds K fd ps []
def rOwn (mg : Str → Option Value) (c : Str) (sp : Sp) : R2 := fun x y H Q => ∃ (C a b dx dy : Addr) (fs gs : List (Str × V)), mg c = some (.ref C) ∧ x = .ref a ∧ y = .ref b ∧ H a = some (.ins C dx fs) ∧ H b = some (.ins C dy gs) ∧ sp [x, y] H Q C8.E0
theorem rel_ni {v : V} {u : Value} (r : RelV v u) {Q : Value → Shared → Prop} {s : Shared} (h : Q u s) : PySem.W.CmpBack Q u s := by
  cases v with
  | non => cases r; exact h
  | bl _ => cases r; exact h
  | int _ => obtain ⟨t, rfl⟩ := r; exact h
  | str _ => obtain ⟨t, rfl⟩ := r; exact h
  | byt _ => obtain ⟨t, rfl⟩ := r; exact h
  | flt _ => obtain ⟨t, rfl⟩ := r; exact h
  | ref _ => cases r; exact h
  | ty _ => cases r; exact h
theorem or_own {op : Operator} (m : OpO X.prog X.w X.K X.mg X.base k c op sp) (hr : Room j X.A) (hk : k ≤ j) : OpR X (binaryOp op) (rOwn X.mg c (spOf X.K X.mg 2 sp)) := by
  obtain ⟨C, g, fd, ps, hC, sf, fi, fn, F, b⟩ := m.ex
  intro pins s σ H x y v u Q I rx ry h
  obtain ⟨C', a, b', dx, dy, fs, gs, hC', rfl, rfl, ha, hb, q⟩ := h
  rw [hC] at hC'
  cases hC'
  cases rx
  cases ry
  obtain ⟨mA, O, _⟩ := ins_get I.hok ha
  obtain ⟨od, J, _⟩ := O.look
  obtain ⟨mB, O2, _⟩ := ins_get I.hok hb
  obtain ⟨od2, J2, _⟩ := O2.look
  obtain ⟨mm, Fm⟩ := I.fr
  refine PySem.W.binop_K Fm I.mod.kin J J2.type sf fi fn ?_
  refine wpAny_mono (run_fn (us := [.ref a, .ref b']) (vs := [.ref a, .ref b']) F (hr.mono hk) b .nil C8.pass0 I (.cons rfl (.cons rfl .nil)) q) (fun r s' z => ?_) fun _ _ z => z
  obtain ⟨w, H', I', rw', q'⟩ := z
  exact rel_ni rw' ⟨w, H', I', rw', q'⟩
def fOwn (c : Str) (sp : FSp) : F2 := fun S x y Q => (atts S c x).isSome = true ∧ (atts S c y).isSome = true ∧ sp [x, y] S Q
theorem opd_own {K : PySem.W.Frag} {mg : Str → Option Value} {Z : Zt} {c : Str} {sp : FSp} : OpD K mg Z (rOwn mg c (spOf K mg 2 sp)) (fOwn c sp) := by
  intro I μ S H x y a b Q Φ ok ra rb q k
  obtain ⟨q1, q2, q⟩ := q
  obtain ⟨fs, q1⟩ := Option.isSome_iff_exists.mp q1
  obtain ⟨gs, q2⟩ := Option.isSome_iff_exists.mp q2
  obtain ⟨p1, C, dx, fv, rfl, hC, h1, _⟩ := atts_ok ok ra q1
  obtain ⟨p2, C', dy, gv, rfl, hC', h2, _⟩ := atts_ok ok rb q2
  rw [hC] at hC'
  cases hC'
  exact ⟨C, p1, p2, dx, dy, fv, gv, hC, rfl, rfl, h1, h2, rfl, [a, b], Z, I, μ, S, Φ, .cons ra (.cons rb .nil), ok, q, k⟩
theorem se_own {op : Operator} {a b : Expr} {ta tb : TE} {wa wb : WE} (m : OpO X.prog X.w X.K X.mg X.base k c op sp) (hr : Room j X.A) (hk : k ≤ j) (ha : SE X Γ a ta wa) (hb : SE X Γ b tb wb) : SE X Γ (.BinOp a op b pos) (tOp (rOwn X.mg c (spOf X.K X.mg 2 sp)) ta tb) (wOp (fOwn c sp) wa wb) :=
  se_op (or_own m hr hk) (fun _ => opd_own) ha hb
end
end Sq

set_option Elab.async false
set_option maxRecDepth 100000
set_option maxHeartbeats 4000000
set_option linter.all false
/-! Built-ins by data; methods of lists. -/
namespace Sq
open PySem L2
section
variable {K : PySem.W.Frag} {mg : Str → Option Value} {Z : Zt}
def lenS (S : Sto) (d : D) : Option Nat := match view S d with
  | .lst ds => some ds.length
  | .tup ds => some ds.length
  | .str s => if s.length ≤ LIM then some s.length else none
  | _ => none
def fLen : FSp := fun ds S Q => match ds with
  | [d] => onS (lenS S d) fun n => Q (.int n) S
  | _ => False
theorem cb_len : CbD K mg Z (fun xs H Q => ∃ x n, xs = [x] ∧ LenV K x H n ∧ Q (.int n) H) fLen := by
  intro I μ S H vs ds Q Φ ok r h k
  unfold fLen at h
  split at h
  · rename_i d
    cases r with
    | cons r t =>
      cases t
      obtain ⟨n, e, q⟩ := onS_iff h
      refine ⟨_, n, rfl, ?_, k _ _ I μ S H .refl ok .int q⟩
      unfold lenS at e
      split at e
      · rename_i ds z
        obtain ⟨p, vs, rfl, hh, t⟩ := view_lst ok r z
        cases e
        exact .inl ⟨vs, SqL.of hh, t.length.symm⟩
      · rename_i ds z
        obtain ⟨p, vs, rfl, _, hh, t⟩ := view_tup ok r z
        cases e
        exact .inr ⟨vs, hh, t.length.symm⟩
      · rename_i s z
        rw [view_str ok r z]
        split at e
        · rename_i hl
          cases e
          exact ⟨lim hl, rfl⟩
        · cases e
      · cases e
  · exact h.elim
def fAbs : FSp := fun ds S Q => match ds with
  | [.int i] => Q (.int (if i < 0 then -i else i)) S
  | _ => False
theorem cb_abs : CbD K mg Z (fun xs H Q => ∃ i, xs = [.int i] ∧ Q (.int (if i < 0 then -i else i)) H) fAbs := by
  intro I μ S H vs ds Q Φ ok r h k
  unfold fAbs at h
  split at h
  · cases r with
    | cons r t => cases t; cases r; exact ⟨_, rfl, k _ _ I μ S H .refl ok .int h⟩
  · exact h.elim
def fMax2 : FSp := fun ds S Q => match ds with
  | [.int i, .int j] => Q (.int (if j > i then j else i)) S
  | _ => False
def fMin2 : FSp := fun ds S Q => match ds with
  | [.int i, .int j] => Q (.int (if j < i then j else i)) S
  | _ => False
theorem cb_max2 : CbD K mg Z (fun xs H Q => ∃ i j, xs = [.int i, .int j] ∧ Q (.int (if j > i then j else i)) H) fMax2 := by
  intro I μ S H vs ds Q Φ ok r h k
  unfold fMax2 at h
  split at h
  · cases r with
    | cons r t => cases t with
      | cons r2 t => cases t; cases r; cases r2; exact ⟨_, _, rfl, k _ _ I μ S H .refl ok .int h⟩
  · exact h.elim
theorem cb_min2 : CbD K mg Z (fun xs H Q => ∃ i j, xs = [.int i, .int j] ∧ Q (.int (if j < i then j else i)) H) fMin2 := by
  intro I μ S H vs ds Q Φ ok r h k
  unfold fMin2 at h
  split at h
  · cases r with
    | cons r t => cases t with
      | cons r2 t => cases t; cases r; cases r2; exact ⟨_, _, rfl, k _ _ I μ S H .refl ok .int h⟩
  · exact h.elim
/-- a list of ints -/
def intsD : List D → Option (List Int)
  | [] => some []
  | .int i :: ds => (intsD ds).map (i :: ·)
  | _ => none
theorem intsD_rp {I : Hp} {μ : List Addr} : ∀ {vs : List V} {ds : List D} {ns : List Int}, RpL K mg I μ vs ds → intsD ds = some ns → vs = ns.map V.int
  | _, [], _, .nil, e => by cases e; rfl
  | _, .int i :: ds, _, .cons h t, e => by
    unfold intsD at e
    cases q : intsD ds with
    | none => rw [q] at e; cases e
    | some ms => rw [q] at e; cases e; cases h; rw [intsD_rp t q]; rfl
  | _, .non :: ds, _, _, e => by cases e
  | _, .bl _ :: ds, _, _, e => by cases e
  | _, .str _ :: ds, _, _, e => by cases e
  | _, .tup _ :: ds, _, _, e => by cases e
  | _, .lst _ :: ds, _, _, e => by cases e
  | _, .dct _ :: ds, _, _, e => by cases e
  | _, .fn _ :: ds, _, _, e => by cases e
  | _, .ins _ _ :: ds, _, _, e => by cases e
  | _, .h _ :: ds, _, _, e => by cases e
  | _, .scr _ :: ds, _, _, e => by cases e
  | _, .exc _ _ :: ds, _, _, e => by cases e
def fMaxL : FSp := fun ds S Q => match ds with
  | [d] => match view S d with
    | .lst xs => onS (intsD xs) fun ns => 0 < ns.length ∧ ∀ m, m ∈ ns → (∀ y, y ∈ ns → y ≤ m) → Q (.int m) S
    | _ => False
  | _ => False
def fMinL : FSp := fun ds S Q => match ds with
  | [d] => match view S d with
    | .lst xs => onS (intsD xs) fun ns => 0 < ns.length ∧ ∀ m, m ∈ ns → (∀ y, y ∈ ns → m ≤ y) → Q (.int m) S
    | _ => False
  | _ => False
theorem cb_maxL : CbD K mg Z (rMax K) fMaxL := by
  intro I μ S H vs ds Q Φ ok r h k
  unfold fMaxL at h
  split at h
  · cases r with
    | cons r t =>
      cases t
      split at h
      · rename_i xs e
        obtain ⟨p, us, rfl, hh, t⟩ := view_lst ok r e
        obtain ⟨ns, e2, h0, h1⟩ := onS_iff h
        have := intsD_rp t e2
        subst this
        exact ⟨p, ns, rfl, SqL.of hh, h0, fun m a b => k _ _ I μ S H .refl ok .int (h1 m a b)⟩
      · exact h.elim
  · exact h.elim
theorem cb_minL : CbD K mg Z (rMin K) fMinL := by
  intro I μ S H vs ds Q Φ ok r h k
  unfold fMinL at h
  split at h
  · cases r with
    | cons r t =>
      cases t
      split at h
      · rename_i xs e
        obtain ⟨p, us, rfl, hh, t⟩ := view_lst ok r e
        obtain ⟨ns, e2, h0, h1⟩ := onS_iff h
        have := intsD_rp t e2
        subst this
        exact ⟨p, ns, rfl, SqL.of hh, h0, fun m a b => k _ _ I μ S H .refl ok .int (h1 m a b)⟩
      · exact h.elim
  · exact h.elim
theorem CbD.or {r r' : List V → Hp → VK → Prop} {f g : FSp} (h : CbD K mg Z r f) (h' : CbD K mg Z r' g) : CbD K mg Z (fun xs H Q => r xs H Q ∨ r' xs H Q) (fun ds S Q => f ds S Q ∨ g ds S Q) := fun I μ S H vs ds Q Φ ok r q k => by
  rcases q with q | q
  · exact .inl (h I μ S H vs ds Q Φ ok r q k)
  · exact .inr (h' I μ S H vs ds Q Φ ok r q k)
theorem CallR.or {X : Cx} {v : Value} {r r' : List V → Hp → VK → Prop} (h : CallR X v r) (h' : CallR X v r') : CallR X v (fun xs H Q => r xs H Q ∨ r' xs H Q) := fun pins s σ H xs us Q I rv q => by
  rcases q with q | q
  · exact h pins s σ H xs us Q I rv q
  · exact h' pins s σ H xs us Q I rv q
theorem CbD.imp {r : List V → Hp → VK → Prop} {f g : FSp} (h : CbD K mg Z r f) (hi : ∀ ds S Q, g ds S Q → f ds S Q) : CbD K mg Z r g := fun I μ S H vs ds Q Φ ok r q k => h I μ S H vs ds Q Φ ok r (hi _ _ _ q) k
/-- max and min of two, or of a list -/
def fMax : FSp := fun ds S Q => match ds with
  | [_, _] => fMax2 ds S Q
  | _ => fMaxL ds S Q
def fMin : FSp := fun ds S Q => match ds with
  | [_, _] => fMin2 ds S Q
  | _ => fMinL ds S Q
theorem cb_max : CbD K mg Z (fun xs H Q => (∃ i j, xs = [.int i, .int j] ∧ Q (.int (if j > i then j else i)) H) ∨ rMax K xs H Q) fMax :=
  (cb_max2.or cb_maxL).imp fun ds S Q h => by
    unfold fMax at h
    split at h
    · exact .inl h
    · exact .inr h
theorem cb_min : CbD K mg Z (fun xs H Q => (∃ i j, xs = [.int i, .int j] ∧ Q (.int (if j < i then j else i)) H) ∨ rMin K xs H Q) fMin :=
  (cb_min2.or cb_minL).imp fun ds S Q h => by
    unfold fMin at h
    split at h
    · exact .inl h
    · exact .inr h
/-- int(n), int(truth), int(text) -/
def fInt : FSp := fun ds S Q => match ds with
  | [.int i] => Q (.int i) S
  | [.bl b] => Q (.int (if b then 1 else 0)) S
  | [.str s] => s.length ≤ 640 ∧ onS (PySem.intText? s) fun n => Q (.int n) S
  | _ => False
theorem cb_int : CbD K mg Z (fun xs H Q => ((∃ i, xs = [.int i] ∧ Q (.int i) H) ∨ ∃ k, xs = [.bl k] ∧ Q (.int (if k then 1 else 0)) H) ∨ ∃ a n, xs = [.str a] ∧ PySem.intText? a = some n ∧ a.length ≤ 640 ∧ Q (.int n) H) fInt := by
  intro I μ S H vs ds Q Φ ok r h k
  unfold fInt at h
  split at h
  · cases r with
    | cons r t => cases t; cases r; exact .inl (.inl ⟨_, rfl, k _ _ I μ S H .refl ok .int h⟩)
  · cases r with
    | cons r t => cases t; cases r; exact .inl (.inr ⟨_, rfl, k _ _ I μ S H .refl ok .int h⟩)
  · cases r with
    | cons r t =>
      cases t
      cases r
      obtain ⟨n, e, q⟩ := onS_iff h.2
      exact .inr ⟨_, n, rfl, e, h.1, k _ _ I μ S H .refl ok .int q⟩
  · exact h.elim
end

/-! ### isinstance -/
def kindT : D → Option String
  | .non => some "NoneType"
  | .bl _ => some "bool"
  | .int _ => some "int"
  | .str _ => some "str"
  | .tup _ => some "tuple"
  | .lst _ => some "list"
  | .dct _ => some "dict"
  | _ => none
/-- of which built-in class T is a thing of the kind k -/
def kindIs (k T : String) : Bool := k == T || (k == "bool" && T == "int")
def kinds : List String := ["NoneType", "bool", "int", "str", "tuple", "list", "dict"]
def tests : List String := ["bool", "int", "str", "tuple", "list", "dict"]
theorem kinds_tab : (kinds.all fun k => tests.all fun T => decide (kitB k T = some (kindIs k T))) = true := by decide +kernel
theorem kinds_ok {k T : String} (hk : k ∈ kinds) (hT : T ∈ tests) : kitB k T = some (kindIs k T) := by
  have h := List.all_eq_true.mp (List.all_eq_true.mp kinds_tab k hk) T hT
  exact of_decide_eq_true h
theorem kindT_in {d : D} {k : String} (h : kindT d = some k) : k ∈ kinds := by
  cases d <;> simp [kindT] at h <;> subst h <;> simp [kinds]
theorem sqt_ty {K : PySem.W.Frag} {H : Hp} {a : Addr} {xs : List V} (h : SqT K H a xs) : TyX K H (.ref a) (.type "tuple") := by
  rcases h with (h | ⟨o, h⟩) | ⟨o, its, n, h, c, _⟩
  · exact .base (.tup h)
  · exact .fTuple h
  · exact .kTuple h c
theorem kind_ty {K : PySem.W.Frag} {mg : Str → Option Value} {Z : Zt} {I : Hp} {μ : List Addr} {S : Sto} {H : Hp} {v : V} {d : D} {k : String} (o : Ok K mg Z I μ S H) (r : Rp K mg I μ v d) (h : kindT (view S d) = some k) : TyX K H v (.type k) := by
  cases e : view S d with
  | non => rw [e] at h; cases h; rw [view_non o r e]; exact .base .non
  | bl b => rw [e] at h; cases h; rw [view_bl o r e]; exact .base (.bl _)
  | int b => rw [e] at h; cases h; rw [view_int o r e]; exact .base (.int _)
  | str b => rw [e] at h; cases h; rw [view_str o r e]; exact .base (.str _)
  | tup ds => rw [e] at h; cases h; obtain ⟨p, vs, rfl, _, z, _⟩ := view_tup o r e; exact sqt_ty z
  | lst ds => rw [e] at h; cases h; obtain ⟨p, vs, rfl, z, _⟩ := view_lst o r e; exact .base (.lst z)
  | dct ds => rw [e] at h; cases h; obtain ⟨p, vs, rfl, z | ⟨_, z⟩, _⟩ := view_dct o r e; exact .base (.dK z); exact .fDict z
  | ins c fs => rw [e] at h; cases h
  | h n => rw [e] at h; cases h
  | scr n => rw [e] at h; cases h
  | exc c fs => rw [e] at h; cases h
  | fn x => rw [e] at h; cases h
/-- an own class, for isinstance: it is none of the built-in ones -/
structure KI (K : PySem.W.Frag) (C : Addr) : Prop where
  cl : Cls K C
  ha : PySem.W.findIn K (.ref C) "__class__" = some (some (.builtin "object.__class__"))
  hn : PySem.W.specialIn K (.builtin "object.__class__") "__get__" = some (some (.builtin "getset_descriptor.__get__"))
  htk : PySem.W.takesIn K (.builtin "object.__class__") = some true
  hm : PySem.W.mroIn K C (.type "object") = some true
/-- isinstance(x, T), T a built-in class: of the own class c the answer is False -/
def wIsB (T : String) (c : Str) (we : WE) : WE := fun ρ S Q => we ρ S fun d S1 => match kindT (view S1 d) with
  | some k => Q (.bl (kindIs k T)) S1
  | none => (atts S1 c d).isSome = true ∧ Q (.bl false) S1
/-- isinstance(x, c), c an own class -/
def wIsO (c : Str) (we : WE) : WE := fun ρ S Q => we ρ S fun d S1 => match kindT (view S1 d) with
  | some _ => Q (.bl false) S1
  | none => (atts S1 c d).isSome = true ∧ Q (.bl true) S1
structure KIB (K : PySem.W.Frag) (mg : Str → Option Value) (c : Str) (T : String) : Prop where
  ex : ∀ C, mg c = some (.ref C) → KI K C ∧ PySem.W.kitOne K (.ref C) (.type T) = some false
structure KIO (K : PySem.W.Frag) (mg : Str → Option Value) (c : Str) : Prop where
  ex : ∃ C, mg c = some (.ref C) ∧ KI K C ∧ ∀ k, k ∈ kinds → PySem.W.kitOne K (.type k) (.ref C) = some false
section
variable {X : Cx} {Γ : Gam} {e : Expr} {te : TE} {we : WE} {p pos p2 : Pos} {c x : Str} {T : String}
theorem se_isB (k : KIB X.K X.mg c T) (hm : X.mg "isinstance" = none) (hmT : X.mg x = none) (hT : T ∈ tests) (hx : bootBuiltins x = some (.type T)) (h : SE X Γ e te we) (hg : Gl X "isinstance" := by rfl) (hgT : Gl X x := by rfl) (hxn : x ≠ "__name__" := by decide) (hxd : (x == ("__debug__" : Str)) = false := by decide)
    (he : starEach [e, .Name x p2] X.env = (false, eval e X.env) :: starEach [.Name x p2] X.env := by rfl) (he2 : starEach [.Name x p2] X.env = (false, eval (.Name x p2) X.env) :: starEach [] X.env := by rfl) (hpl : (backTo pos (starEach [.Name x p2] X.env)).any (·.1) = false := by rfl) :
    SE X Γ (.Call (.Name "isinstance" p) [e, .Name x p2] [] pos) (tCB (rIsi X.K) (tCons te (tCons (tC (.ty T)) tNil))) (wIsB T c we) := by
  refine ⟨pe_callB call_isi hg hm (by decide +kernel) (pa_cons h.pe (pa_cons (pe_bltn hgT hmT hx rfl hxn hxd) pa_nil he2) he) (by decide) (by decide) he hpl, fun Z lk σ ρ I μ S H Q Φ rs ok hw kp => h.si Z lk σ ρ I μ S H _ _ rs ok hw fun v d I1 μ1 S1 H1 e1 o1 r1 q1 => ?_⟩
  split at q1
  · rename_i kk hk
    exact ⟨v, .ty T, .type kk, .type T, _, rfl, .ty T, kind_ty o1 r1 hk, kit_ty (kinds_ok (kindT_in hk) hT), kp _ _ I1 μ1 S1 H1 e1 o1 .bl q1⟩
  · obtain ⟨fs, hs⟩ := Option.isSome_iff_exists.mp q1.1
    obtain ⟨a, C, dx, fv, rfl, hC, hh, _⟩ := atts_ok o1 r1 hs
    obtain ⟨ki, kf⟩ := k.ex C hC
    exact ⟨_, .ty T, .ref C, .type T, _, rfl, .ty T, .base (.ins hh ki.cl ki.ha ki.hn ki.htk ki.hm), kf, kp _ _ I1 μ1 S1 H1 e1 o1 .bl q1.2⟩
def tIsO (X : Cx) (c : Str) (te : TE) : TE := fun σ H Q => ∃ C, X.mg c = some (.ref C) ∧ tCB (rIsi X.K) (tCons te (tCons (tC (.ref C)) tNil)) σ H Q
theorem se_isO (k : KIO X.K X.mg c) (hm : X.mg "isinstance" = none) (h : SE X Γ e te we) (hg : Gl X "isinstance" := by rfl) (hgc : Gl X c := by rfl) (hxd : (c == ("__debug__" : Str)) = false := by decide)
    (he : starEach [e, .Name c p2] X.env = (false, eval e X.env) :: starEach [.Name c p2] X.env := by rfl) (he2 : starEach [.Name c p2] X.env = (false, eval (.Name c p2) X.env) :: starEach [] X.env := by rfl) (hpl : (backTo pos (starEach [.Name c p2] X.env)).any (·.1) = false := by rfl) :
    SE X Γ (.Call (.Name "isinstance" p) [e, .Name c p2] [] pos) (tIsO X c te) (wIsO c we) := by
  obtain ⟨C, hC, ki, kf⟩ := k.ex
  refine ⟨⟨fun pins s σ H Q I hw => ?_⟩, fun Z lk σ ρ I μ S H Q Φ rs ok hw kp => ⟨C, hC, h.si Z lk σ ρ I μ S H _ _ rs ok hw fun v d I1 μ1 S1 H1 e1 o1 r1 q1 => ?_⟩⟩
  · obtain ⟨C', hC', q⟩ := hw
    rw [hC] at hC'
    cases hC'
    exact (pe_callB call_isi hg hm (by decide +kernel) (pa_cons h.pe (pa_cons (pe_glob (v := .ref C) hgc hC rfl hxd) pa_nil he2) he) (by decide) (by decide) he hpl).run pins s σ H Q I q
  · split at q1
    · rename_i kk hk
      exact ⟨v, .ref C, .type kk, .ref C, _, rfl, .own C, kind_ty o1 r1 hk, kf kk (kindT_in hk), kp _ _ I1 μ1 S1 H1 e1 o1 .bl q1⟩
    · obtain ⟨fs, hs⟩ := Option.isSome_iff_exists.mp q1.1
      obtain ⟨a, C', dx, fv, rfl, hC', hh, _⟩ := atts_ok o1 r1 hs
      rw [hC] at hC'
      cases hC'
      exact ⟨_, .ref C, .ref C, .ref C, true, rfl, .own C, .base (.ins hh ki.cl ki.ha ki.hn ki.htk ki.hm), by unfold PySem.W.kitOne; rw [if_pos (by simp)], kp _ _ I1 μ1 S1 H1 e1 o1 .bl q1.2⟩

/-! ### a list in the store grows -/
/-- o.append(e) as a statement's value -/
def wApp (wo we : WE) : WE := fun ρ S Q => wo ρ S fun x S1 => match x with
  | .h n => (match S1[n]? with | some (.lst _) => True | _ => False) ∧ we ρ S1 fun d S2 => match S2[n]? with
    | some (.lst ds) => ds.length < LIM ∧ Q .non (S2.set n (.lst (ds ++ [d])))
    | _ => False
  | _ => False
variable {o : Expr} {to : TE} {wo : WE} {apos : Pos}
theorem sim_app {K : PySem.W.Frag} {mg : Str → Option Value} {Z : Zt} (ho : Sim K mg Z to wo) (hv : Sim K mg Z te we) : Sim K mg Z (tBM K "list" rAppend to (tCons te tNil)) (wApp wo we) := fun σ ρ I μ S H Q Φ rs ok hw kp => by
  refine ho σ ρ I μ S H _ _ rs ok hw fun v x I1 μ1 S1 H1 e1 o1 r1 q1 => ?_
  split at q1
  · rename_i n
    obtain ⟨q0, q1⟩ := q1
    split at q0
    · rename_i ds z
      cases r1 with
      | h hn =>
        obtain ⟨hi, vs, hH, rl⟩ := o1.ob _ _ _ hn z
        refine ⟨.inl ⟨rfl, _, SqL.of hH⟩, ?_⟩
        refine hv σ ρ I1 μ1 S1 H1 _ _ (rs.ext e1) o1 q1 fun u d I2 μ2 S2 H2 e2 o2 r2 q2 => ?_
        split at q2
        · rename_i es z2
          obtain ⟨hi2, ws, hH2, rl2⟩ := o2.ob _ _ _ (e2.mu _ _ hn) z2
          refine ⟨_, ws, u, rfl, rfl, hH2, lim_lt (by rw [rl2.length]; exact q2.1), ?_⟩
          exact kp .non .non I2 μ2 _ _ (e1.trans e2) (o2.put (m := .lst (es ++ [d])) (e2.mu _ _ hn) hi2 ⟨hi2, _, upd_same, rl2.append (.cons r2 .nil)⟩) .non q2.2
        · exact q2.elim
    · exact q0.elim
  · exact q1.elim
theorem se_app (ho : SE X Γ o to wo) (he : SE X Γ e te we) (hp : PE X (.Call (.Attribute o "append" apos) [e] [] pos) (tBM X.K "list" rAppend to (tCons te tNil))) : SE X Γ (.Call (.Attribute o "append" apos) [e] [] pos) (tBM X.K "list" rAppend to (tCons te tNil)) (wApp wo we) :=
  ⟨hp, fun Z lk => sim_app (ho.si Z lk) (he.si Z lk)⟩
end
end Sq

set_option Elab.async false
set_option maxRecDepth 100000
set_option maxHeartbeats 4000000
set_option linter.all false
/-! Slices, products of texts and lists, stores by place, the bag. -/
namespace Sq
open PySem L2

/-! ### slices -/
abbrev WO := Ro → Sto → (Option Int → Sto → Prop) → Prop
def SimO (K : PySem.W.Frag) (mg : Str → Option Value) (Z : Zt) (te : TO) (w : WO) : Prop :=
  ∀ (σ : L2.St) (ρ : Ro) (I : Hp) (μ : List Addr) (S : Sto) (H : Hp) (Q : Option Int → Hp → Prop) (Φ : Option Int → Sto → Prop), RpS K mg I μ σ ρ → Ok K mg Z I μ S H → w ρ S Φ →
    (∀ (o : Option Int) (I' : Hp) (μ' : List Addr) (S' : Sto) (H' : Hp), Ext I μ I' μ' → Ok K mg Z I' μ' S' H' → Φ o S' → Q o H') → te σ H Q
structure SO (X : Cx) (Γ : Gam) (e : Option Expr) (te : TO) (w : WO) : Prop where
  po : PO X e te
  si : ∀ Z, Lk X Γ Z → SimO X.K X.mg Z te w
def wNoPart : WO := fun _ S Q => Q none S
def wPart (we : WE) : WO := fun ρ S Q => we ρ S fun d S1 => match d with
  | .int i => Q (some i) S1
  | _ => False
def cutD {α : Type} (xs : List α) (lo hi : Option Int) : List α := (xs.drop (HT.sIx xs.length 0 lo)).take (HT.sIx xs.length xs.length hi - HT.sIx xs.length 0 lo)
def fSl (S : Sto) (d : D) (lo hi : Option Int) (Q : D → Sto → Prop) : Prop := match d with
  | .scr ns => Q (.lst ((cutD ns lo hi).map D.int)) S
  | d => match view S d with
    | .lst ds => Q (.lst (cutD ds lo hi)) S
    | .tup ds => ¬ (HT.sIx ds.length 0 lo = 0 ∧ HT.sIx ds.length ds.length hi = ds.length) ∧ Q (.tup (cutD ds lo hi)) S
    | .str s => s.length ≤ LIM ∧ Q (.str (cutS s lo hi)) S
    | _ => False
def wSl (we : WE) (wl wh : WO) : WE := fun ρ S Q => we ρ S fun d S1 => wl ρ S1 fun lo S2 => wh ρ S2 fun hi S3 => fSl S3 d lo hi Q
theorem RpL.cutD {K : PySem.W.Frag} {mg : Str → Option Value} {I : Hp} {μ : List Addr} {vs : List V} {ds : List D} (r : RpL K mg I μ vs ds) (lo hi : Option Int) : RpL K mg I μ (cutV vs lo hi) (Sq.cutD ds lo hi) := by
  unfold cutV Sq.cutD
  rw [r.length]
  exact (r.drop _).take _
section
variable {X : Cx} {Γ : Gam} {e : Expr} {te : TE} {we : WE} {pos p2 : Pos} {lo hi : Option Expr} {tl th : TO} {wl wh : WO}
theorem so_none : SO X Γ none tNoPart wNoPart := ⟨po_none, fun Z lk σ ρ I μ S H Q Φ rs ok h k => k _ I μ S H .refl ok h⟩
theorem so_some (h : SE X Γ e te we) : SO X Γ (some e) (tPart te) (wPart we) := ⟨po_some h.pe, fun Z lk σ ρ I μ S H Q Φ rs ok hw k => h.si Z lk σ ρ I μ S H _ _ rs ok hw fun v d I1 μ1 S1 H1 e1 o1 r1 q1 => by
  split at q1
  · cases r1
    exact ⟨_, rfl, k _ I1 μ1 S1 H1 e1 o1 q1⟩
  · exact q1.elim⟩
def rSlA (K : PySem.W.Frag) : V → Option Int → Option Int → Hp → VK → Prop := fun x lo hi H Q => rSlL K x lo hi H Q ∨ rSlT K x lo hi H Q ∨ rSlS x lo hi H Q
theorem cutV_map (ns : List Int) (lo hi : Option Int) : cutV (ns.map V.int) lo hi = (cutD ns lo hi).map V.int := by
  unfold cutV cutD
  simp [List.map_take, List.map_drop]
theorem se_sl (h : SE X Γ e te we) (hl : SO X Γ lo tl wl) (hh : SO X Γ hi th wh) : SE X Γ (.Subscript e (.Slice lo hi none p2) pos) (tSl (rSlA X.K) te tl th) (wSl we wl wh) :=
  ⟨pe_slice (sl_list.or (sl_tup.or sl_str)) h.pe hl.po hh.po, fun Z lk σ ρ I μ S H Q Φ rs ok hw k => h.si Z lk σ ρ I μ S H _ _ rs ok hw fun v d I1 μ1 S1 H1 e1 o1 r1 q1 =>
    hl.si Z lk σ ρ I1 μ1 S1 H1 _ _ (rs.ext e1) o1 q1 fun l I2 μ2 S2 H2 e2 o2 q2 => hh.si Z lk σ ρ I2 μ2 S2 H2 _ _ (rs.ext (e1.trans e2)) o2 q2 fun u I3 μ3 S3 H3 e3 o3 q3 => by
      have e13 := (e1.trans e2).trans e3
      have r3 := r1.ext (e2.trans e3)
      unfold fSl at q3
      split at q3
      · cases r3 with
        | scr z =>
          refine .inl ⟨_, _, rfl, same_l o3.sub z, fun p hp => ?_⟩
          have i := free_of o3.sub hp
          rw [cutV_map]
          exact k _ _ _ μ3 S3 _ (e13.trans (Ext.new i)) (o3.new hp) (.lst upd_same RpL.ints) q3
      · split at q3
        · rename_i ds z
          obtain ⟨a, vs, rfl, hH, t⟩ := view_lst o3 r3 z
          refine .inl ⟨a, vs, rfl, SqL.of hH, fun p hp => ?_⟩
          have i := free_of o3.sub hp
          exact k _ _ _ μ3 S3 _ (e13.trans (Ext.new i)) (o3.new hp) (.lst upd_same ((t.cutD l u).ext (Ext.new i))) q3
        · rename_i ds z
          obtain ⟨a, vs, rfl, _, hH, t⟩ := view_tup o3 r3 z
          refine .inr (.inl ⟨a, vs, rfl, hH, by rw [t.length]; exact q3.1, fun p hp => ?_⟩)
          have i := free_of o3.sub hp
          exact k _ _ _ μ3 S3 _ (e13.trans (Ext.new i)) (o3.new hp) (.tup (SqT.of upd_same) ((t.cutD l u).ext (Ext.new i))) q3.2
        · rename_i s z
          rw [view_str o3 r3 z]
          exact .inr (.inr ⟨s, rfl, lim q3.1, k _ _ I3 μ3 S3 H3 e13 o3 .str q3.2⟩)
        · exact q3.elim⟩
end

/-! ### products -/
theorem op_mul_st {X : Cx} : OpR X (binaryOp .Mult) (fun x y H Q => ∃ s n, x = .str s ∧ y = .int n ∧ PySem.MulOk s n ∧ Q (.str (PySem.Txt.mul s n)) H) := by
  intro pins s σ H x y v u Q I rx ry h
  obtain ⟨a, n, rfl, rfl, hm, q⟩ := h
  obtain ⟨t, rfl⟩ := rx
  obtain ⟨t', rfl⟩ := ry
  exact PySem.SB.mul hm fun t2 k => ⟨.str _, H, I.tok _, ⟨_, rfl⟩, q⟩
def fMulA : F2 := fun S x y Q => match view S x, view S y with
  | .int i, .int j => IntMulOk i j ∧ Q (.int (i * j)) S
  | .str s, .int n => PySem.MulOk s n ∧ Q (.str (PySem.Txt.mul s n)) S
  | .lst ds, .int n => -(2 ^ 63) ≤ n ∧ n < 2 ^ 63 ∧ ds.length * n.toNat ≤ LIM ∧ Q (.lst ((List.replicate n.toNat ds).flatten)) S
  | _, _ => False
def rMulA : R2 := fun x y H Q => rI IntMulOk (fun i j => .int (i * j)) x y H Q ∨ (∃ s n, x = .str s ∧ y = .int n ∧ PySem.MulOk s n ∧ Q (.str (PySem.Txt.mul s n)) H) ∨ rRep x y H Q
theorem or_mulA {X : Cx} : OpR X (binaryOp .Mult) rMulA := op_mulX.or (op_mul_st.or op_rep)
theorem RpL.reps {K : PySem.W.Frag} {mg : Str → Option Value} {I : Hp} {μ : List Addr} {vs : List V} {ds : List D} (r : RpL K mg I μ vs ds) : ∀ n : Nat, RpL K mg I μ (List.replicate n vs).flatten (List.replicate n ds).flatten
  | 0 => .nil
  | n + 1 => by
    rw [List.replicate_succ, List.replicate_succ, List.flatten_cons, List.flatten_cons]
    exact r.append (r.reps n)
theorem opd_mulA {K : PySem.W.Frag} {mg : Str → Option Value} {Z : Zt} : OpD K mg Z rMulA fMulA := by
  intro I μ S H x y a b Q Φ ok ra rb q k
  unfold fMulA at q
  split at q
  · rename_i i j e1 e2
    rw [view_int ok ra e1, view_int ok rb e2]
    exact .inl ⟨i, j, rfl, rfl, q.1, k _ _ I μ S H .refl ok .int q.2⟩
  · rename_i i j e1 e2
    rw [view_str ok ra e1, view_int ok rb e2]
    exact .inr (.inl ⟨i, j, rfl, rfl, q.1, k _ _ I μ S H .refl ok .str q.2⟩)
  · rename_i ds n e1 e2
    obtain ⟨p, vs, rfl, h1, r1⟩ := view_lst ok ra e1
    rw [view_int ok rb e2]
    refine .inr (.inr ⟨p, n, vs, rfl, rfl, h1, q.1, q.2.1, lim (by rw [r1.length]; exact q.2.2.1), fun l hl => ?_⟩)
    have i := free_of ok.sub hl
    exact k _ _ _ μ S _ (Ext.new i) (ok.new hl) (.lst upd_same ((r1.reps _).ext (Ext.new i))) q.2.2.2
  · exact q.elim
section
variable {X : Cx} {Γ : Gam} {a b e o ix : Expr} {ta tb te to ti : TE} {wa wb we wo wi : WE} {pos tpos : Pos}
theorem se_mulA (ha : SE X Γ a ta wa) (hb : SE X Γ b tb wb) : SE X Γ (.BinOp a .Mult b pos) (tOp rMulA ta tb) (wOp fMulA wa wb) := se_op or_mulA (fun _ => opd_mulA) ha hb

/-! ### stores by place -/
def wSubL (wo wi : WE) : WG := fun d ρ S Q => wo ρ S fun x S1 => wi ρ S1 fun i S2 => match x, i with
  | .h n, .int k => match S2[n]? with
    | some (.lst ds) => onS (ixN ds.length k) fun j => Q ρ (S2.set n (.lst (ds.set j d)))
    | _ => False
  | _, _ => False
theorem sg_subL (ho : SE X Γ o to wo) (hi : SE X Γ ix ti wi) (ha : ∀ v, assign (.Subscript o ix pos) X.env v = (do
      let ov ← holding [v] (eval o X.env)
      let iv ← holding [v, ov] (eval ix X.env)
      standAt pos
      holding [v, ov, iv] (setItem ov iv v)
      release [v, ov, iv] []) := by intro _; rfl) : SG X Γ (.Subscript o ix pos) (gSub to ti rSetL) (wSubL wo wi) :=
  ⟨pg_sub ho.pe hi.pe set_list ha, fun Z lk v d σ ρ I μ S H Q Φ r rs ok hw kn => ho.si Z lk σ ρ I μ S H _ _ rs ok hw fun y x I1 μ1 S1 H1 e1 o1 r1 q1 => hi.si Z lk σ ρ I1 μ1 S1 H1 _ _ (rs.ext e1) o1 q1 fun z i I2 μ2 S2 H2 e2 o2 r2 q2 => by
    split at q2
    · rename_i n k
      split at q2
      · rename_i ds q
        obtain ⟨j, hj, q2⟩ := onS_iff q2
        cases r1 with
        | h hn =>
          cases r2
          obtain ⟨hi2, vs, hH, rl⟩ := o2.ob _ _ _ (e2.mu _ _ hn) q
          refine ⟨_, vs, k, j, rfl, rfl, hH, by rw [rl.length]; exact hj, ?_⟩
          have rv := r.ext (e1.trans e2)
          exact kn σ ρ I2 μ2 _ _ (e1.trans e2) (rs.ext (e1.trans e2)) (o2.put (m := .lst (ds.set j d)) (e2.mu _ _ hn) hi2 ⟨hi2, _, upd_same, rl.set rv j⟩) q2
      · exact q2.elim
    · exact q2.elim⟩
/-- xs[i] += e, ints -/
def tGetL (K : PySem.W.Frag) : V → V → Hp → VK → Prop := fun o i H Q => ∃ p xs k v, o = .ref p ∧ i = .int k ∧ SqL K H p xs ∧ 0 ≤ k ∧ xs[k.toNat]? = some v ∧ Q v H
theorem get_list : PGet X (tGetL X.K) := by
  intro pins s σ H o i ov iv Q I ro ri h
  obtain ⟨p, xs, k, v, rfl, rfl, hq, h0, hx, q⟩ := h
  cases ro
  obtain ⟨t, rfl⟩ := ri
  obtain ⟨its, r, pl, hz⟩ := I.list hq
  obtain ⟨u, eu, ru⟩ := r.get hx
  have hl := (List.getElem?_eq_some_iff.mp hx).1
  have hn := line63
  exact wpAny_getItem_list pl.isList h0 (by omega) (by simpa using eu) ⟨v, H, I, ru, q⟩
def wAugL (op : Int → Int → Int) (wo wi we : WE) : WS := fun κ ρ S => wo ρ S fun x S1 => wi ρ S1 fun i S2 => match x, i with
  | .h n, .int k => match S2[n]? with
    | some (.lst ds) => 0 ≤ k ∧ onS (ds[k.toNat]?) fun y => we ρ S2 fun z S3 => match y, z with
      | .int a, .int b => match S3[n]? with
        | some (.lst es) => onS (ixN es.length k) fun j => κ.nx ρ (S3.set n (.lst (es.set j (.int (op a b)))))
        | _ => False
      | _, _ => False
    | _ => False
  | _, _ => False
theorem s_augL {op : Operator} {g : Int → Int → Int} (ho : SE X Γ o to wo) (hi : SE X Γ ix ti wi) (he : SE X Γ e te we) (hp : PS X (.AugAssign (.Subscript o ix tpos) op e pos) (tAugS to ti te (tGetL X.K) (ipI g) rSetL)) :
    SS X Γ (.AugAssign (.Subscript o ix tpos) op e pos) (tAugS to ti te (tGetL X.K) (ipI g) rSetL) (wAugL g wo wi we) :=
  ⟨hp, fun Z lk σ ρ I μ S H E κ rs ok hw c => ho.si Z lk σ ρ I μ S H _ _ rs ok hw fun y x I1 μ1 S1 H1 e1 o1 r1 q1 => hi.si Z lk σ ρ I1 μ1 S1 H1 _ _ (rs.ext e1) o1 q1 fun z i I2 μ2 S2 H2 e2 o2 r2 q2 => by
    split at q2
    · rename_i n k
      split at q2
      · rename_i ds q
        obtain ⟨h0, q2⟩ := q2
        obtain ⟨y, hy, q2⟩ := onS_iff q2
        cases r1 with
        | h hn =>
          cases r2
          obtain ⟨hi2, vs, hH, rl⟩ := o2.ob _ _ _ (e2.mu _ _ hn) q
          obtain ⟨vy, ey, ry⟩ := rl.get hy
          refine ⟨_, vs, k, vy, rfl, rfl, SqL.of hH, h0, ey, ?_⟩
          refine he.si Z lk σ ρ I2 μ2 S2 H2 _ _ (rs.ext (e1.trans e2)) o2 q2 fun w d I3 μ3 S3 H3 e3 o3 r3 q3 => ?_
          split at q3
          · split at q3
            · rename_i es q'
              obtain ⟨j, hj, q3⟩ := onS_iff q3
              obtain ⟨hi3, us, hH3, rl3⟩ := o3.ob _ _ _ (e3.mu _ _ (e2.mu _ _ hn)) q'
              cases ry
              cases r3
              refine ⟨_, _, rfl, rfl, _, us, k, j, rfl, rfl, hH3, by rw [rl3.length]; exact hj, ?_⟩
              exact c.nx σ ρ I3 μ3 _ _ ((e1.trans e2).trans e3) (rs.ext ((e1.trans e2).trans e3)) (o3.put (m := .lst (es.set j (.int _))) (e3.mu _ _ (e2.mu _ _ hn)) hi3 ⟨hi3, _, upd_same, rl3.set .int j⟩) q3
            · exact q3.elim
          · exact q3.elim
      · exact q2.elim
    · exact q2.elim⟩
/-- x += e, ints -/
def wAug (g : Int → Int → Int) (i : Nat) (we : WE) : WS := fun κ ρ S => onS (gt ρ i) fun a => we ρ S fun b S1 => match a, b with
  | .int x, .int y => κ.nx (st ρ i (some (.int (g x y)))) S1
  | _, _ => False
theorem s_aug {op : Operator} {g : Int → Int → Int} (i : Nat) {x : Str} {pos' : Pos} (hp : PIp X op (ipI g)) (he : SE X Γ e te we) (hs : PS X (.AugAssign (.Name x pos') op e pos) (tAug i te (ipI g))) : SS X Γ (.AugAssign (.Name x pos') op e pos) (tAug i te (ipI g)) (wAug g i we) :=
  ⟨hs, fun Z lk σ ρ I μ S H E κ rs ok hw c => by
    obtain ⟨a, ha, q⟩ := onS_iff hw
    obtain ⟨v, hv, r⟩ := rs.get i a ha
    refine ⟨v, hv, he.si Z lk σ ρ I μ S H _ _ rs ok q fun w b I1 μ1 S1 H1 e1 o1 r1 q1 => ?_⟩
    split at q1
    · cases r
      cases r1
      exact ⟨_, _, rfl, rfl, c.nx _ _ I1 μ1 S1 H1 e1 ((rs.ext e1).put .int i) o1 q1⟩
    · exact q1.elim⟩
end

/-! ### defs that open a bag, and one that makes it -/
section
variable {P : Program} {w : World} {K : PySem.W.Frag} {mg : Str → Option Value} {base : Heap}
def bagL (x y z : Int) (cs : List Int) : M := .lst [.int x, .int y, .int z, .lst (cs.map D.int)]
theorem fn_dataB {x qual : Str} {s : Stmt} {f : Addr} {fd : FuncData} {N ps : List Str} {k : Nat} {wb : WS} {sp : FSp} (F : C8.Fun K x qual s f fd) (S : FnScope N ps (C8.fnScope s)) (d : Bd P w K mg base k N qual s wb)
    (law : ∀ (ds : List D) (S : Sto) (Φ : D → Sto → Prop), ds.length = ps.length → sp ds S Φ → ∃ n, S[n]? = some .bag ∧ ∀ (x y z : Int) (cs : List Int), BagOk x y z cs →
      wb { nx := fun _ _ => False, rt := fun r S' => ∃ x' y' z', BagOk x' y' z' cs ∧ S' = S.set n (bagL x' y' z' cs) ∧ Φ r S } (ro N ds) (S.set n (bagL x y z cs))) : FnOk P w K mg base C8.CX0 (k + 1) f fd ps (spOf K mg ps.length sp) := by
  refine C8.fn0 F S (fun vs H Q E h => h.1) fun cdv A outer s' H vs Q E hr h => ?_
  obtain ⟨hl, ds, Z, I, μ, St, Φ, r, ok, hs, kp⟩ := h
  obtain ⟨t, q⟩ := d f cdv A outer s' H E hr
  obtain ⟨n, hn, go⟩ := law ds St Φ (by rw [← r.length]; exact hl) hs
  obtain ⟨x, y, z, cs, b, ok1⟩ := ok.openB hn
  have hlt := (List.getElem?_eq_some_iff.mp hn).1
  refine ⟨t, q.ps, q.si Z Lk.zero (L2.start N vs) (ro N ds) I μ _ H _ _ (rps_start r) ok1 (go x y z cs b) ⟨fun _ _ _ _ _ _ _ _ _ z => z.elim, fun v d' I' μ' S' H' e' ok' r' q' => ?_, fun _ _ _ _ _ _ _ _ _ z => z.elim, fun _ _ _ _ _ _ _ _ _ z => z.elim⟩⟩
  obtain ⟨x', y', z', b', rfl, q'⟩ := q'
  have ok2 := ok'.closeB (n := n) (x := x') (y := y') (z := z') (cs := cs) (by rw [List.getElem?_set_self (by simpa using hlt)]; rfl) b'
  rw [List.set_set] at ok2
  have e : St.set n M.bag = St := by
    apply List.ext_getElem?
    intro j
    by_cases hj : n = j
    · subst hj; rw [List.getElem?_set_self hlt, hn]
    · rw [List.getElem?_set_ne hj]
  rw [e] at ok2
  exact kp v d' I' μ' St H' e' ok2 r' q'
theorem fn_dataN {x qual : Str} {s : Stmt} {f : Addr} {fd : FuncData} {N ps : List Str} {k : Nat} {wb : WS} {sp : FSp} (F : C8.Fun K x qual s f fd) (S : FnScope N ps (C8.fnScope s)) (d : Bd P w K mg base k N qual s wb)
    (law : ∀ (ds : List D) (S : Sto) (Φ : D → Sto → Prop), ds.length = ps.length → sp ds S Φ → wb { nx := fun _ _ => False, rt := fun r S' => ∃ x y z cs, BagOk x y z cs ∧ r = .h S.length ∧ S' = S ++ [bagL x y z cs] ∧ Φ r (S ++ [.bag]) } (ro N ds) S) : FnOk P w K mg base C8.CX0 (k + 1) f fd ps (spOf K mg ps.length sp) := by
  refine C8.fn0 F S (fun vs H Q E h => h.1) fun cdv A outer s' H vs Q E hr h => ?_
  obtain ⟨hl, ds, Z, I, μ, St, Φ, r, ok, hs, kp⟩ := h
  obtain ⟨t, q⟩ := d f cdv A outer s' H E hr
  refine ⟨t, q.ps, q.si Z Lk.zero (L2.start N vs) (ro N ds) I μ _ H _ _ (rps_start r) ok (law ds St Φ (by rw [← r.length]; exact hl) hs) ⟨fun _ _ _ _ _ _ _ _ _ z => z.elim, fun v d' I' μ' S' H' e' ok' r' q' => ?_, fun _ _ _ _ _ _ _ _ _ z => z.elim, fun _ _ _ _ _ _ _ _ _ z => z.elim⟩⟩
  obtain ⟨x, y, z, cs, b, rfl, rfl, q'⟩ := q'
  have ok2 := ok'.closeB (n := St.length) (x := x) (y := y) (z := z) (cs := cs) (by rw [List.getElem?_append_right (Nat.le_refl _)]; simp [bagL]) b
  have e : (St ++ [bagL x y z cs]).set St.length M.bag = St ++ [M.bag] := by simp
  rw [e] at ok2
  exact kp v _ I' μ' _ H' e' ok2 r' q'
end
end Sq

set_option Elab.async false
set_option maxRecDepth 100000
set_option maxHeartbeats 4000000
set_option linter.all false
/-! Short forms, and further rules. -/
namespace Sq
open PySem L2
section
variable {X : Cx} {Γ : Gam} {a b e o ix : Expr} {ta tb te to ti : TE} {wa wb we wo wi : WE} {pos tpos apos : Pos}
theorem s_par' {x y : Str} {ta : TA} {wa : WA} {px py pt : Pos} {kt k2 pt2} (i j : Nat) (hc : X.calm = true) (hN : X.N.Nodup) (hi : X.N[i]? = some x) (hj : X.N[j]? = some y) (hij : i ≠ j)
    (hx : X.env.scope.names.lookup x = some .local) (hy : X.env.scope.names.lookup y = some .local) (ha : SA X Γ [a, b] ta wa)
    (hw : swappedStores [.Tuple [.Name x px, .Name y py] kt pt] (.Tuple [a, b] k2 pt2) X.env = pure (some [x, y]))
    (hs : swapsWithSole [.Tuple [.Name x px, .Name y py] kt pt] (.Tuple [a, b] k2 pt2) pos.line X.env = pure false := by rfl) :
    SS X Γ (.Assign [.Tuple [.Name x px, .Name y py] kt pt] (.Tuple [a, b] k2 pt2) pos) (tPar i j ta) (wPar i j wa) :=
  s_par i j hc hN ha (ps_par hc hN hi hj hij hx hy ha.pa hw hs)
theorem se_app' {cpos : Pos} (ho : SE X Γ o to wo) (he : SE X Γ e te we) (h1 : attributeBase o "append" X.env (eval o X.env) = eval o X.env := by rfl)
    (h2 : ((backTo cpos (starEach [e] X.env)).all (fun x => !x.1) && (backToKw cpos (keywordEach [] X.env)).all (fun x => x.1.isSome) && decide ([e].length + ([] : List Keyword).length + (if ([] : List Keyword).isEmpty then 0 else 1) < 30)) = true := by rfl)
    (h3 : (apos.endLine == cpos.line) = true := by rfl) (h4 : starEach [e] X.env = (false, eval e X.env) :: starEach [] X.env := by rfl) (h5 : (backTo cpos (starEach [] X.env)).any (·.1) = false := by rfl) :
    SE X Γ (.Call (.Attribute o "append" apos) [e] [] cpos) (tBM X.K "list" rAppend to (tCons te tNil)) (wApp wo we) := se_app ho he (pe_bm PySem.F.plainAttrs_list PySem.F.slot_list_append PySem.F.type_list_append mt_append ho.pe (pa_cons he.pe pa_nil h4) h1 h2 h3 h4 h5)
theorem s_aug' {op : Operator} {g : Int → Int → Int} (i : Nat) {x : Str} {pos' : Pos} (hN : X.N.Nodup) (hp : PIp X op (ipI g)) (hi : X.N[i]? = some x) (hx : Loc X.env.scope x) (he : SE X Γ e te we) (hf : X.fn x = true ∨ X.env.scope.names.lookup x = some .local := by first | exact .inl rfl | exact .inr rfl) :
    SS X Γ (.AugAssign (.Name x pos') op e pos) (tAug i te (ipI g)) (wAug g i we) := s_aug i hp he (ps_aug hN hi hx he.pe hp hf)
theorem s_augL' {op : Operator} {g : Int → Int → Int} (hp : PIp X op (ipI g)) (ho : SE X Γ o to wo) (hi : SE X Γ ix ti wi) (he : SE X Γ e te we) (ha : ∀ ov iv new, augStore ix ov iv new = (do
      holding [new, ov, iv] (setItem ov iv new)
      release [new, ov, iv] []
      pure .next) := by intros; rfl) :
    SS X Γ (.AugAssign (.Subscript o ix tpos) op e pos) (tAugS to ti te (tGetL X.K) (ipI g) rSetL) (wAugL g wo wi we) := s_augL ho hi he (ps_augS ho.pe hi.pe get_list he.pe hp set_list ha)
def fPow : F2 := fI CPow fun i j => .int (i ^ j.toNat)
theorem se_pow (ha : SE X Γ a ta wa) (hb : SE X Γ b tb wb) : SE X Γ (.BinOp a .Pow b pos) (tOp (rI CPow fun i j => .int (i ^ j.toNat)) ta tb) (wOp fPow wa wb) := se_op op_pow (fun _ => opd_I fun _ _ _ _ => .int) ha hb
def wNeg (we : WE) : WE := fun ρ S Q => we ρ S fun d S1 => match d with
  | .int i => Q (.int (-i)) S1
  | _ => False
theorem se_neg (h : SE X Γ e te we) : SE X Γ (.UnaryOp .USub e pos) (tUn (rU fun i => .int (-i)) te) (wNeg we) :=
  ⟨pe_un un_neg h.pe, fun Z lk σ ρ I μ S H Q Φ rs ok hw k => h.si Z lk σ ρ I μ S H _ _ rs ok hw fun v d I1 μ1 S1 H1 e1 o1 r1 q1 => by
    split at q1
    · cases r1
      exact ⟨_, rfl, k _ _ I1 μ1 S1 H1 e1 o1 .int q1⟩
    · exact q1.elim⟩
/-- a property -/
structure PrD (P : Program) (w : World) (K : PySem.W.Frag) (mg : Str → Option Value) (base : Heap) (k : Nat) (c f : Str) (sp : FSp) : Prop where
  ex : ∃ (C p g : Addr) (fd : FuncData) (ps : List Str), mg c = some (.ref C) ∧ Cls K C ∧ PropOf K C f p g ∧ FnOk P w K mg base C8.CX0 k g fd ps (spOf K mg 1 sp) ∧ Binds K fd ps []
def tPr (mg : Str → Option Value) (c : Str) (sp : Sp) (te : TE) : TE := fun σ H Q => ∃ C, mg c = some (.ref C) ∧ tProp C sp [] C8.E0 te σ H Q
def wProp (c : Str) (sp : FSp) (we : WE) : WE := fun ρ S Q => we ρ S fun d S1 => (atts S1 c d).isSome = true ∧ sp [d] S1 Q
theorem se_prop {k j : Nat} {c f : Str} {sp : FSp} (m : PrD X.prog X.w X.K X.mg X.base k c f sp) (hr : Room j X.A) (hk : k + 1 ≤ j) (h : SE X Γ e te we) (hab : attributeBase e f X.env (eval e X.env) = eval e X.env := by rfl) :
    SE X Γ (.Attribute e f pos) (tPr X.mg c (spOf X.K X.mg 1 sp) te) (wProp c sp we) := by
  obtain ⟨C, p, g, fd, ps, hC, cl, po, F, b⟩ := m.ex
  refine ⟨⟨fun pins s σ H Q I hw => ?_⟩, fun Z lk σ ρ I μ S H Q Φ rs ok hw kp => ⟨C, hC, h.si Z lk σ ρ I μ S H _ _ rs ok hw fun v d I1 μ1 S1 H1 e1 o1 r1 q1 => ?_⟩⟩
  · obtain ⟨C', hC', q⟩ := hw
    rw [hC] at hC'
    cases hC'
    exact (pe_prop h.pe cl po F (hr.mono hk) b .nil C8.pass0 hab).run pins s σ H Q I q
  · obtain ⟨fs, hs⟩ := Option.isSome_iff_exists.mp q1.1
    obtain ⟨a, C', dx, fv, rfl, hC', hh, _⟩ := atts_ok o1 r1 hs
    rw [hC] at hC'
    cases hC'
    exact ⟨a, dx, fv, rfl, hh, rfl, [d], Z, I1, μ1, S1, Φ, .cons r1 .nil, o1, q1.2, kp.ext e1⟩
end
section
variable {P : Program} {w : World} {K : PySem.W.Frag} {mg : Str → Option Value} {base : Heap}
/-- a promise that nobody can ask for -/
theorem cal_none {x : Str} {s : Stmt} {f : Addr} {fd : FuncData} {ps : List Str} {ds : List Value} {dvs : List V} {n : Nat} {sp : FSp} (F : C8.Def K mg x s f fd) (b : Binds K fd ps ds) (dv : Vals dvs ds) (h : ∀ ds S Q, ¬ sp ds S Q) : C8.Cal P w K mg base 0 x (spOf K mg n sp) dvs :=
  ⟨f, fd, ps, ds, ⟨fun vs H Q E hs => by obtain ⟨_, _, _, _, _, _, _, _, _, z, _⟩ := hs; exact (h _ _ _ z).elim, fun A outer s H args us vs Q E _ _ _ _ hs => by obtain ⟨_, _, _, _, _, _, _, _, _, z, _⟩ := hs; exact (h _ _ _ z).elim⟩, F.mgf, F.kp, b, dv⟩
theorem C8_mono {x : Str} {j k : Nat} {sp : Sp} {dvs : List V} (c : C8.Cal P w K mg base j x sp dvs) (h : j ≤ k) : C8.Cal P w K mg base k x sp dvs := by
  obtain ⟨f, fd, ps, ds, F, m, kp, b, d⟩ := c.ex
  exact ⟨f, fd, ps, ds, F.mono h, m, kp, b, d⟩
end
end Sq

set_option Elab.async false
set_option maxRecDepth 100000
set_option maxHeartbeats 4000000
set_option linter.all false
/-! A def that gives back a list of its own: held fast as it leaves. -/
namespace Sq
open PySem L2
section
variable {P : Program} {w : World} {K : PySem.W.Frag} {mg : Str → Option Value} {base : Heap}
/-- its own list is given back, the rest of its own part of the store is forgotten -/
def CutR (n : Nat) (Φ : D → Sto → Prop) : D → Sto → Prop := fun d S => ∃ (j : Nat) (ds : List D), d = .h j ∧ S[j]? = some (.lst ds) ∧ n ≤ j ∧ lows n ds ∧ (∀ (k : Nat) (m : M), k < n → S[k]? = some m → lowM n m) ∧ Φ (.lst ds) (S.take n)
theorem Kp.cutR {Z : Zt} {I : Hp} {μ : List Addr} {n : Nat} {Φ : D → Sto → Prop} {Q : VK} (k : Kp K mg Z I μ Φ Q) (hg : Z.g I μ) (hl : μ.length ≤ n) : Kp K mg Z I μ (CutR n Φ) Q := fun v d I' μ' S' H' e o r q => by
  obtain ⟨j, ds, rfl, hj, hn, l1, l2, q⟩ := q
  cases r with
  | h z =>
    obtain ⟨a, I2, z2, e2, o2, r2⟩ := o.freeze hj
    rw [z] at z2
    cases z2
    have ne : ∀ k, k < n → j ≠ k := fun k hk => by omega
    refine k.cut hg hl _ (.lst ds) I2 μ' _ H' (e.trans e2) o2 r2 ⟨by simpa [low] using l1, fun k m hk hm => l2 k m hk ?_, ?_⟩
    · rw [List.getElem?_set_ne (ne k hk)] at hm; exact hm
    · rw [List.take_set_of_le hn]; exact q
theorem fn_dataR {x qual : Str} {s : Stmt} {f : Addr} {fd : FuncData} {N ps : List Str} {k : Nat} {wb : WS} {sp : FSp} (F : C8.Fun K x qual s f fd) (S : FnScope N ps (C8.fnScope s)) (d : Bd P w K mg base k N qual s wb)
    (law : ∀ (ds : List D) (S : Sto) (Φ : D → Sto → Prop), ds.length = ps.length → sp ds S Φ → wb { nx := fun _ _ => False, rt := CutR S.length Φ } (ro N ds) S) : FnOk P w K mg base C8.CX0 (k + 1) f fd ps (spOf K mg ps.length sp) := by
  refine C8.fn0 F S (fun vs H Q E h => h.1) fun cdv A outer s' H vs Q E hr h => ?_
  obtain ⟨hl, ds, Z, I, μ, St, Φ, r, ok, hs, kp⟩ := h
  obtain ⟨t, q⟩ := d f cdv A outer s' H E hr
  have kc := kp.cutR (n := St.length) ok.gnd (by rw [ok.len]; exact Nat.le_refl _)
  exact ⟨t, q.ps, q.si Z Lk.zero (L2.start N vs) (ro N ds) I μ St H _ _ (rps_start r) ok (law ds St Φ (by rw [← r.length]; exact hl) hs) ⟨fun _ _ _ _ _ _ _ _ _ z => z.elim, kc, fun _ _ _ _ _ _ _ _ _ z => z.elim, fun _ _ _ _ _ _ _ _ _ z => z.elim⟩⟩
theorem cal_dataR {x : Str} {s : Stmt} {f : Addr} {fd : FuncData} {N ps : List Str} {ds : List Value} {dvs : List V} {k : Nat} {wb : WS} {sp : FSp} (F : C8.Def K mg x s f fd) (b : Binds K fd ps ds) (dv : Vals dvs ds) (S : FnScope N ps (C8.fnScope s)) (d : Bd P w K mg base k N x s wb)
    (law : ∀ (ds : List D) (S : Sto) (Φ : D → Sto → Prop), ds.length = ps.length → sp ds S Φ → wb { nx := fun _ _ => False, rt := CutR S.length Φ } (ro N ds) S) : C8.Cal P w K mg base (k + 1) x (spOf K mg ps.length sp) dvs :=
  ⟨f, fd, ps, ds, fn_dataR F.fn S d law, F.mgf, F.kp, b, dv⟩
end
end Sq

set_option Elab.async false
set_option maxRecDepth 100000
set_option maxHeartbeats 4000000
set_option linter.all false
/-! repr, and the defs that may call it: no guard stands above them. -/
namespace Sq
open PySem PySem.Spec PyProof.Rows L2
/-! ### repr -/
def rRepr (K : PySem.W.Frag) (xs : List V) (H : Hp) (Q : VK) : Prop := ∃ (x : V) (p : PyData), xs = [x] ∧ Dp K H x p ∧ p.showable = true ∧ p.hasDict = false ∧ p.depth ≤ 60 ∧ p.shown.length ≤ sizeLine ∧ Q (.str p.shown) H
theorem call_repr {X : Cx} {j : Nat} (hg : X.A.guards = some []) (hr : Room j X.A) : CallR X (.builtin "repr") (rRepr X.K) := by
  intro pn s0 σ G xs us Q I r h
  obtain ⟨x, p, rfl, dp, h1, h2, h3, h4, q⟩ := h
  obtain ⟨u, rfl, ru⟩ := vals1 r
  have hu := hr.un
  cases dp with
  | non =>
    cases ru
    refine PySem.P.repr_of_none ⟨.str _, G, I.tok _, ⟨_, rfl⟩, ?_⟩
    simpa [PyData.shown] using q
  | bl b =>
    cases ru
    refine PySem.P.repr_of_bool ⟨.str _, G, I.tok _, ⟨_, rfl⟩, ?_⟩
    simpa [PyData.shown] using q
  | int i =>
    obtain ⟨t, rfl⟩ := ru
    refine PySem.P.repr_of_int (by simpa [PyData.showable] using h1) ⟨.str _, G, I.tok _, ⟨_, rfl⟩, ?_⟩
    simpa [PyData.shown] using q
  | str y =>
    obtain ⟨t, rfl⟩ := ru
    have z : (reprText y).length ≤ sizeLine := by simpa [PyData.shown] using h4
    refine PySem.P.repr_of_str ⟨.str _, G, I.tok _, ⟨_, rfl⟩, ?_⟩ z
    simpa [PyData.shown] using q
  | lst hs ha =>
    obtain ⟨as, rd⟩ := Dp.reads I _ _ u (.lst hs ha) ru
    cases ru
    exact PySem.repr_of_reads' rd h1 (PyData.noDict_hsm h2) hg (by omega) (fun _ _ e => e) (fun h' v tk k => ⟨.str _, G, I.kept k, ⟨_, rfl⟩, q⟩) h4
  | tup hs ha =>
    obtain ⟨as, rd⟩ := Dp.reads I _ _ u (.tup hs ha) ru
    cases ru
    exact PySem.repr_of_reads' rd h1 (PyData.noDict_hsm h2) hg (by omega) (fun _ _ e => e) (fun h' v tk k => ⟨.str _, G, I.kept k, ⟨_, rfl⟩, q⟩) h4
/-- repr of plain data -/
def fRepr : FSp := fun ds S Q => match ds with
  | [d] => onS (py (view S d)) fun p => p.showable = true ∧ p.hasDict = false ∧ p.depth ≤ 60 ∧ p.shown.length ≤ sizeLine ∧ Q (.str p.shown) S
  | _ => False
theorem cb_repr {K : PySem.W.Frag} {mg : Str → Option Value} {Z : Zt} : CbD K mg Z (rRepr K) fRepr := by
  intro I μ S H vs ds Q Φ ok r h k
  unfold fRepr at h
  split at h
  · cases r with
    | cons r t =>
      cases t
      obtain ⟨p, e, h1, h2, h3, h4, q⟩ := onS_iff h
      exact ⟨_, p, rfl, view_dp ok r e, h1, h2, h3, h4, k _ _ I μ S H .refl ok .str q⟩
  · exact h.elim
/-! ### defs below no guard -/
structure FnG (P : Program) (w : World) (K : PySem.W.Frag) (mg : Str → Option Value) (base : Heap) (k : Nat) (f : Addr) (fd : FuncData) (ps : List Str) (sp : Sp) : Prop where
  len : ∀ vs G Q E, sp vs G Q E → vs.length = ps.length
  run : ∀ (A : Around) (outer : List Env) (s0 : Shared) (G : Hp) (args : Args) (us : List Value) (vs : List V) (Q : VK) (E : XK), A.guards = some [] → Room k A → Env0 P w K mg base A outer s0 G → BindsTo s0 fd args (ps.zip us) → Vals vs us → sp vs G Q E →
    codeAny (model P w) A (.call (.ref f) args) (CR C8.CX0 outer P w G s0 Q E) s0
theorem FnG.mono {P : Program} {w : World} {K : PySem.W.Frag} {mg : Str → Option Value} {base : Heap} {j k : Nat} {f : Addr} {fd : FuncData} {ps : List Str} {sp : Sp} (F : FnG P w K mg base j f fd ps sp) (h : j ≤ k) : FnG P w K mg base k f fd ps sp :=
  ⟨F.len, fun A outer s0 G args us vs Q E hg hr => F.run A outer s0 G args us vs Q E hg (hr.mono h)⟩
structure CalG (P : Program) (w : World) (K : PySem.W.Frag) (mg : Str → Option Value) (base : Heap) (k : Nat) (x : Str) (sp : Sp) (dvs : List V) : Prop where
  ex : ∃ (f : Addr) (fd : FuncData) (ps : List Str) (ds : List Value), FnG P w K mg base k f fd ps sp ∧ mg x = some (.ref f) ∧ PySem.W.keepIn K (.ref f) = true ∧ Binds K fd ps ds ∧ Vals dvs ds
section
variable {P : Program} {w : World} {K : PySem.W.Frag} {mg : Str → Option Value} {base : Heap}
theorem fnG_of {k : Nat} {f : Addr} {nm ql : Str} {pp : Arguments} {bd : List Stmt} {sc : Scope} {dV kV doc pm cdv ct oc : Value} {an od : Option Addr}
    {osl : Array (Option Value)} {N ps : List Str} {sp : Sp} (lk : K.lookup f = some ⟨oc, od, .func (PySem.W.fnOf nm ql pp bd sc dV kV doc pm an cdv ct), osl⟩) (hcd : PySem.W.codeIn K cdv ql = true) (S : FnScope N ps sc)
    (len : ∀ vs G Q E, sp vs G Q E → vs.length = ps.length)
    (go : ∀ (A : Around) (outer : List Env) (s0 : Shared) (G : Hp) (vs : List V) (Q : VK) (E : XK), A.guards = some [] → Room k (A.deeper (envOfC ql sc s0.heap.objs.size f cdv)) → sp vs G Q E →
      ∃ t, PSs (cxOf C8.CX0 P w K mg base N ql sc f cdv A outer s0 G E) bd t ∧ t { nx := fun _ G' => Q .non G', rt := Q } (L2.start N vs) G) :
    FnG P w K mg base (k + 1) f (PySem.W.fnOf nm ql pp bd sc dV kV doc pm an cdv ct) ps sp := by
  refine ⟨len, fun A outer s0 G args us vs Q E gd room e0 bnd rv hsp => ?_⟩
  have lv := len _ _ _ _ hsp
  have KX : K.In s0.heap := e0.mod.kin.keeps fun b o e => (e0.bs b o e).1
  have nl : s0.heap.NoLimit := e0.mod.nolimit.keeps fun b o e => (e0.bs b o e).1
  have kd : ∀ y ∈ ps.zip us, sc.names.lookup y.1 = some .local ∨ (sc.names.lookup y.1 = some .cell ∧ ((cellsFrom (s0.heap.objs.size + 1) sc.names []).lookup y.1).isSome = true) := fun y hy => by
    have in_ps : y.1 ∈ ps := (List.of_mem_zip (a := y.1) (b := y.2) hy).1
    cases S.par y.1 in_ps with
    | inl q => exact .inl q
    | inr q => exact .inr (And.intro q (PySem.W.cellsFrom_some _ _ _ (.inl q)))
  refine codeAny_call_function room.depth (KX _ _ lk) rfl S.co S.gen rfl (PySem.W.codeRec_of KX hcd) (bnd _ _ _ _ ?_)
  refine wpAny_newFunctionEnv_cells S.kind kd fun env he s1 x => ?_
  rw [he]
  refine And.intro (nl.keeps x.toInCall.keep) (codeAny_func ?_)
  obtain ⟨t, pt, tq⟩ := go A outer s0 G vs Q E gd (room.deeper _) hsp
  have I0 : Inv (cxOf C8.CX0 P w K mg base N ql sc f cdv A outer s0 G E) [] (L2.start N vs) G s1 := by
    rw [he] at x
    exact inv_start S room.hd e0 lv rv x
  refine wpAny_mono (pt.run [] s1 (L2.start N vs) G _ I0 tq) (fun fl s2 hs => ?_) fun _ _ hs => hs
  have fin : ∀ {σ2 : L2.St} {G2 : Hp} {v : V} {u : Value}, Inv (cxOf C8.CX0 P w K mg base N ql sc f cdv A outer s0 G E) [] σ2 G2 s2 → RelV v u → Q v G2 → CE outer P w G s0 Q u s2 :=
    fun {_ G2 v _} J r q => ⟨v, G2, J.os, J.bare, J.base, J.hok, r, q⟩
  match fl, hs with
  | .ret u, ⟨v, _, _, J, r, q⟩ => exact fin J r q
  | .next, ⟨_, _, J, q⟩ => exact fin (u := Value.none) (v := V.non) J rfl q
  | .brk, ⟨_, _, _, q⟩ => exact q.elim
  | .cont, ⟨_, _, _, q⟩ => exact q.elim
theorem fn0G {x ql : Str} {st : Stmt} {f : Addr} {fd : FuncData} {N ps : List Str} {k : Nat} {sp : Sp} (F : C8.Fun K x ql st f fd) (S : FnScope N ps (C8.fnScope st)) (len : ∀ vs G Q E, sp vs G Q E → vs.length = ps.length)
    (go : ∀ (cdv : Value) (A : Around) (outer : List Env) (s0 : Shared) (G : Hp) (vs : List V) (Q : VK) (E : XK), A.guards = some [] → Room k (A.deeper (envOfC ql (C8.fnScope st) s0.heap.objs.size f cdv)) → sp vs G Q E →
      ∃ t, PSs (cxOf C8.CX0 P w K mg base N ql (C8.fnScope st) f cdv A outer s0 G E).nox (C8.fnBody st) t ∧ t { nx := fun _ G' => Q .non G', rt := Q } (L2.start N vs) G) : FnG P w K mg base (k + 1) f fd ps sp := by
  obtain ⟨oc, od, dV, kV, doc, pm, an, cdv, ct, osl, rfl, lk, hcd⟩ := F.ex
  refine fnG_of lk hcd S len fun A outer s0 G vs Q E gd room hsp => ?_
  obtain ⟨t, pt, tq⟩ := go cdv A outer s0 G vs Q E gd room hsp
  exact ⟨t, pt.nox, tq⟩
/-- the body of a def below no guard -/
def BdG (P : Program) (w : World) (K : PySem.W.Frag) (mg : Str → Option Value) (base : Heap) (k : Nat) (N : List Str) (qual : Str) (s : Stmt) (wb : WS) : Prop :=
  ∀ (f : Addr) (cdv : Value) (A : Around) (outer : List Env) (sh : Shared) (H : Hp) (E : XK), A.guards = some [] → Room k (A.deeper (envOfC qual (C8.fnScope s) sh.heap.objs.size f cdv)) →
    ∃ t, SSs (Bx P w K mg base N qual (C8.fnScope s) f cdv A outer sh H E) G0 (C8.fnBody s) t wb
theorem fnG_data {x qual : Str} {s : Stmt} {f : Addr} {fd : FuncData} {N ps : List Str} {k : Nat} {wb : WS} {sp : FSp} (F : C8.Fun K x qual s f fd) (S : FnScope N ps (C8.fnScope s)) (d : BdG P w K mg base k N qual s wb)
    (law : ∀ (ds : List D) (S : Sto) (Φ : D → Sto → Prop), ds.length = ps.length → sp ds S Φ → wb { nx := fun _ S' => Φ .non S', rt := Φ } (ro N ds) S) : FnG P w K mg base (k + 1) f fd ps (spOf K mg ps.length sp) := by
  refine fn0G F S (fun vs H Q E h => h.1) fun cdv A outer s' H vs Q E hg hr h => ?_
  obtain ⟨hl, ds, Z, I, μ, St, Φ, r, ok, hs, kp⟩ := h
  obtain ⟨t, q⟩ := d f cdv A outer s' H E hg hr
  refine ⟨t, q.ps, q.si Z Lk.zero (L2.start N vs) (ro N ds) I μ St H _ _ (rps_start r) ok (law ds St Φ (by rw [← r.length]; exact hl) hs) ⟨fun σ' ρ' I' μ' S' H' e' rs' ok' q' => ?_, kp, fun _ _ _ _ _ _ _ _ _ z => z.elim, fun _ _ _ _ _ _ _ _ _ z => z.elim⟩⟩
  exact kp .non .non I' μ' S' H' e' ok' .non q'
theorem calG_data {x : Str} {s : Stmt} {f : Addr} {fd : FuncData} {N ps : List Str} {ds : List Value} {dvs : List V} {k : Nat} {wb : WS} {sp : FSp} (F : C8.Def K mg x s f fd) (b : Binds K fd ps ds) (dv : Vals dvs ds) (S : FnScope N ps (C8.fnScope s)) (d : BdG P w K mg base k N x s wb)
    (law : ∀ (ds : List D) (S : Sto) (Φ : D → Sto → Prop), ds.length = ps.length → sp ds S Φ → wb { nx := fun _ S' => Φ .non S', rt := Φ } (ro N ds) S) : CalG P w K mg base (k + 1) x (spOf K mg ps.length sp) dvs :=
  ⟨f, fd, ps, ds, fnG_data F.fn S d law, F.mgf, F.kp, b, dv⟩
end
section
variable {X : Cx} {Γ : Gam} {k j n : Nat} {x : Str} {sp : FSp} {dvs : List V} {dd : List D} {p pos : Pos} {e : Expr} {es : List Expr} {t : TA} {wa : WA}
theorem run_fnG {f : Addr} {fd : FuncData} {ps : List Str} {ds : List Value} {sq : Sp} {pn : List (Addr × Obj)} {σ : L2.St} {G : Hp} {s0 : Shared} {Q : VK} {us : List Value} {vs : List V} (F : FnG X.prog X.w X.K X.mg X.base k f fd ps sq) (hg : X.A.guards = some []) (hr : Room k X.A) (hb : Binds X.K fd ps ds) (hd : Vals dvs ds)
    (I : Inv X pn σ G s0) (r : Vals vs us) (h : sq (vs ++ dvs) G Q C8.E0) : wpAny (model X.prog X.w) X.A (call (.ref f) us) (EP X pn σ Q) X.xe s0 := by
  have rv : Vals (vs ++ dvs) (us ++ ds) := r.append hd
  have ll : (us ++ ds).length = ps.length := Eq.trans rv.length.symm (F.len _ _ _ _ h)
  refine wpAny_call (codeAny_mono (F.run X.A X.stack s0 G ⟨us, []⟩ (us ++ ds) (vs ++ dvs) Q C8.E0 hg hr I.env0 (hb s0 us I.kIn ll) rv h) fun z s' hq => ?_)
  match z, hq with
  | .error e, hq => exact C8.pass0 (E := C8.E0) pn σ G s0 e s' I hq
  | .ok (.ret u), hq => exact I.after hq
  | .ok .next, hq => exact hq.elim
  | .ok .brk, hq => exact hq.elim
  | .ok .cont, hq => exact hq.elim
theorem se_callG (c : CalG X.prog X.w X.K X.mg X.base k x (spOf X.K X.mg n sp) dvs) (hgd : X.A.guards = some []) (hr : Room j X.A) (hk : k ≤ j) (hd : ∀ I μ, RpL X.K X.mg I μ dvs dd) (ha : SA X Γ (e :: es) t wa) (hg : Gl X x := by rfl)
    (hdb : (x == ("__debug__" : Str)) = false := by decide) (he : starEach (e :: es) X.env = (false, eval e X.env) :: starEach es X.env := by rfl) (hpl : (backTo pos (starEach es X.env)).any (·.1) = false := by rfl) :
    SE X Γ (.Call (.Name x p) (e :: es) [] pos) (tCall (spOf X.K X.mg n sp) dvs C8.E0 t) (wCall n sp dd wa) := by
  refine ⟨⟨fun pn s0 σ G Q I h => ?_⟩, fun Z lk => sim_call hd (ha.si Z lk)⟩
  obtain ⟨f, fd, ps, ds, F, hm, kp, b, dv⟩ := c.ex
  refine wpAny_Call_Name_kw (ld_glob I hg hm ?_ hdb)
  exact PySem.W.callWith_K (h₀ := X.base) I.ok.mod.kin kp (thn (ha.pa.run pos pn s0 σ G _ I h) fun us s1 ⟨vs, G1, I1, r, q⟩ => ⟨I1.kIn, run_fnG F hgd (hr.mono hk) b dv I1 r q⟩) he hpl
end
/-! ### the law itself, below no guard -/
section
variable {P : Program} {w : World} {K : PySem.W.Frag}
theorem top_call {mg mb : Str → Option Value} {k : Nat} {fa a : Addr} {fd : FuncData} {x : Str} {sp : Sp} {z1 : Shared} {vs : List Value} {ns : List Int}
    (KX : K.In z1.heap) (nsm : z1.heap.Ns mainGlobals mg) (nsb : z1.heap.Ns builtinsNs mb) (eb : ∀ x : Str, x ≠ "__name__" → mb x = bootBuiltins x) (nl : z1.heap.NoLimit) (ng : z1.gens = #[])
    (ha : z1.heap.get? a = some { cls := .type "list", data := .seq vs.toArray }) (hi : IntsAre vs ns) (hl : ns.length ≤ sizeLine) (hr : Room k callerA)
    (F : ∀ base : Heap, K.In base → base.Ns mainGlobals mg → FnG P w K mg base k fa fd [x] sp) (hbind : ∀ (s : Shared) (u : Value), BindsTo s fd ⟨[u], []⟩ [(x, u)])
    (hsp : ∀ G : Hp, Only G → SqL K G a (ns.map V.int) → sp [.ref a] G (fun v _ => v = .bl true) fun _ _ _ => False) :
    codeAny (model P w) callerA (.call (.ref fa) ⟨[.ref a], []⟩) (fun r z2 => r = .ok (.ret (.bool true)) ∧ OldK z1.heap z2.heap ∧ z2.os = z1.os ∧ AllBare z2.gens) z1 := by
  have rv := vals_ints hi
  have core : ∀ G : Hp, Only G → SqL K G a (ns.map V.int) → HOk P w G z1.heap → (∀ b, G b ≠ none → b = a) → (G a ≠ none → K.lookup a = none) →
      codeAny (model P w) callerA (.call (.ref fa) ⟨[.ref a], []⟩) (fun r z2 => r = .ok (.ret (.bool true)) ∧ OldK z1.heap z2.heap ∧ z2.os = z1.os ∧ AllBare z2.gens) z1 := by
    intro G gO gS gok gA gK
    have atA : ∀ {b : Addr}, G b ≠ none → b = a := fun {b} h => gA b h
    have base_of : ∀ {b : Addr} {o : Obj}, z1.heap.get? b = some o → G b = none → (hidT z1.heap G).get? b = some o := fun e n => hidT_get e n
    have noA : ∀ {b : Addr} {o : Obj} {es : Array DictEntry} {ep : Nat}, z1.heap.get? b = some o → o.data = .dict es ep → G b = none := fun {b o es ep} e d => by
      by_cases q : G b = none
      · exact q
      · rw [atA q, ha] at e
        cases e
        exact nomatch d
    have nsK : ∀ {b : Addr} {m : Str → Option Value}, z1.heap.Ns b m → (hidT z1.heap G).Ns b m := fun {b m} q => by
      obtain ⟨o, es, ep, e, d, r⟩ := q
      exact ⟨o, es, ep, base_of e (noA e d), d, r⟩
    have kin : K.In (hidT z1.heap G) := fun b o e => base_of (KX b o e) (by
      by_cases q : G b = none
      · exact q
      · have z := atA q
        rw [z] at q e
        rw [gK q] at e
        cases e)
    have hM : Mod K mg (hidT z1.heap G) := by
      obtain ⟨mc, h1, h2⟩ := nl
      exact ⟨kin, nsK nsm, ⟨mb, nsK nsb, eb⟩, ⟨mc, nsK h1, h2⟩⟩
    have e0 : Env0 P w K mg (hidT z1.heap G) callerA [] z1 G := by
      refine ⟨rfl, hM, fun b o e => of_hidT e, Nat.le_of_eq (hidT_size _ _), trivial, fun b hb => ?_, gok, .of_eq ng⟩
      exact absurd (show b ∈ ([] : List Addr) from hb) (by simp)
    refine codeAny_mono ((F _ kin (nsK nsm)).run callerA [] z1 G ⟨[.ref a], []⟩ [.ref a] [.ref a] _ _ rfl hr e0 (hbind z1 (.ref a)) (.cons rfl .nil) (hsp G gO gS)) fun r z2 h => ?_
    match r, h with
    | .error e, h => exact h.elim
    | .ok .next, h => exact h.elim
    | .ok .brk, h => exact h.elim
    | .ok .cont, h => exact h.elim
    | .ok (.ret u), ⟨v, G2, os, bare, un, gok2, r2, q⟩ =>
      have qv : v = .bl true := q
      rw [qv] at r2
      obtain rfl : u = Value.bool true := r2
      refine ⟨rfl, OldK.of_keep fun b o e => ?_, os, bare⟩
      rcases gO b with q | ⟨ob, xs, q⟩
      · exact un.keep b o e q (by intro z; exact absurd (show b ∈ ([] : List Addr) from z) (by simp)) (by simp)
      · have y := un.frzs b ob _ q
        have e1 := (gok b _ q).1
        have e2 := (gok2 b _ y).1
        rw [e] at e1
        cases e1
        exact e2
  have lv := hi.length
  by_cases hk : ∃ o, K.lookup a = some o
  · -- the script lies among the module's own objects
    obtain ⟨o, hk⟩ := hk
    have e := KX a o hk
    rw [ha] at e
    cases e
    refine core (fun _ => none) (fun _ => .inl rfl) (.inr ⟨_, vs.toArray, _, hk, rfl, rfl, rfl, by rw [List.size_toArray, lv]; exact hl, by simpa using rv⟩) (fun b u y => nomatch (show (none : Option HO) = some u from y)) (fun b y => absurd rfl y) fun y => absurd rfl y
  · have hk : K.lookup a = none := by
      cases q : K.lookup a with
      | none => rfl
      | some o => exact (hk ⟨o, q⟩).elim
    refine core (fun b => if b = a then some (.frz { cls := .type "list", data := .seq vs.toArray } (.lst (ns.map V.int))) else none) (fun b => ?_) (.inl (.inr ⟨{ cls := .type "list", data := .seq vs.toArray }, if_pos rfl⟩)) (fun b u y => ?_) (fun b y => ?_) fun _ => hk
    · by_cases e : b = a
      · exact .inr ⟨_, _, if_pos e⟩
      · exact .inl (if_neg e)
    · by_cases e : b = a
      · have y' := Eq.trans (if_pos e).symm y
        cases y'
        rw [e]
        exact ⟨ha, by rw [List.length_map]; exact hl, vs, _, rv, ha⟩
      · exact nomatch Eq.trans (if_neg e).symm y
    · by_cases e : b = a
      · exact e
      · exact absurd (if_neg e) y
end
theorem walk_top {l : PySem.W.OpenLaw} {n k : Nat} {q : Program} {loose : List Str} {XP : (Str → Option Value) → Heap → Prop} {YP : World → Heap → Prop} {d : DefRec} {K : Params → PySem.W.Frag} {sp : World → (Str → Option Value) → Sp} {x : Str}
    (hn : l.most = some n) (hz : n ≤ sizeLine) (hdf : d.params.defaults = []) (room : Room k callerA) (hY : ∀ (w : World) (h : Heap), YP w h → (K w.params).In h)
    (F : ∀ (w : World) (mg : Str → Option Value) (fa : Addr) (h : Heap), (K w.params).In h → h.Ns mainGlobals mg → mg d.name = some (.ref fa) →
      ∃ fd : FuncData, (∀ (s : Shared) (u : Value), BindsTo s fd ⟨[u], []⟩ [(x, u)]) ∧ ∀ base : Heap, (K w.params).In base → base.Ns mainGlobals mg → FnG l.prog w (K w.params) mg base k fa fd [x] (sp w mg))
    (hsp : ∀ (w : World) (mg : Str → Option Value) (G : Hp) (a : Addr) (ns : List Int), ns.length ≤ n → Only G → SqL (K w.params) G a (ns.map V.int) → sp w mg [.ref a] G (fun v _ => v = .bl true) fun _ _ _ => False) :
    PySem.W.WalkO q loose XP YP l.row.toRowW d [] (fun f vs => PySem.call f vs) := by
  refine Att.attach_call hn hdf fun w sA z1 mg mb fa o pm cd doc a vs ns G Y ho hd hcd hmg hobj hin hlen hg => ?_
  have KX := hY w _ Y
  obtain ⟨fd, bnd, F2⟩ := F w mg fa _ KX G.T.g hmg
  exact top_call KX G.T.g G.T.b G.T.builtins G.T.nolimit hg hobj hin (Nat.le_trans hlen hz) room F2 bnd fun H hO hS => hsp w mg H a ns hlen hO hS
end Sq

set_option Elab.async false
set_option maxRecDepth 100000
set_option maxHeartbeats 4000000
set_option linter.all false
/-! The defs of the text as they stand behind the top. -/
namespace Sq
open PySem PySem.Spec PySem.Calls PyProof.Rows L2
/-- a def of the module; dvs: the defaults that are filled up -/
structure DD (K : PySem.W.Frag) (mg : Str → Option Value) (x : Str) (s : Stmt) (ps : List Str) (dvs : List V) : Prop where
  ex : ∃ (f : Addr) (fd : FuncData) (ds : List Value), C8.Def K mg x s f fd ∧ Binds K fd ps ds ∧ Vals dvs ds
/-- a method -/
structure DM (K : PySem.W.Frag) (mg : Str → Option Value) (c m ql : Str) (s : Stmt) (ps : List Str) (dvs : List V) : Prop where
  ex : ∃ (C f : Addr) (fd : FuncData) (ds : List Value), mg c = some (.ref C) ∧ Cls K C ∧ Meth K C m f ∧ C8.Fun K m ql s f fd ∧ Binds K fd ps ds ∧ Vals dvs ds
/-- an __init__ -/
structure DI (K : PySem.W.Frag) (mg : Str → Option Value) (c ql : Str) (s : Stmt) (ps : List Str) (dvs : List V) : Prop where
  ex : ∃ (C f : Addr) (fd : FuncData) (ds : List Value), mg c = some (.ref C) ∧ Mk K C f ∧ C8.Fun K "__init__" ql s f fd ∧ Binds K fd ps ds ∧ Vals dvs ds
/-- a __call__ -/
structure DC (K : PySem.W.Frag) (mg : Str → Option Value) (c ql : Str) (s : Stmt) (ps : List Str) : Prop where
  ex : ∃ (C f : Addr) (fd : FuncData), mg c = some (.ref C) ∧ StX.CallO K C f ∧ C8.Fun K "__call__" ql s f fd ∧ Binds K fd ps []
/-- an operator's def m -/
structure DO (K : PySem.W.Frag) (mg : Str → Option Value) (c m ql : Str) (op : Operator) (s : Stmt) (ps : List Str) : Prop where
  ex : ∃ (C f : Addr) (fd : FuncData), mg c = some (.ref C) ∧ PySem.W.selfFirst K C = true ∧ PySem.W.findIn K (.ref C) (PySem.dunder op.info.2) = some (some (.ref f)) ∧ PySem.W.isFn K (.ref f) = true ∧ C8.Fun K m ql s f fd ∧ Binds K fd ps []
/-- a property's def -/
structure DP (K : PySem.W.Frag) (mg : Str → Option Value) (c m ql : Str) (s : Stmt) (ps : List Str) : Prop where
  ex : ∃ (C p f : Addr) (fd : FuncData), mg c = some (.ref C) ∧ Cls K C ∧ PropOf K C m p f ∧ C8.Fun K m ql s f fd ∧ Binds K fd ps []
section
variable {P : Program} {w : World} {K : PySem.W.Frag} {mg : Str → Option Value} {base : Heap} {x c m ql : Str} {s : Stmt} {ps N : List Str} {dvs : List V} {k : Nat} {wb : WS} {sp : FSp} {op : Operator}
/-- a def's law -/
def LawD (ps N : List Str) (wb : WS) (sp : FSp) : Prop := ∀ (ds : List D) (S : Sto) (Φ : D → Sto → Prop), ds.length = ps.length → sp ds S Φ → wb { nx := fun _ S' => Φ .non S', rt := Φ } (ro N ds) S
theorem DD.cal (d : DD K mg x s ps dvs) (S : FnScope N ps (C8.fnScope s)) (b : Bd P w K mg base k N x s wb) (law : LawD ps N wb sp) : C8.Cal P w K mg base (k + 1) x (spOf K mg ps.length sp) dvs := by
  obtain ⟨f, fd, ds, F, bi, dv⟩ := d.ex
  exact cal_data F bi dv S b law
theorem DD.calC (d : DD K mg x s ps dvs) (S : FnScope N ps (C8.fnScope s)) (b : Bd P w K mg base k N x s wb)
    (law : ∀ (ds : List D) (S : Sto) (Φ : D → Sto → Prop), ds.length = ps.length → sp ds S Φ → wb { nx := fun _ S' => Cut S.length Φ .non S', rt := Cut S.length Φ } (ro N ds) S) : C8.Cal P w K mg base (k + 1) x (spOf K mg ps.length sp) dvs := by
  obtain ⟨f, fd, ds, F, bi, dv⟩ := d.ex
  exact cal_dataC F bi dv S b law
theorem DD.calR (d : DD K mg x s ps dvs) (S : FnScope N ps (C8.fnScope s)) (b : Bd P w K mg base k N x s wb)
    (law : ∀ (ds : List D) (S : Sto) (Φ : D → Sto → Prop), ds.length = ps.length → sp ds S Φ → wb { nx := fun _ _ => False, rt := CutR S.length Φ } (ro N ds) S) : C8.Cal P w K mg base (k + 1) x (spOf K mg ps.length sp) dvs := by
  obtain ⟨f, fd, ds, F, bi, dv⟩ := d.ex
  exact cal_dataR F bi dv S b law
theorem DD.calB (d : DD K mg x s ps dvs) (S : FnScope N ps (C8.fnScope s)) (b : Bd P w K mg base k N x s wb)
    (law : ∀ (ds : List D) (S : Sto) (Φ : D → Sto → Prop), ds.length = ps.length → sp ds S Φ → ∃ n, S[n]? = some .bag ∧ ∀ (x y z : Int) (cs : List Int), BagOk x y z cs →
      wb { nx := fun _ _ => False, rt := fun r S' => ∃ x' y' z', BagOk x' y' z' cs ∧ S' = S.set n (bagL x' y' z' cs) ∧ Φ r S } (ro N ds) (S.set n (bagL x y z cs))) : C8.Cal P w K mg base (k + 1) x (spOf K mg ps.length sp) dvs := by
  obtain ⟨f, fd, ds, F, bi, dv⟩ := d.ex
  exact ⟨f, fd, ps, ds, fn_dataB F.fn S b law, F.mgf, F.kp, bi, dv⟩
theorem DD.calN (d : DD K mg x s ps dvs) (S : FnScope N ps (C8.fnScope s)) (b : Bd P w K mg base k N x s wb)
    (law : ∀ (ds : List D) (S : Sto) (Φ : D → Sto → Prop), ds.length = ps.length → sp ds S Φ → wb { nx := fun _ _ => False, rt := fun r S' => ∃ x y z cs, BagOk x y z cs ∧ r = .h S.length ∧ S' = S ++ [bagL x y z cs] ∧ Φ r (S ++ [.bag]) } (ro N ds) S) : C8.Cal P w K mg base (k + 1) x (spOf K mg ps.length sp) dvs := by
  obtain ⟨f, fd, ds, F, bi, dv⟩ := d.ex
  exact ⟨f, fd, ps, ds, fn_dataN F.fn S b law, F.mgf, F.kp, bi, dv⟩
theorem DD.calG (d : DD K mg x s ps dvs) (S : FnScope N ps (C8.fnScope s)) (b : BdG P w K mg base k N x s wb) (law : LawD ps N wb sp) : CalG P w K mg base (k + 1) x (spOf K mg ps.length sp) dvs := by
  obtain ⟨f, fd, ds, F, bi, dv⟩ := d.ex
  exact calG_data F bi dv S b law
theorem DD.none {n : Nat} (d : DD K mg x s ps dvs) (h : ∀ ds S Q, ¬ sp ds S Q) : C8.Cal P w K mg base 0 x (spOf K mg n sp) dvs := by
  obtain ⟨f, fd, ds, F, bi, dv⟩ := d.ex
  exact cal_none F bi dv h
theorem DM.md (d : DM K mg c m ql s ps dvs) (S : FnScope N ps (C8.fnScope s)) (b : Bd P w K mg base k N ql s wb) (law : LawD ps N wb sp) : MD P w K mg base (k + 1) c m ps.length sp dvs := by
  obtain ⟨C, f, fd, ds, hC, cl, me, F, bi, dv⟩ := d.ex
  exact ⟨C, hC, f, fd, ps, ds, cl, me, fn_data F S b law, bi, dv⟩
theorem DI.made (d : DI K mg c ql s ps dvs) (S : FnScope N ps (C8.fnScope s)) (b : Bd P w K mg base k N ql s wb) (law : LawD ps N wb sp) : MkD P w K mg base (k + 1) c ps.length sp dvs := by
  obtain ⟨C, f, fd, ds, hC, M, F, bi, dv⟩ := d.ex
  exact ⟨C, hC, f, fd, ps, ds, M, fn_data F S b law, hC, bi, dv⟩
theorem DC.cl (d : DC K mg c ql s ps) (S : FnScope N ps (C8.fnScope s)) (b : Bd P w K mg base k N ql s wb) (law : LawD ps N wb sp) : CallD P w K mg base (k + 1) c ps.length sp := by
  obtain ⟨C, f, fd, hC, co, F, bi⟩ := d.ex
  exact ⟨C, f, fd, ps, hC, co, fn_data F S b law, bi⟩
theorem DO.own (d : DO K mg c m ql op s ps) (h2 : ps.length = 2) (S : FnScope N ps (C8.fnScope s)) (b : Bd P w K mg base k N ql s wb) (law : LawD ps N wb sp) : OpO P w K mg base (k + 1) c op sp := by
  obtain ⟨C, f, fd, hC, sf, fi, isf, F, bi⟩ := d.ex
  exact ⟨C, f, fd, ps, hC, sf, fi, isf, h2 ▸ fn_data F S b law, bi⟩
theorem DP.pr (d : DP K mg c m ql s ps) (h1 : ps.length = 1) (S : FnScope N ps (C8.fnScope s)) (b : Bd P w K mg base k N ql s wb) (law : LawD ps N wb sp) : PrD P w K mg base (k + 1) c m sp := by
  obtain ⟨C, p, f, fd, hC, cl, po, F, bi⟩ := d.ex
  exact ⟨C, p, f, fd, ps, hC, cl, po, h1 ▸ fn_data F S b law, bi⟩
end
/-! ### from what the top has written -/
section
variable {K : PySem.W.Frag} {mg : Str → Option Value} {h : Heap} {x c m ql : Str} {s : Stmt} {ps : List Str} {f C : Addr} {oc kV dc pm cd ct : Value} {od an : Option Addr} {sl : Array (Option Value)}
/-- every parameter is given -/
def Plain (x ql : Str) (s : Stmt) (ps : List Str) : Prop := ∀ (kV doc pm : Value) (an : Option Addr) (cdv ct : Value) (us : List Value), us.length = ps.length → bindArgs (PySem.W.fnOf x ql (C8.fnArgs s) (C8.fnBody s) (C8.fnScope s) .none kV doc pm an cdv ct) ⟨us, []⟩ = pure (ps.zip us)
theorem fun_of {dV : Value} (l : K.lookup f = some ⟨oc, od, .func (PySem.W.fnOf x ql (C8.fnArgs s) (C8.fnBody s) (C8.fnScope s) dV kV dc pm an cd ct), sl⟩) (hc : PySem.W.codeIn K cd ql = true) :
    C8.Fun K x ql s f (PySem.W.fnOf x ql (C8.fnArgs s) (C8.fnBody s) (C8.fnScope s) dV kV dc pm an cd ct) := ⟨oc, od, dV, kV, dc, pm, an, cd, ct, sl, rfl, l, hc⟩
theorem DD.of (X : K.In h) (G : h.Ns mainGlobals mg) (a : PySem.W.nsIn K mainGlobals x = some (some (.ref f))) (l : K.lookup f = some ⟨oc, od, .func (PySem.W.fnOf x x (C8.fnArgs s) (C8.fnBody s) (C8.fnScope s) .none kV dc pm an cd ct), sl⟩)
    (hc : PySem.W.codeIn K cd x = true) (hk : PySem.W.keepIn K (.ref f) = true) (b : Plain x x s ps) : DD K mg x s ps [] :=
  ⟨f, _, [], ⟨fun_of l hc, PySem.W.mg_of X G a, hk⟩, (fun_of l hc).binds rfl b, .nil⟩
/-- with defaults: the values its stand in the tuple at T; n are written, those behind the first j fill up -/
theorem DD.dflt {T : Addr} {o : Obj} {its : List Value} {z : Nat} {dvs : List V} (n j : Nat) (X : K.In h) (G : h.Ns mainGlobals mg) (a : PySem.W.nsIn K mainGlobals x = some (some (.ref f)))
    (l : K.lookup f = some ⟨oc, od, .func (PySem.W.fnOf x x (C8.fnArgs s) (C8.fnBody s) (C8.fnScope s) (.ref T) kV dc pm an cd ct), sl⟩) (hc : PySem.W.codeIn K cd x = true) (hk : PySem.W.keepIn K (.ref f) = true)
    (lT : K.lookup T = some o) (oT : o.data = .seq its.toArray z) (r : Vals dvs its) (hn : n + (dvs.length - j) = ps.length)
    (go : ∀ (T : Addr) (kV doc pm : Value) (an : Option Addr) (cdv ct : Value) (us its : List Value), us.length = n → its.length = dvs.length →
      ∃ g, bindArgs (PySem.W.fnOf x x (C8.fnArgs s) (C8.fnBody s) (C8.fnScope s) (.ref T) kV doc pm an cdv ct) ⟨us, []⟩ = seqItems? (.ref T) >>= g ∧ g (some its.toArray) = pure (ps.zip (us ++ its.drop j))) : DD K mg x s ps (dvs.drop j) := by
  refine ⟨f, _, its.drop j, ⟨fun_of l hc, PySem.W.mg_of X G a, hk⟩, fun s0 us hX hl => ?_, r.drop j⟩
  have l1 : its.length = dvs.length := r.length.symm
  rw [List.length_append, List.length_drop, l1] at hl
  obtain ⟨g, e1, e2⟩ := go T kV dc pm an cd ct us its (by omega) l1
  refine BindsTo.of_looks fun M => ?_
  rw [e1]
  exact looks_items hX lT oT (.of_pure e2)
theorem DM.of (X : K.In h) (G : h.Ns mainGlobals mg) (aC : PySem.W.nsIn K mainGlobals c = some (some (.ref C))) (cl : Cls K C) (a : PySem.W.findIn K (.ref C) m = some (some (.ref f))) (i : PySem.W.isFn K (.ref f) = true)
    (l : K.lookup f = some ⟨oc, od, .func (PySem.W.fnOf m ql (C8.fnArgs s) (C8.fnBody s) (C8.fnScope s) .none kV dc pm an cd ct), sl⟩) (hc : PySem.W.codeIn K cd ql = true) (hk : PySem.W.keepIn K (.ref f) = true) (b : Plain m ql s ps) : DM K mg c m ql s ps [] :=
  ⟨C, f, _, [], PySem.W.mg_of X G aC, cl, ⟨a, i, hk⟩, fun_of l hc, (fun_of l hc).binds rfl b, .nil⟩
theorem DI.of (X : K.In h) (G : h.Ns mainGlobals mg) (aC : PySem.W.nsIn K mainGlobals c = some (some (.ref C))) (mk : PySem.W.makesIn K C = true) (kc : PySem.W.keepIn K (.ref C) = true) (a : PySem.W.findIn K (.ref C) "__init__" = some (some (.ref f))) (i : PySem.W.isFn K (.ref f) = true)
    (l : K.lookup f = some ⟨oc, od, .func (PySem.W.fnOf "__init__" ql (C8.fnArgs s) (C8.fnBody s) (C8.fnScope s) .none kV dc pm an cd ct), sl⟩) (hc : PySem.W.codeIn K cd ql = true) (b : Plain "__init__" ql s ps) : DI K mg c ql s ps [] :=
  ⟨C, f, _, [], PySem.W.mg_of X G aC, ⟨mk, a, i, kc⟩, fun_of l hc, (fun_of l hc).binds rfl b, .nil⟩
theorem DC.of (X : K.In h) (G : h.Ns mainGlobals mg) (aC : PySem.W.nsIn K mainGlobals c = some (some (.ref C))) (a : PySem.W.findIn K (.ref C) "__call__" = some (some (.ref f))) (i : PySem.W.isFn K (.ref f) = true) (fi : PySem.W.fnIn K f = true)
    (l : K.lookup f = some ⟨oc, od, .func (PySem.W.fnOf "__call__" ql (C8.fnArgs s) (C8.fnBody s) (C8.fnScope s) .none kV dc pm an cd ct), sl⟩) (hc : PySem.W.codeIn K cd ql = true) (b : Plain "__call__" ql s ps) : DC K mg c ql s ps :=
  ⟨C, f, _, PySem.W.mg_of X G aC, ⟨a, i, fi⟩, fun_of l hc, (fun_of l hc).binds rfl b⟩
theorem DO.of {op : Operator} (X : K.In h) (G : h.Ns mainGlobals mg) (aC : PySem.W.nsIn K mainGlobals c = some (some (.ref C))) (sf : PySem.W.selfFirst K C = true) (a : PySem.W.findIn K (.ref C) (PySem.dunder op.info.2) = some (some (.ref f))) (i : PySem.W.isFn K (.ref f) = true)
    (l : K.lookup f = some ⟨oc, od, .func (PySem.W.fnOf m ql (C8.fnArgs s) (C8.fnBody s) (C8.fnScope s) .none kV dc pm an cd ct), sl⟩) (hc : PySem.W.codeIn K cd ql = true) (b : Plain m ql s ps) : DO K mg c m ql op s ps :=
  ⟨C, f, _, PySem.W.mg_of X G aC, sf, a, i, fun_of l hc, (fun_of l hc).binds rfl b⟩
theorem DP.of {p : Addr} {rest : List Value} (X : K.In h) (G : h.Ns mainGlobals mg) (aC : PySem.W.nsIn K mainGlobals c = some (some (.ref C))) (cl : Cls K C) (a : PySem.W.findIn K (.ref C) m = some (some (.ref p)))
    (g : PySem.W.specialIn K (.ref p) "__get__" = some (some (.builtin "property.__get__"))) (t : PySem.W.takesIn K (.ref p) = some true) (r : PySem.W.recIn K p "property" = some (.ref f :: rest))
    (l : K.lookup f = some ⟨oc, od, .func (PySem.W.fnOf m ql (C8.fnArgs s) (C8.fnBody s) (C8.fnScope s) .none kV dc pm an cd ct), sl⟩) (hc : PySem.W.codeIn K cd ql = true) (b : Plain m ql s ps) : DP K mg c m ql s ps :=
  ⟨C, p, f, _, PySem.W.mg_of X G aC, cl, ⟨a, g, t, ⟨rest, r⟩⟩, fun_of l hc, (fun_of l hc).binds rfl b⟩
theorem KF.of {fl : Str} (X : K.In h) (G : h.Ns mainGlobals mg) (aC : PySem.W.nsIn K mainGlobals c = some (some (.ref C))) (cl : Cls K C) (n : PySem.W.findIn K (.ref C) fl = some none) : KF K mg c fl := ⟨fun D hD => by
  rw [PySem.W.mg_of X G aC] at hD
  cases hD
  exact ⟨cl, n⟩⟩
def noRef : Value → Bool
  | .ref _ => false
  | _ => true
theorem kinds_mro : (kinds.all fun k => (fastBuiltinMro k).any fun l => l.all noRef) = true := by decide +kernel
theorem kinds_sub {k : String} (hk : k ∈ kinds) (C : Addr) : PySem.W.subIn K (.type k) (.ref C) = some false := by
  have e := List.all_eq_true.mp kinds_mro k hk
  show (fastBuiltinMro k).map (·.contains (.ref C)) = some false
  cases q : fastBuiltinMro k with
  | none => rw [q] at e; cases e
  | some l =>
    rw [q] at e
    have e' : l.all noRef = true := e
    have : l.contains (Value.ref C) = false := by
      cases z : l.contains (Value.ref C) with
      | false => rfl
      | true =>
        rw [List.contains_iff_exists_mem_beq] at z
        obtain ⟨v, hv, bv⟩ := z
        have n := List.all_eq_true.mp e' v hv
        cases v <;> simp [noRef] at n <;> exact nomatch bv
    exact congrArg some this
theorem KIB.of {T : String} (X : K.In h) (G : h.Ns mainGlobals mg) (aC : PySem.W.nsIn K mainGlobals c = some (some (.ref C))) (ki : KI K C) (n : PySem.W.mroIn K C (.type T) = some false) (hT : PySem.W.kitMeta T = true) : KIB K mg c T := ⟨fun D hD => by
  rw [PySem.W.mg_of X G aC] at hD
  cases hD
  refine ⟨ki, ?_⟩
  unfold PySem.W.kitOne PySem.W.kitCls
  rw [if_neg (by intro z; exact nomatch z)]
  simp only [hT, if_true]
  exact n⟩
theorem KIO.of (X : K.In h) (G : h.Ns mainGlobals mg) (aC : PySem.W.nsIn K mainGlobals c = some (some (.ref C))) (ki : KI K C) (n : PySem.W.isClsIn K C = true) (t : PySem.W.typeIn K (.ref C) = some (.type "type")) : KIO K mg c :=
  ⟨C, PySem.W.mg_of X G aC, ki, fun k hk => by
    unfold PySem.W.kitOne PySem.W.kitCls
    rw [if_neg (by intro z; exact nomatch z)]
    have n' : (PySem.W.clsIn K C).isSome = true := n
    simp only [n', t, beq_self_eq_true, Bool.and_self, if_true]
    exact kinds_sub hk C⟩
/-! constants -/
theorem GK.int {i : Int} {t : Tok} (X : K.In h) (G : h.Ns mainGlobals mg) (a : PySem.W.nsIn K mainGlobals x = some (some (.int i t))) : GK K mg x (.int i) := ⟨.int i, _, PySem.W.mg_of X G a, ⟨t, rfl⟩, fun _ _ => .int⟩
theorem GK.str {i : Str} {t : Tok} (X : K.In h) (G : h.Ns mainGlobals mg) (a : PySem.W.nsIn K mainGlobals x = some (some (.str i t))) : GK K mg x (.str i) := ⟨.str i, _, PySem.W.mg_of X G a, ⟨t, rfl⟩, fun _ _ => .str⟩
theorem rpl_strs (mg : Str → Option Value) (I : Hp) (μ : List Addr) : ∀ ss : List Str, RpL K mg I μ (ss.map V.str) (ss.map D.str)
  | [] => .nil
  | _ :: ss => .cons .str (rpl_strs mg I μ ss)
theorem GK.tup {T : Addr} {o : Obj} {its : Array Value} {z : Nat} (ss : List Str) (X : K.In h) (G : h.Ns mainGlobals mg) (a : PySem.W.nsIn K mainGlobals x = some (some (.ref T))) (lT : K.lookup T = some o) (oc : o.cls = .type "tuple") (oT : o.data = .seq its z) (hz : its.size ≤ sizeLine) (r : Vals (ss.map V.str) its.toList) :
    GK K mg x (.tup (ss.map D.str)) := ⟨.ref T, _, PySem.W.mg_of X G a, rfl, fun I μ => .tup (.inr ⟨_, its, z, lT, oc, oT, hz, r⟩) (rpl_strs mg I μ ss)⟩
end
/-! ### the law's def, and the end -/
structure DL (K : PySem.W.Frag) (mg : Str → Option Value) (x : Str) (s : Stmt) (p : Str) : Prop where
  ex : ∃ (f : Addr) (fd : FuncData), C8.Def K mg x s f fd ∧ ∀ (s0 : Shared) (u : Value), BindsTo s0 fd ⟨[u], []⟩ [(p, u)]
theorem DL.of {K : PySem.W.Frag} {mg : Str → Option Value} {h : Heap} {x p : Str} {s : Stmt} {f : Addr} {oc kV dc pm cd ct : Value} {od an : Option Addr} {sl : Array (Option Value)} (X : K.In h) (G : h.Ns mainGlobals mg) (a : PySem.W.nsIn K mainGlobals x = some (some (.ref f)))
    (l : K.lookup f = some ⟨oc, od, .func (PySem.W.fnOf x x (C8.fnArgs s) (C8.fnBody s) (C8.fnScope s) .none kV dc pm an cd ct), sl⟩)
    (hc : PySem.W.codeIn K cd x = true) (hk : PySem.W.keepIn K (.ref f) = true) (b : Plain x x s [p]) : DL K mg x s p :=
  ⟨f, _, ⟨fun_of l hc, PySem.W.mg_of X G a, hk⟩, fun _ u => .of_eq (b kV dc pm an cd ct [u] rfl)⟩
/-- what the law is asked: any script -/
def sp_law : FSp := fun ds S Q => ∃ ns : List Int, ds = [.scr ns] ∧ S = [] ∧ ∀ S', Q (.bl true) S'
theorem end_walk {T : PySem.W.Frag → (Str → Option Value) → Prop} {l : PySem.W.OpenLaw} {n k : Nat} {q : Program} {loose : List Str} {XP : (Str → Option Value) → Heap → Prop} {YP : World → Heap → Prop} {d : DefRec} {K : Params → PySem.W.Frag} {x p : Str} {s : Stmt} {N : List Str} {wb : WS}
    (hn : l.most = some n) (hz : n ≤ sizeLine) (hdf : d.params.defaults = []) (hx : d.name = x) (room : Room (k + 1) callerA) (hY : ∀ (w : World) (h : Heap), YP w h → (K w.params).In h) (S : FnScope N [p] (C8.fnScope s))
    (dl : ∀ (K : PySem.W.Frag) (mg : Str → Option Value), T K mg → DL K mg x s p) (bd : ∀ (P : Program) (w : World) (K : PySem.W.Frag) (mg : Str → Option Value) (base : Heap), T K mg → BdG P w K mg base k N x s wb) (law : LawD [p] N wb sp_law)
    (F : ∀ (w : World) (mg : Str → Option Value) (h : Heap), (K w.params).In h → h.Ns mainGlobals mg → T (K w.params) mg) :
    PySem.W.WalkO q loose XP YP l.row.toRowW d [] (fun f vs => PySem.call f vs) := by
  refine walk_top (sp := fun w mg => spOf (K w.params) mg 1 sp_law) (x := p) hn hz hdf room hY (fun w mg fa h KX G hm => ?_) (fun w mg G a ns _ hO hS => ?_)
  · have t := F w mg h KX G
    obtain ⟨f, fd, F1, b⟩ := (dl _ _ t).ex
    have e := F1.mgf
    rw [hx] at hm
    rw [hm] at e
    cases e
    exact ⟨fd, b, fun base _ _ => fnG_data F1.fn S (bd l.prog w _ mg base t) law⟩
  · refine ⟨rfl, [.scr ns], ⟨fun _ => none, fun _ _ => True, fun _ _ _ _ _ _ => trivial⟩, G, [], [], fun d _ => d = .bl true, .cons (.scr hS) .nil, ⟨fun _ _ e => (nomatch e), trivial, Same.refl G, rfl, .nil, fun n a m e => by simp at e⟩, ⟨ns, rfl, rfl, fun _ => rfl⟩, fun v d I' μ' S' H' e o r q => ?_⟩
    have q' : d = .bl true := q
    subst q'
    cases r
    rfl
end Sq

set_option Elab.async false
set_option maxRecDepth 100000
set_option maxHeartbeats 4000000
set_option linter.all false
/-! Trees of rules: what the defs over them do, told of data. -/
namespace Sq
open PySem L2
theorem so_inj {a b : String} : (Str.ofString a = Str.ofString b) = (a = b) := by
  apply propext
  constructor
  · intro h
    have h1 : (⟨(cpsOfBytes 0 0 a.toByteArray.data.toList).toArray⟩ : Str) = ⟨(cpsOfBytes 0 0 b.toByteArray.data.toList).toArray⟩ := h
    rw [cpsOfBytes_string, cpsOfBytes_string] at h1
    have h2 : a.toList.map Char.toNat = b.toList.map Char.toNat := by simpa using h1
    have h3 : a.toList = b.toList := by
      have inj : ∀ (l m : List Char), l.map Char.toNat = m.map Char.toNat → l = m := by
        intro l
        induction l with
        | nil => intro m h; cases m with
          | nil => rfl
          | cons c m => simp at h
        | cons c l ih => intro m h; cases m with
          | nil => simp at h
          | cons d m =>
            simp only [List.map_cons, List.cons.injEq] at h
            have hc : c = d := Char.ext (UInt32.toNat_inj.mp h.1)
            rw [hc, ih m h.2]
      exact inj _ _ h2
    exact String.toList_inj.mp h3
  · rintro rfl; rfl
theorem at0 {α : Type} (xs : List α) : atI xs 0 = xs[0]? := by
  cases xs with
  | nil => rfl
  | cons x r => exact atI_nat (j := 0) rfl
theorem atN {α : Type} (xs : List α) (k : Nat) : atI xs (k : Int) = xs[k]? := by
  by_cases h : k < xs.length
  · rw [List.getElem?_eq_getElem h]; exact atI_nat (List.getElem?_eq_getElem h)
  · rw [List.getElem?_eq_none (by omega)]
    unfold atI ixN
    rw [if_pos (by omega), if_neg (by omega)]; rfl
theorem at1 {α : Type} (xs : List α) : atI xs 1 = xs[1]? := atN xs 1
theorem at2 {α : Type} (xs : List α) : atI xs 2 = xs[2]? := atN xs 2
theorem at3 {α : Type} (xs : List α) : atI xs 3 = xs[3]? := atN xs 3
theorem gx0 {α : Type} (x : α) (r : List α) : (x :: r)[0]? = some x := rfl
theorem gx1 {α : Type} (x y : α) (r : List α) : (x :: y :: r)[1]? = some y := rfl
theorem gx2 {α : Type} (x y z : α) (r : List α) : (x :: y :: z :: r)[2]? = some z := rfl
theorem gx3 {α : Type} (x y z u : α) (r : List α) : (x :: y :: z :: u :: r)[3]? = some u := rfl
theorem nc0 : ((0 : Nat) : Int) = 0 := rfl
theorem nc1 : ((1 : Nat) : Int) = 1 := rfl
theorem nc2 : ((2 : Nat) : Int) = 2 := rfl
theorem nc3 : ((3 : Nat) : Int) = 3 := rfl
theorem nc4 : ((4 : Nat) : Int) = 4 := rfl
theorem nc6 : ((6 : Nat) : Int) = 6 := rfl
theorem so_beq {a b : String} : (Str.ofString a == Str.ofString b) = (a == b) := by
  rw [Bool.eq_iff_iff, beq_iff_eq, beq_iff_eq, so_inj]
section
variable {S : Sto} {i : Int} {b : Bool} {s : Str} {ds : List D} {k : List (Key × D)} {c : Str} {fs : List (Str × D)} {n : Nat} {ns : List Int}
theorem res_i : res S (.int i) = .int i := rfl
theorem res_b : res S (.bl b) = .bl b := rfl
theorem res_s : res S (.str s) = .str s := rfl
theorem res_n : res S .non = .non := rfl
theorem res_t : res S (.tup ds) = .tup ds := rfl
theorem res_l : res S (.lst ds) = .lst ds := rfl
theorem res_d : res S (.dct k) = .dct k := rfl
theorem res_c : res S (.ins c fs) = .ins c fs := rfl
theorem res_scr : res S (.scr ns) = .scr ns := rfl
theorem view_i : view S (.int i) = .int i := rfl
theorem view_b : view S (.bl b) = .bl b := rfl
theorem view_s : view S (.str s) = .str s := rfl
theorem view_n : view S .non = .non := rfl
theorem view_t : view S (.tup ds) = .tup ds := rfl
theorem view_l : view S (.lst ds) = .lst ds := rfl
theorem view_d : view S (.dct k) = .dct k := rfl
theorem view_c : view S (.ins c fs) = .ins c fs := rfl
theorem res_hb (h : S[n]? = some .bag) : res S (.h n) = .h n := by unfold res; simp only [h]
theorem res_hl (h : S[n]? = some (.lst ds)) : res S (.h n) = .h n := by unfold res; simp only [h]
theorem res_hd (h : S[n]? = some (.dct k)) : res S (.h n) = .h n := by unfold res; simp only [h]
theorem res_hi (h : S[n]? = some (.ins c fs)) : res S (.h n) = .h n := by unfold res; simp only [h]
theorem res_hf {d : D} (h : S[n]? = some (.frz d)) : res S (.h n) = d := by unfold res; simp only [h]
theorem view_hl (h : S[n]? = some (.lst ds)) : view S (.h n) = .lst ds := by unfold view; simp only [h]
theorem view_hd (h : S[n]? = some (.dct k)) : view S (.h n) = .dct k := by unfold view; simp only [h]
theorem view_hf {d : D} (h : S[n]? = some (.frz d)) : view S (.h n) = d := by unfold view; simp only [h]
end
theorem ix40 : ixN 4 0 = some 0 := rfl
theorem ix41 : ixN 4 1 = some 1 := rfl
theorem ix42 : ixN 4 2 = some 2 := rfl
theorem set40 {a b c d e : D} : [a, b, c, d].set 0 e = [e, b, c, d] := rfl
theorem set41 {a b c d e : D} : [a, b, c, d].set 1 e = [a, e, c, d] := rfl
theorem set42 {a b c d e : D} : [a, b, c, d].set 2 e = [a, b, e, d] := rfl
theorem bagL_def (x y z : Int) (cs : List Int) : M.lst [.int x, .int y, .int z, .lst (cs.map D.int)] = bagL x y z cs := rfl
inductive Rt where
  | at (t q : Int) | or (a b : Rt) | and (a b : Rt)
def Rt.d : Rt → D
  | .at t q => .tup [.str "at", .int t, .int q]
  | .or a b => .tup [.str "or", a.d, b.d]
  | .and a b => .tup [.str "and", a.d, b.d]
def Rt.dep : Rt → Nat
  | .at _ _ => 1
  | .or a b => max a.dep b.dep + 1
  | .and a b => max a.dep b.dep + 1
def Rt.num : Rt → Nat
  | .at _ _ => 1
  | .or a b => a.num + b.num
  | .and a b => a.num + b.num
/-- a tree of a rule, of any number of at_least -/
def Rt.ok : Rt → Prop
  | .at t q => 1 ≤ t ∧ 1 ≤ q ∧ q ≤ 6
  | .or a b => a.ok ∧ b.ok
  | .and a b => a.ok ∧ b.ok
def Rt.atoms : Rt → List D
  | .at t q => [(Rt.at t q).d]
  | .or a b => a.atoms ++ b.atoms
  | .and a b => a.atoms ++ b.atoms
theorem Rt.num_pos : ∀ r : Rt, 1 ≤ r.num
  | .at _ _ => Nat.le_refl _
  | .or a b => by have := a.num_pos; have := b.num_pos; simp only [Rt.num]; omega
  | .and a b => by have := a.num_pos; have := b.num_pos; simp only [Rt.num]; omega
theorem Rt.dep_num : ∀ r : Rt, r.dep ≤ r.num
  | .at _ _ => Nat.le_refl _
  | .or a b => by have := a.dep_num; have := b.dep_num; have := a.num_pos; have := b.num_pos; simp only [Rt.num, Rt.dep]; omega
  | .and a b => by have := a.dep_num; have := b.dep_num; have := a.num_pos; have := b.num_pos; simp only [Rt.num, Rt.dep]; omega
theorem Rt.dep_pos : ∀ r : Rt, 1 ≤ r.dep
  | .at _ _ => Nat.le_refl _
  | .or a b => by simp only [Rt.dep]; omega
  | .and a b => by simp only [Rt.dep]; omega
theorem Rt.atoms_len : ∀ r : Rt, r.atoms.length = r.num
  | .at _ _ => rfl
  | .or a b => by simp [Rt.atoms, Rt.num, a.atoms_len, b.atoms_len]
  | .and a b => by simp [Rt.atoms, Rt.num, a.atoms_len, b.atoms_len]
theorem Rt.tupd : ∀ r : Rt, ∃ ds, r.d = .tup ds
  | .at _ _ => ⟨_, rfl⟩
  | .or _ _ => ⟨_, rfl⟩
  | .and _ _ => ⟨_, rfl⟩
theorem Rt.view (S : Sto) (r : Rt) : Sq.view S r.d = r.d := by cases r <;> rfl
theorem Rt.res (S : Sto) (r : Rt) : Sq.res S r.d = r.d := by cases r <;> rfl
def given : Rt → Int → Int
  | .at t q, a => if t ≤ a then a - a % q else 0
  | .or x y, a => if given y a > given x a then given y a else given x a
  | .and x y, a => if given y a < given x a then given y a else given x a
def sp_given_n (n : Nat) : FSp := fun ds S Q => ∃ (r : Rt) (a : Int), ds = [r.d, .int a] ∧ r.ok ∧ r.dep ≤ n ∧ Q (.int (given r a)) S
def sp_given_of : FSp := sp_given_n 6
local macro_rules | `(tactic| walk_at "sq") => `(tactic| simp only [↓wSeq, ↓wAsg, ↓wVar, ↓wC, ↓wOp, ↓wTest, ↓wIfS, ↓wRet, ↓wRetN, ↓wIf, ↓wCall, ↓wCons, ↓wNil, ↓wName, ↓wGTup, ↓wGCons, ↓wGNil, ↓wPar, ↓wTup, ↓wLst, ↓wAnd, ↓wOr, ↓wNot, ↓wTru, ↓tru, ↓wAndV, ↓wOrV, ↓wNotV, ↓wSkip, ↓wDrop, ↓fAdd, ↓fSub, ↓fMod, ↓fMul, ↓fMulA, ↓fDiv, ↓fEq, ↓fEqB, ↓fNe, ↓fCmp, ↓fI, ↓fIsN, ↓fNotN, ↓isNon, ↓fLen, ↓lenS, ↓fAbs, ↓fMax, ↓fMax2, ↓fMin, ↓fMin2, ↓fInt, ↓fIx, ↓fIn, ↓scV, ↓scVs, ↓wB, ↓wIsB, ↓wIsO, ↓kindT, ↓kindIs, ↓wFld, ↓atts, ↓wMeth, ↓wCallO, ↓wProp, ↓wSetA, ↓putA, ↓wNever, ↓gt, ↓st, ↓res_i, ↓res_b, ↓res_s, ↓res_n, ↓res_t, ↓res_l, ↓res_d, ↓res_c, ↓res_scr, ↓view_i, ↓view_b, ↓view_s, ↓view_n, ↓view_t, ↓view_l, ↓view_d, ↓view_c, ↓Rt.res, ↓Rt.view, ↓onS_some, ↓onS_none, ↓ro, ↓List.map_cons, ↓List.map_nil, ↓List.length_cons, ↓List.length_nil, ↓List.cons_append, ↓List.nil_append, ↓List.replicate_succ, ↓List.replicate_zero, Nat.reduceAdd, Nat.reduceSub, ↓Nat.add_zero, ↓Nat.zero_add, ↓Nat.sub_self, ↓so_inj, ↓so_beq, ↓at0, ↓at1, ↓at2, ↓at3, ↓gx0, ↓gx1, ↓gx2, ↓gx3, ↓nc0, ↓nc1, ↓nc2, ↓nc3, ↓nc4, ↓nc6, String.reduceBEq, ↓ix40, ↓ix41, ↓ix42, ↓set40, ↓set41, ↓set42, ↓List.set_set, ↓Bool.true_or, ↓Bool.or_true, ↓Bool.false_or, ↓Bool.or_false, ↓Bool.and_true, ↓Bool.true_and, ↓Bool.and_false, ↓Bool.false_and, ↓inV, ↓eqV, ↓List.any_cons, ↓List.any_nil, Int.reduceLE, Int.reduceLT, String.reduceEq, ↓decide_true, ↓decide_false, ↓if_true, ↓if_false, ↓Bool.not_true, ↓Bool.not_false, reduceIte, ↓true_and, ↓and_true, ↓false_and, ↓and_false, ↓Bool.false_eq_true, ↓ite_true, ↓ite_false, reduceCtorEq])
local macro_rules | `(tactic| walk_at "sqh") => `(tactic| simp only [↓wSeq, ↓wAsg, ↓wVar, ↓wC, ↓wOp, ↓wTest, ↓wIfS, ↓wRet, ↓wRetN, ↓wIf, ↓wCall, ↓wCons, ↓wNil, ↓wName, ↓wGTup, ↓wGCons, ↓wGNil, ↓wPar, ↓wTup, ↓wLst, ↓wAnd, ↓wOr, ↓wNot, ↓wTru, ↓tru, ↓wAndV, ↓wOrV, ↓wNotV, ↓wSkip, ↓wDrop, ↓fAdd, ↓fSub, ↓fMod, ↓fMul, ↓fMulA, ↓fDiv, ↓fEq, ↓fEqB, ↓fNe, ↓fCmp, ↓fI, ↓fIsN, ↓fNotN, ↓isNon, ↓fLen, ↓lenS, ↓fAbs, ↓fMax, ↓fMax2, ↓fMin, ↓fMin2, ↓fInt, ↓fIx, ↓fIn, ↓scV, ↓scVs, ↓wB, ↓wIsB, ↓wIsO, ↓kindT, ↓kindIs, ↓wFld, ↓atts, ↓wMeth, ↓wCallO, ↓wProp, ↓wSetA, ↓putA, ↓wNever, ↓gt, ↓st, ↓res_i, ↓res_b, ↓res_s, ↓res_n, ↓res_t, ↓res_l, ↓res_d, ↓res_c, ↓res_scr, ↓view_i, ↓view_b, ↓view_s, ↓view_n, ↓view_t, ↓view_l, ↓view_d, ↓view_c, ↓Rt.res, ↓Rt.view, ↓onS_some, ↓onS_none, ↓ro, ↓List.map_cons, ↓List.map_nil, ↓List.length_cons, ↓List.length_nil, ↓List.cons_append, ↓List.nil_append, ↓List.replicate_succ, ↓List.replicate_zero, Nat.reduceAdd, Nat.reduceSub, ↓Nat.add_zero, ↓Nat.zero_add, ↓Nat.sub_self, ↓so_inj, ↓so_beq, ↓at0, ↓at1, ↓at2, ↓at3, ↓gx0, ↓gx1, ↓gx2, ↓gx3, ↓nc0, ↓nc1, ↓nc2, ↓nc3, ↓nc4, ↓nc6, String.reduceBEq, ↓ix40, ↓ix41, ↓ix42, ↓set40, ↓set41, ↓set42, ↓List.set_set, ↓Bool.true_or, ↓Bool.or_true, ↓Bool.false_or, ↓Bool.or_false, ↓Bool.and_true, ↓Bool.true_and, ↓Bool.and_false, ↓Bool.false_and, ↓inV, ↓eqV, ↓List.any_cons, ↓List.any_nil, Int.reduceLE, Int.reduceLT, String.reduceEq, ↓decide_true, ↓decide_false, ↓if_true, ↓if_false, ↓Bool.not_true, ↓Bool.not_false, reduceIte, ↓true_and, ↓and_true, ↓false_and, ↓and_false, ↓Bool.false_eq_true, ↓ite_true, ↓ite_false, reduceCtorEq, ↓gt_st, ↓st_length, Nat.reduceEqDiff, Nat.reduceLT, Int.reduceToNat, ↓List.length_map, ↓List.append_nil, *])
/-- given_of: slots 0 tree 1 amount 2 word 3 one 4 other 5 first 6 second -/
def w_given_of (sp_given_of : FSp) : WS :=
  (wSeq (wAsg (wVar 0) (wGTup 3 (wGCons (wName 2) (wGCons (wName 3) (wGCons (wName 4) wGNil))))) (wSeq (wIfS (wTest (wOp fEq (wVar 2) (wC (.str "at")))) (wRet (wIf (wTest (wOp (fCmp fun i j => decide (j ≤ i)) (wVar 1) (wVar 3))) (wOp fSub (wVar 1) (wOp fMod (wVar 1) (wVar 4))) (wC (.int 0)))) wSkip) (wSeq (wPar 5 6 (wCons (wCall 2 sp_given_of [] (wCons (wVar 3) (wCons (wVar 1) wNil))) (wCons (wCall 2 sp_given_of [] (wCons (wVar 4) (wCons (wVar 1) wNil))) wNil))) (wRet (wIf (wTest (wOp fEq (wVar 2) (wC (.str "or")))) (wB fMax (wCons (wVar 5) (wCons (wVar 6) wNil))) (wB fMin (wCons (wVar 5) (wCons (wVar 6) wNil))))))))
def n_given_of : List Str := ["tree", "amount", "word", "one", "other", "first", "second"]
theorem law_given_of (n : Nat) (ds : List D) (S : Sto) (Φ : D → Sto → Prop) (h : sp_given_n (n + 1) ds S Φ) : w_given_of (sp_given_n n) { nx := fun _ S' => Φ .non S', rt := Φ } (ro n_given_of ds) S := by
  obtain ⟨r, a, rfl, ok, hd, q⟩ := h
  cases r with
  | «at» t p =>
    unfold w_given_of n_given_of Rt.d
    walk_at "sq"
    obtain ⟨h1, h2, h3⟩ := ok
    unfold given at q
    by_cases z : t ≤ a
    · rw [if_pos z] at q
      simp only [z, decide_true, if_true]
      exact ⟨by omega, q⟩
    · rw [if_neg z] at q
      simp only [z, decide_false, Bool.false_eq_true, if_false]
      exact q
  | or x y =>
    unfold w_given_of n_given_of Rt.d
    walk_at "sq"
    simp only [Rt.dep] at hd
    refine ⟨x, a, rfl, ok.1, by omega, y, a, rfl, ok.2, by omega, ?_⟩
    walk_at "sq"
    simpa [given] using q
  | and x y =>
    unfold w_given_of n_given_of Rt.d
    walk_at "sq"
    simp only [Rt.dep] at hd
    refine ⟨x, a, rfl, ok.1, by omega, y, a, rfl, ok.2, by omega, ?_⟩
    walk_at "sq"
    simpa [given] using q
/-- plain data, or a Rule -/
def plain : D → Prop
  | .h _ => False
  | .fn _ => False
  | .scr _ => False
  | .exc _ _ => False
  | .ins c _ => c = "Rule"
  | _ => True
def isI : D → Bool
  | .int _ => true
  | _ => false
def isN (l : Int) : D → Bool
  | .int i => decide (l ≤ i)
  | _ => false
def sp_is_integer : FSp := fun ds S Q => ∃ d, ds = [d] ∧ plain d ∧ Q (.bl (isI d)) S
def sp_is_number : FSp := fun ds S Q => ∃ l d, ds = [.int l, d] ∧ plain d ∧ Q (.bl (isN l d)) S
def sp_is_shape_n (n : Nat) : FSp := fun ds S Q => ∃ r : Rt, ds = [r.d] ∧ r.ok ∧ r.dep ≤ n ∧ Q (.bl true) S
def sp_is_shape : FSp := sp_is_shape_n 6
/-- is_integer: slots 0 thing -/
def w_is_integer : WS :=
  (wRet (wAndV (wIsB "int" "Rule" (wVar 0)) (wNotV (wIsB "bool" "Rule" (wVar 0)))))
def n_is_integer : List Str := ["thing"]
/-- is_number: slots 0 least 1 thing -/
def w_is_number : WS :=
  (wRet (wAndV (wCall 1 sp_is_integer [] (wCons (wVar 1) wNil)) (wOp (fCmp fun i j => decide (j ≤ i)) (wVar 1) (wVar 0))))
def n_is_number : List Str := ["least", "thing"]
/-- is_shape: slots 0 thing -/
def w_is_shape (sp_is_shape : FSp) : WS :=
  (wSeq (wIfS (wOr (wNot (wTru (wIsB "tuple" "Rule" (wVar 0)))) (wOr (wTest (wOp fNe (wB fLen (wCons (wVar 0) wNil)) (wC (.int 3)))) (wNot (wTru (wIsB "str" "Rule" (wOp fIx (wVar 0) (wC (.int 0)))))))) (wRet (wC (.bl false))) wSkip) (wSeq (wIfS (wTest (wOp (fIn false) (wOp fIx (wVar 0) (wC (.int 0))) (wC (.tup [.str "or", .str "and"])))) (wRet (wAndV (wCall 1 sp_is_shape [] (wCons (wOp fIx (wVar 0) (wC (.int 1))) wNil)) (wCall 1 sp_is_shape [] (wCons (wOp fIx (wVar 0) (wC (.int 2))) wNil)))) wSkip) (wRet (wAndV (wOp fEq (wOp fIx (wVar 0) (wC (.int 0))) (wC (.str "at"))) (wAndV (wCall 2 sp_is_number [] (wCons (wC (.int 1)) (wCons (wOp fIx (wVar 0) (wC (.int 1))) wNil))) (wAndV (wCall 2 sp_is_number [] (wCons (wC (.int 1)) (wCons (wOp fIx (wVar 0) (wC (.int 2))) wNil))) (wOp (fCmp fun i j => decide (i ≤ j)) (wOp fIx (wVar 0) (wC (.int 2))) (wC (.int 6)))))))))
def n_is_shape : List Str := ["thing"]
theorem law_is_integer (ds : List D) (S : Sto) (Φ : D → Sto → Prop) (h : sp_is_integer ds S Φ) : w_is_integer { nx := fun _ S' => Φ .non S', rt := Φ } (ro n_is_integer ds) S := by
  obtain ⟨d, rfl, hp, q⟩ := h
  unfold w_is_integer n_is_integer
  cases d <;> simp only [plain] at hp <;> walk_at "sq" <;> first | exact q | simpa [isI, hp] using q
theorem law_is_number (ds : List D) (S : Sto) (Φ : D → Sto → Prop) (h : sp_is_number ds S Φ) : w_is_number { nx := fun _ S' => Φ .non S', rt := Φ } (ro n_is_number ds) S := by
  obtain ⟨l, d, rfl, hp, q⟩ := h
  unfold w_is_number n_is_number
  have hr : ∀ S : Sto, res S d = d := fun S => by cases d <;> simp only [plain] at hp <;> rfl
  simp only [wVar, wRet, wAndV, wOp, wCall, wCons, wNil, gt, ro, List.map_cons, List.map_nil, List.length_cons, List.length_nil, List.cons_append, List.nil_append, onS_some, hr, List.append_nil, true_and, Nat.reduceAdd]
  refine ⟨d, rfl, hp, ?_⟩
  cases d <;> simp only [plain] at hp <;> simp only [isI, Bool.false_eq_true, if_false, if_true] <;> first | exact q | (walk_at "sq"; exact q)
theorem law_is_shape (n : Nat) (ds : List D) (S : Sto) (Φ : D → Sto → Prop) (h : sp_is_shape_n (n + 1) ds S Φ) : w_is_shape (sp_is_shape_n n) { nx := fun _ S' => Φ .non S', rt := Φ } (ro n_is_shape ds) S := by
  obtain ⟨r, rfl, ok, hd, q⟩ := h
  cases r with
  | «at» t p =>
    unfold w_is_shape n_is_shape Rt.d
    walk_at "sq"
    obtain ⟨h1, h2, h3⟩ := ok
    refine ⟨1, _, rfl, trivial, ?_⟩
    simp only [isN, h1, decide_true, if_true]
    refine ⟨1, _, rfl, trivial, ?_⟩
    simp only [isN, h2, h3, decide_true, if_true]
    exact q
  | or x y =>
    unfold w_is_shape n_is_shape Rt.d
    walk_at "sq"
    simp only [Rt.dep] at hd
    exact ⟨x, rfl, ok.1, by omega, y, rfl, ok.2, by omega, q⟩
  | and x y =>
    unfold w_is_shape n_is_shape Rt.d
    walk_at "sq"
    simp only [Rt.dep] at hd
    exact ⟨x, rfl, ok.1, by omega, y, rfl, ok.2, by omega, q⟩
def sp_atoms_n (n : Nat) : FSp := fun ds S Q => ∃ r : Rt, ds = [r.d] ∧ r.num ≤ 100 ∧ r.dep ≤ n ∧ Q (.lst r.atoms) S
def sp_atoms_of : FSp := sp_atoms_n 6
def sp_is_tree : FSp := fun ds S Q => ∃ r : Rt, ds = [r.d] ∧ r.ok ∧ r.num ≤ 6 ∧ Q (.bl true) S
/-- atoms_of: slots 0 tree -/
def w_atoms_of (sp_atoms_of : FSp) : WS :=
  (wRet (wIf (wTest (wOp fEq (wOp fIx (wVar 0) (wC (.int 0))) (wC (.str "at")))) (wLst (wCons (wVar 0) wNil)) (wOp fAdd (wCall 1 sp_atoms_of [] (wCons (wOp fIx (wVar 0) (wC (.int 1))) wNil)) (wCall 1 sp_atoms_of [] (wCons (wOp fIx (wVar 0) (wC (.int 2))) wNil)))))
def n_atoms_of : List Str := ["tree"]
/-- is_tree: slots 0 thing -/
def w_is_tree : WS :=
  (wRet (wAndV (wCall 1 sp_is_shape [] (wCons (wVar 0) wNil)) (wOp (fCmp fun i j => decide (i ≤ j)) (wB fLen (wCons (wCall 1 sp_atoms_of [] (wCons (wVar 0) wNil)) wNil)) (wC (.int 6)))))
def n_is_tree : List Str := ["thing"]
theorem law_atoms_of (n : Nat) (ds : List D) (S : Sto) (Φ : D → Sto → Prop) (h : sp_atoms_n (n + 1) ds S Φ) : w_atoms_of (sp_atoms_n n) { nx := fun _ S' => Φ .non S', rt := Φ } (ro n_atoms_of ds) S := by
  obtain ⟨r, rfl, hn, hd, q⟩ := h
  cases r with
  | «at» t p =>
    unfold w_atoms_of n_atoms_of
    simp only [Rt.d, Rt.atoms] at q ⊢
    walk_at "sq"
    exact ⟨by decide, q⟩
  | or x y =>
    unfold w_atoms_of n_atoms_of Rt.d
    walk_at "sq"
    simp only [Rt.dep, Rt.num] at hd hn
    refine ⟨x, rfl, by omega, by omega, y, rfl, by omega, by omega, ?_⟩
    walk_at "sq"
    refine ⟨?_, q⟩
    rw [x.atoms_len, y.atoms_len]; unfold LIM; omega
  | and x y =>
    unfold w_atoms_of n_atoms_of Rt.d
    walk_at "sq"
    simp only [Rt.dep, Rt.num] at hd hn
    refine ⟨x, rfl, by omega, by omega, y, rfl, by omega, by omega, ?_⟩
    walk_at "sq"
    refine ⟨?_, q⟩
    rw [x.atoms_len, y.atoms_len]; unfold LIM; omega
theorem law_is_tree (ds : List D) (S : Sto) (Φ : D → Sto → Prop) (h : sp_is_tree ds S Φ) : w_is_tree { nx := fun _ S' => Φ .non S', rt := Φ } (ro n_is_tree ds) S := by
  obtain ⟨r, rfl, ok, hn, q⟩ := h
  unfold w_is_tree n_is_tree
  walk_at "sq"
  have hd := r.dep_num
  refine ⟨r, rfl, ok, by omega, ?_⟩
  simp only [if_true]
  refine ⟨r, rfl, by omega, by omega, ?_⟩
  walk_at "sq"
  rw [r.atoms_len]
  have : decide ((r.num : Int) ≤ 6) = true := decide_eq_true (by omega)
  rw [this]
  exact q
/-- a Rule -/
def rule (r : Rt) : D := .ins "Rule" [("its_tree", r.d)]
theorem rule_res (S : Sto) (r : Rt) : res S (rule r) = rule r := rfl
def sp_Rule_init : FSp := fun ds S Q => ∃ (n : Nat) (r : Rt), ds = [.h n, r.d] ∧ S[n]? = some (.ins "Rule" []) ∧ r.ok ∧ r.num ≤ 6 ∧ Q .non (S.set n (.ins "Rule" [("its_tree", r.d)]))
def sp_Rule_call : FSp := fun ds S Q => ∃ (r : Rt) (a : Int), ds = [rule r, .int a] ∧ r.ok ∧ r.num ≤ 6 ∧ Q (.int (given r a)) S
def sp_Rule_rest : FSp := fun ds S Q => ∃ (r : Rt) (a : Int), ds = [rule r, .int a] ∧ r.ok ∧ r.num ≤ 6 ∧ Q (.int (a - given r a)) S
def sp_Rule_tree : FSp := fun ds S Q => ∃ r : Rt, ds = [rule r] ∧ Q r.d S
def sp_need_few : FSp := fun ds S Q => ∃ x y : Rt, ds = [x.d, y.d] ∧ x.num + y.num ≤ 6 ∧ Q .non S
def lowS (S : Sto) : Prop := ∀ (k : Nat) (m : M), k < S.length → S[k]? = some m → lowM S.length m
def sp_Rule_or : FSp := fun ds S Q => ∃ x y : Rt, ds = [rule x, rule y] ∧ x.ok ∧ y.ok ∧ x.num + y.num ≤ 6 ∧ lowS S ∧ Q (rule (.or x y)) S
def sp_Rule_and : FSp := fun ds S Q => ∃ x y : Rt, ds = [rule x, rule y] ∧ x.ok ∧ y.ok ∧ x.num + y.num ≤ 6 ∧ lowS S ∧ Q (rule (.and x y)) S
def sp_at_least : FSp := fun ds S Q => ∃ t q : Int, ds = [.int t, .int q] ∧ (Rt.at t q).ok ∧ lowS S ∧ Q (rule (.at t q)) S
theorem low_tree (n : Nat) : ∀ r : Rt, low n r.d
  | .at _ _ => by simp [Rt.d, low, lows]
  | .or a b => by simp [Rt.d, low, lows, low_tree n a, low_tree n b]
  | .and a b => by simp [Rt.d, low, lows, low_tree n a, low_tree n b]
theorem low_rule (n : Nat) (r : Rt) : low n (rule r) := by simp [rule, low, lowf, low_tree]
/-- Rule.__init__: slots 0 self 1 tree -/
def w_Rule_init : WS :=
  (wSeq (wIfS (wNot (wTru (wCall 1 sp_is_tree [] (wCons (wVar 1) wNil)))) wNever wSkip) (wSetA "Rule" "its_tree" (wVar 1) (wVar 0)))
def n_Rule_init : List Str := ["self", "tree"]
/-- Rule.__call__: slots 0 self 1 amount -/
def w_Rule_call : WS :=
  (wRet (wCall 2 sp_given_of [] (wCons (wFld "Rule" "its_tree" (wVar 0)) (wCons (wVar 1) wNil))))
def n_Rule_call : List Str := ["self", "amount"]
/-- Rule.rest: slots 0 self 1 amount -/
def w_Rule_rest : WS :=
  (wRet (wOp fSub (wVar 1) (wCall 2 sp_given_of [] (wCons (wFld "Rule" "its_tree" (wVar 0)) (wCons (wVar 1) wNil)))))
def n_Rule_rest : List Str := ["self", "amount"]
/-- Rule.tree: slots 0 self -/
def w_Rule_tree : WS :=
  (wRet (wFld "Rule" "its_tree" (wVar 0)))
def n_Rule_tree : List Str := ["self"]
/-- need_few: slots 0 one 1 other -/
def w_need_few : WS :=
  (wIfS (wTest (wOp (fCmp fun i j => decide (j < i)) (wB fLen (wCons (wOp fAdd (wCall 1 sp_atoms_of [] (wCons (wVar 0) wNil)) (wCall 1 sp_atoms_of [] (wCons (wVar 1) wNil))) wNil)) (wC (.int 6)))) wNever wSkip)
def n_need_few : List Str := ["one", "other"]
/-- Rule.__or__: slots 0 self 1 other -/
def w_Rule_or : WS :=
  (wSeq (wDrop (wCall 2 sp_need_few [] (wCons (wFld "Rule" "its_tree" (wVar 0)) (wCons (wFld "Rule" "its_tree" (wVar 1)) wNil)))) (wRet (wMakeF "Rule" 2 sp_Rule_init [] (wCons (wTup (wCons (wC (.str "or")) (wCons (wFld "Rule" "its_tree" (wVar 0)) (wCons (wFld "Rule" "its_tree" (wVar 1)) wNil)))) wNil))))
def n_Rule_or : List Str := ["self", "other"]
/-- Rule.__and__: slots 0 self 1 other -/
def w_Rule_and : WS :=
  (wSeq (wDrop (wCall 2 sp_need_few [] (wCons (wFld "Rule" "its_tree" (wVar 0)) (wCons (wFld "Rule" "its_tree" (wVar 1)) wNil)))) (wRet (wMakeF "Rule" 2 sp_Rule_init [] (wCons (wTup (wCons (wC (.str "and")) (wCons (wFld "Rule" "its_tree" (wVar 0)) (wCons (wFld "Rule" "its_tree" (wVar 1)) wNil)))) wNil))))
def n_Rule_and : List Str := ["self", "other"]
/-- at_least: slots 0 least 1 by -/
def w_at_least : WS :=
  (wSeq (wIfS (wNot (wTru (wCall 2 sp_is_number [] (wCons (wC (.int 1)) (wCons (wVar 0) wNil))))) wNever wSkip) (wSeq (wIfS (wOr (wNot (wTru (wCall 2 sp_is_number [] (wCons (wC (.int 1)) (wCons (wVar 1) wNil))))) (wTest (wOp (fCmp fun i j => decide (j < i)) (wVar 1) (wC (.int 6))))) wNever wSkip) (wRet (wMakeF "Rule" 2 sp_Rule_init [] (wCons (wTup (wCons (wC (.str "at")) (wCons (wVar 0) (wCons (wVar 1) wNil)))) wNil)))))
def n_at_least : List Str := ["least", "by"]
theorem law_Rule_init (ds : List D) (S : Sto) (Φ : D → Sto → Prop) (h : sp_Rule_init ds S Φ) : w_Rule_init { nx := fun _ S' => Φ .non S', rt := Φ } (ro n_Rule_init ds) S := by
  obtain ⟨n, r, rfl, hS, ok, hn, q⟩ := h
  unfold w_Rule_init n_Rule_init
  walk_at "sq"
  refine ⟨r, rfl, ok, hn, ?_⟩
  walk_at "sq"
  rw [res_hi hS]
  simp only [hS, onS_some, List.length_nil]
  exact ⟨trivial, by decide, q⟩
theorem law_Rule_call (ds : List D) (S : Sto) (Φ : D → Sto → Prop) (h : sp_Rule_call ds S Φ) : w_Rule_call { nx := fun _ S' => Φ .non S', rt := Φ } (ro n_Rule_call ds) S := by
  obtain ⟨r, a, rfl, ok, hn, q⟩ := h
  have hd := r.dep_num
  unfold w_Rule_call n_Rule_call rule
  walk_at "sq"

  exact ⟨r, a, rfl, ok, by omega, q⟩
theorem law_Rule_rest (ds : List D) (S : Sto) (Φ : D → Sto → Prop) (h : sp_Rule_rest ds S Φ) : w_Rule_rest { nx := fun _ S' => Φ .non S', rt := Φ } (ro n_Rule_rest ds) S := by
  obtain ⟨r, a, rfl, ok, hn, q⟩ := h
  have hd := r.dep_num
  unfold w_Rule_rest n_Rule_rest rule
  walk_at "sq"
  refine ⟨r, a, rfl, ok, by omega, ?_⟩
  walk_at "sq"
  exact q
theorem law_Rule_tree (ds : List D) (S : Sto) (Φ : D → Sto → Prop) (h : sp_Rule_tree ds S Φ) : w_Rule_tree { nx := fun _ S' => Φ .non S', rt := Φ } (ro n_Rule_tree ds) S := by
  obtain ⟨r, rfl, q⟩ := h
  unfold w_Rule_tree n_Rule_tree rule
  walk_at "sq"
  exact q
theorem law_need_few (ds : List D) (S : Sto) (Φ : D → Sto → Prop) (h : sp_need_few ds S Φ) : w_need_few { nx := fun _ S' => Φ .non S', rt := Φ } (ro n_need_few ds) S := by
  obtain ⟨x, y, rfl, hn, q⟩ := h
  have h1 := x.dep_num
  have h2 := y.dep_num
  have h3 := x.num_pos
  have h4 := y.num_pos
  unfold w_need_few n_need_few
  walk_at "sq"
  refine ⟨x, rfl, by omega, by omega, y, rfl, by omega, by omega, ?_⟩
  walk_at "sq"
  rw [List.length_append, x.atoms_len, y.atoms_len]
  refine ⟨by unfold LIM; omega, ?_⟩
  rw [if_neg (by rw [decide_eq_true_eq]; omega)]
  exact q
theorem law_Rule_or (ds : List D) (S : Sto) (Φ : D → Sto → Prop) (h : sp_Rule_or ds S Φ) : w_Rule_or { nx := fun _ S' => Φ .non S', rt := Φ } (ro n_Rule_or ds) S := by
  obtain ⟨x, y, rfl, ok1, ok2, hn, ls, q⟩ := h
  unfold w_Rule_or n_Rule_or rule wMakeF
  walk_at "sq"
  refine ⟨x, y, rfl, hn, by decide, S.length, .or x y, rfl, by simp, ⟨ok1, ok2⟩, hn, rfl, _, ?_, ?_, ls, q⟩
  · rw [List.set_append_right _ _ (Nat.le_refl _), Nat.sub_self]; rfl
  · exact ⟨low_tree _ (.or x y), trivial⟩
theorem law_Rule_and (ds : List D) (S : Sto) (Φ : D → Sto → Prop) (h : sp_Rule_and ds S Φ) : w_Rule_and { nx := fun _ S' => Φ .non S', rt := Φ } (ro n_Rule_and ds) S := by
  obtain ⟨x, y, rfl, ok1, ok2, hn, ls, q⟩ := h
  unfold w_Rule_and n_Rule_and rule wMakeF
  walk_at "sq"
  refine ⟨x, y, rfl, hn, by decide, S.length, .and x y, rfl, by simp, ⟨ok1, ok2⟩, hn, rfl, _, ?_, ?_, ls, q⟩
  · rw [List.set_append_right _ _ (Nat.le_refl _), Nat.sub_self]; rfl
  · exact ⟨low_tree _ (.and x y), trivial⟩
theorem law_at_least (ds : List D) (S : Sto) (Φ : D → Sto → Prop) (h : sp_at_least ds S Φ) : w_at_least { nx := fun _ S' => Φ .non S', rt := Φ } (ro n_at_least ds) S := by
  obtain ⟨t, p, rfl, ok, ls, q⟩ := h
  obtain ⟨h1, h2, h3⟩ := id ok
  unfold w_at_least n_at_least wMakeF
  walk_at "sq"
  refine ⟨1, _, rfl, trivial, ?_⟩
  simp only [isN, h1, decide_true, Bool.not_true, Bool.false_eq_true, if_false]
  refine ⟨1, _, rfl, trivial, ?_⟩
  simp only [isN, h2, decide_true, Bool.not_true, Bool.false_eq_true, if_false]
  rw [if_neg (by rw [decide_eq_true_eq]; omega)]
  refine ⟨by decide, S.length, .at t p, rfl, by simp, ok, (by show 1 ≤ 6; decide), rfl, _, ?_, ?_, ls, q⟩
  · rw [List.set_append_right _ _ (Nat.le_refl _), Nat.sub_self]; rfl
  · exact ⟨low_tree _ (.at t p), trivial⟩
end Sq

set_option Elab.async false
set_option maxRecDepth 100000
set_option maxHeartbeats 4000000
set_option linter.all false
/-! What the laws draw. -/
namespace Sq
open PySem L2
/-- a number below n is drawn -/
def sp_q_take : FSp := fun ds S Q => ∃ (k : Nat) (n : Int), ds = [.h k, .int n] ∧ S[k]? = some .bag ∧ 0 < n ∧ n ≤ 10 ^ 60 ∧ ∀ v : Int, 0 ≤ v → v < n → Q (.int v) S
def sp_q_bag : FSp := fun ds S Q => ∃ ns : List Int, ds = [.scr ns] ∧ Q (.h S.length) (S ++ [.bag])
local macro_rules | `(tactic| walk_at "sq") => `(tactic| simp only [↓wSeq, ↓wAsg, ↓wVar, ↓wC, ↓wOp, ↓wTest, ↓wIfS, ↓wRet, ↓wRetN, ↓wIf, ↓wCall, ↓wCons, ↓wNil, ↓wName, ↓wGTup, ↓wGCons, ↓wGNil, ↓wPar, ↓wTup, ↓wLst, ↓wAnd, ↓wOr, ↓wNot, ↓wTru, ↓tru, ↓wAndV, ↓wOrV, ↓wNotV, ↓wSkip, ↓wDrop, ↓fAdd, ↓fSub, ↓fMod, ↓fMul, ↓fMulA, ↓fDiv, ↓fEq, ↓fEqB, ↓fNe, ↓fCmp, ↓fI, ↓fIsN, ↓fNotN, ↓isNon, ↓fLen, ↓lenS, ↓fAbs, ↓fMax, ↓fMax2, ↓fMin, ↓fMin2, ↓fInt, ↓fIx, ↓fIn, ↓scV, ↓scVs, ↓wB, ↓wIsB, ↓wIsO, ↓kindT, ↓kindIs, ↓wFld, ↓atts, ↓wMeth, ↓wCallO, ↓wProp, ↓wSetA, ↓putA, ↓wNever, ↓gt, ↓st, ↓res_i, ↓res_b, ↓res_s, ↓res_n, ↓res_t, ↓res_l, ↓res_d, ↓res_c, ↓res_scr, ↓view_i, ↓view_b, ↓view_s, ↓view_n, ↓view_t, ↓view_l, ↓view_d, ↓view_c, ↓Rt.res, ↓Rt.view, ↓onS_some, ↓onS_none, ↓ro, ↓List.map_cons, ↓List.map_nil, ↓List.length_cons, ↓List.length_nil, ↓List.cons_append, ↓List.nil_append, ↓List.replicate_succ, ↓List.replicate_zero, Nat.reduceAdd, Nat.reduceSub, ↓Nat.add_zero, ↓Nat.zero_add, ↓Nat.sub_self, ↓so_inj, ↓so_beq, ↓at0, ↓at1, ↓at2, ↓at3, ↓gx0, ↓gx1, ↓gx2, ↓gx3, ↓nc0, ↓nc1, ↓nc2, ↓nc3, ↓nc4, ↓nc6, String.reduceBEq, ↓ix40, ↓ix41, ↓ix42, ↓set40, ↓set41, ↓set42, ↓List.set_set, ↓Bool.true_or, ↓Bool.or_true, ↓Bool.false_or, ↓Bool.or_false, ↓Bool.and_true, ↓Bool.true_and, ↓Bool.and_false, ↓Bool.false_and, ↓inV, ↓eqV, ↓List.any_cons, ↓List.any_nil, Int.reduceLE, Int.reduceLT, String.reduceEq, ↓decide_true, ↓decide_false, ↓if_true, ↓if_false, ↓Bool.not_true, ↓Bool.not_false, reduceIte, ↓true_and, ↓and_true, ↓false_and, ↓and_false, ↓Bool.false_eq_true, ↓ite_true, ↓ite_false, reduceCtorEq])
local macro_rules | `(tactic| walk_at "sqh") => `(tactic| simp only [↓wSeq, ↓wAsg, ↓wVar, ↓wC, ↓wOp, ↓wTest, ↓wIfS, ↓wRet, ↓wRetN, ↓wIf, ↓wCall, ↓wCons, ↓wNil, ↓wName, ↓wGTup, ↓wGCons, ↓wGNil, ↓wPar, ↓wTup, ↓wLst, ↓wAnd, ↓wOr, ↓wNot, ↓wTru, ↓tru, ↓wAndV, ↓wOrV, ↓wNotV, ↓wSkip, ↓wDrop, ↓fAdd, ↓fSub, ↓fMod, ↓fMul, ↓fMulA, ↓fDiv, ↓fEq, ↓fEqB, ↓fNe, ↓fCmp, ↓fI, ↓fIsN, ↓fNotN, ↓isNon, ↓fLen, ↓lenS, ↓fAbs, ↓fMax, ↓fMax2, ↓fMin, ↓fMin2, ↓fInt, ↓fIx, ↓fIn, ↓scV, ↓scVs, ↓wB, ↓wIsB, ↓wIsO, ↓kindT, ↓kindIs, ↓wFld, ↓atts, ↓wMeth, ↓wCallO, ↓wProp, ↓wSetA, ↓putA, ↓wNever, ↓gt, ↓st, ↓res_i, ↓res_b, ↓res_s, ↓res_n, ↓res_t, ↓res_l, ↓res_d, ↓res_c, ↓res_scr, ↓view_i, ↓view_b, ↓view_s, ↓view_n, ↓view_t, ↓view_l, ↓view_d, ↓view_c, ↓Rt.res, ↓Rt.view, ↓onS_some, ↓onS_none, ↓ro, ↓List.map_cons, ↓List.map_nil, ↓List.length_cons, ↓List.length_nil, ↓List.cons_append, ↓List.nil_append, ↓List.replicate_succ, ↓List.replicate_zero, Nat.reduceAdd, Nat.reduceSub, ↓Nat.add_zero, ↓Nat.zero_add, ↓Nat.sub_self, ↓so_inj, ↓so_beq, ↓at0, ↓at1, ↓at2, ↓at3, ↓gx0, ↓gx1, ↓gx2, ↓gx3, ↓nc0, ↓nc1, ↓nc2, ↓nc3, ↓nc4, ↓nc6, String.reduceBEq, ↓ix40, ↓ix41, ↓ix42, ↓set40, ↓set41, ↓set42, ↓List.set_set, ↓Bool.true_or, ↓Bool.or_true, ↓Bool.false_or, ↓Bool.or_false, ↓Bool.and_true, ↓Bool.true_and, ↓Bool.and_false, ↓Bool.false_and, ↓inV, ↓eqV, ↓List.any_cons, ↓List.any_nil, Int.reduceLE, Int.reduceLT, String.reduceEq, ↓decide_true, ↓decide_false, ↓if_true, ↓if_false, ↓Bool.not_true, ↓Bool.not_false, reduceIte, ↓true_and, ↓and_true, ↓false_and, ↓and_false, ↓Bool.false_eq_true, ↓ite_true, ↓ite_false, reduceCtorEq, ↓gt_st, ↓st_length, Nat.reduceEqDiff, Nat.reduceLT, Int.reduceToNat, ↓List.length_map, ↓List.append_nil, *])
/-- _law_bag: slots 0 _law_script 1 _law_cell -/
def w_q_bag_elt1 : WE :=
  (wB fAbs (wCons (wVar 1) wNil))
def w_q_bag : WS :=
  (wRet (wLstM (wCons (wC (.int 0)) (wCons (wC (.int 1234567891)) (wCons (wC (.int 0)) (wCons (wLc (wItL (wSl (wVar 0) wNoPart (wPart (wC (.int 63))))) (wName 1) wYes (w_q_bag_elt1) [1]) wNil))))))
def n_q_bag : List Str := ["_law_script", "_law_cell"]
/-- _law_take: slots 0 _law_bag_here 1 _law_many 2 _law_cell 3 _law_mixed 4 _law_value 5 _law_begin 6 _law_second -/
def w_q_take_p1 : WS :=
  (wAsg (wC (.int 0)) (wName 2))
def w_q_take_p2 : WS :=
  (wIfS (wTest (wOp (fCmp fun i j => decide (i < j)) (wOp fIx (wVar 0) (wC (.int 2))) (wB fLen (wCons (wOp fIx (wVar 0) (wC (.int 3))) wNil)))) (wAsg (wOp fIx (wOp fIx (wVar 0) (wC (.int 3))) (wOp fIx (wVar 0) (wC (.int 2)))) (wName 2)) wSkip)
def w_q_take_p3 : WS :=
  (wAugL (fun i j => i + j) (wVar 0) (wC (.int 2)) (wC (.int 1)))
def w_q_take_p4 : WS :=
  (wIfS (wTest (wOp (fCmp fun i j => decide (j ≤ i)) (wVar 2) (wC (.int 1000000000000000000)))) (wAsg (wVar 2) (wSubL (wVar 0) (wC (.int 0)))) wSkip)
def w_q_take_p5 : WS :=
  (wAsg (wOp fAdd (wOp fAdd (wOp fMulA (wOp fIx (wVar 0) (wC (.int 1))) (wC (.int 48271))) (wOp fMod (wB fInt (wCons (wVar 2) wNil)) (wC (.int 2147483647)))) (wOp fMulA (wC (.int 7919)) (wOp fIx (wVar 0) (wC (.int 2))))) (wName 3))
def w_q_take_p6 : WS :=
  (wAsg (wOp fMod (wB fInt (wCons (wVar 3) wNil)) (wC (.int 2147483647))) (wSubL (wVar 0) (wC (.int 1))))
def w_q_take_p7 : WS :=
  (wAsg (wOp fMod (wB fInt (wCons (wOp fIx (wVar 0) (wC (.int 0))) wNil)) (wVar 1)) (wName 4))
def w_q_take_p8 : WS :=
  (wAsg (wOp fDiv (wOp fIx (wVar 0) (wC (.int 0))) (wVar 1)) (wSubL (wVar 0) (wC (.int 0))))
def w_q_take_p9 : WS :=
  (wRet (wVar 4))
def w_q_take_0 : WS :=
  (wIfS (wTest (wOp fEq (wOp fIx (wVar 0) (wC (.int 0))) (wC (.int 0)))) (wSeq (w_q_take_p1) (wSeq (w_q_take_p2) (wSeq (w_q_take_p3) (wSeq (w_q_take_p4) (wSeq (w_q_take_p5) (w_q_take_p6)))))) wSkip)
def w_q_take_1 : WS :=
  (wIfS (wTest (wOp (fCmp fun i j => decide (j < i)) (wOp fIx (wVar 0) (wC (.int 0))) (wC (.int 0)))) (wSeq (w_q_take_p7) (wSeq (w_q_take_p8) (w_q_take_p9))) wSkip)
def w_q_take_2 : WS :=
  (wAsg (wOp fMod (wB fInt (wCons (wOp fMulA (wOp fAdd (wOp fIx (wVar 0) (wC (.int 1))) (wC (.int 1))) (wC (.int 39373))) wNil)) (wC (.int 1000000007))) (wName 5))
def w_q_take_3 : WS :=
  (wAsg (wOp fMod (wB fInt (wCons (wOp fMulA (wOp fMod (wB fInt (wCons (wOp fMulA (wVar 5) (wVar 5)) wNil)) (wC (.int 998244353))) (wC (.int 30011))) wNil)) (wC (.int 998244353))) (wName 6))
def w_q_take_4 : WS :=
  (wIfS (wTest (wOp (fCmp fun i j => decide (j < i)) (wVar 1) (wC (.int 1000000)))) (wRet (wOp fMod (wB fInt (wCons (wOp fAdd (wOp fMulA (wVar 6) (wC (.int 1000000007))) (wVar 5)) wNil)) (wVar 1))) wSkip)
def w_q_take_5 : WS :=
  (wRet (wOp fMod (wB fInt (wCons (wOp fDiv (wVar 6) (wC (.int 7))) wNil)) (wVar 1)))
def w_q_take : WS :=
  (wSeq (w_q_take_0) (wSeq (w_q_take_1) (wSeq (w_q_take_2) (wSeq (w_q_take_3) (wSeq (w_q_take_4) (w_q_take_5))))))
def n_q_take : List Str := ["_law_bag_here", "_law_many", "_law_cell", "_law_mixed", "_law_value", "_law_begin", "_law_second"]
section
variable {k : Nat} {S : Sto} {x y z : Int} {cs : List Int}
theorem bag_at (hk : k < S.length) : (S.set k (bagL x y z cs))[k]? = some (.lst [.int x, .int y, .int z, .lst (cs.map D.int)]) := by
  rw [List.getElem?_set_self hk]; rfl
theorem log2_small {i : Int} {b : Nat} (h : i.natAbs < 2 ^ b) (hb : 0 < b) : i.natAbs.log2 < b := by
  exact PySem.Flt.log2_lt_of hb h
theorem mulW {i j : Int} (h : i.natAbs < 2 ^ 400) (h' : j.natAbs < 2 ^ 400) : IntMulOk i j := (wide_mul h h' (by decide) (by decide) (by decide)).ok
theorem mulL {i j : Int} (h : Builtin.Int.intBits i ≤ 64) : IntMulOk i j := .of_left h
theorem divW {i j : Int} (h : 0 < j) (h' : j.natAbs < 2 ^ 400) : CDivW i j := wide_div h h' (by decide) (by decide)
theorem sm {i : Int} (h : -(10 ^ 100) ≤ i) (h' : i ≤ 10 ^ 100) : i.natAbs < 2 ^ 400 := by
  have : (10 : Nat) ^ 100 < 2 ^ 400 := by decide
  have h1 : i.natAbs ≤ 10 ^ 100 := by omega
  exact Nat.lt_of_le_of_lt h1 this
theorem bag_ret {n : Int} {v : Int} {S' : Sto} {Φ : D → Sto → Prop} (hq : ∀ v : Int, 0 ≤ v → v < n → Φ (.int v) S) (b : BagOk x y z cs) (h0 : 0 ≤ v) (h1 : v < n) (e : S' = S.set k (bagL x y z cs)) :
    ∃ x' y' z', BagOk x' y' z' cs ∧ S' = S.set k (bagL x' y' z' cs) ∧ Φ (.int v) S := ⟨x, y, z, b, e, hq v h0 h1⟩
end
theorem take_p4 {k : Nat} {n c y z : Int} {cs : List Int} {S : Sto} {κ : WK} (hk : k < S.length) (hc : 0 ≤ c)
    (q : ∀ x, 0 ≤ x → κ.nx [some (.h k), some (.int n), some (.int c), none, none, none, none] (S.set k (.lst [.int x, .int y, .int z, .lst (cs.map D.int)]))) :
    w_q_take_p4 κ [some (.h k), some (.int n), some (.int c), none, none, none, none] (S.set k (.lst [.int 0, .int y, .int z, .lst (cs.map D.int)])) := by
  have gs : ∀ m : M, (S.set k m)[k]? = some m := fun m => List.getElem?_set_self hk
  have r0 : ∀ L : List D, res (S.set k (.lst L)) (.h k) = .h k := fun L => res_hl (gs _)
  have v0 : ∀ L : List D, view (S.set k (.lst L)) (.h k) = .lst L := fun L => view_hl (gs _)
  have q0 := q 0 (by decide)
  have qc := q c hc
  clear q
  unfold w_q_take_p4 wSubL
  generalize (1000000000000000000 : Int) = N
  by_cases h18 : N ≤ c
  · walk_at "sqh"
  · walk_at "sqh"
theorem law_q_take (ds : List D) (S : Sto) (Φ : D → Sto → Prop) (h : sp_q_take ds S Φ) : ∃ n, S[n]? = some .bag ∧ ∀ (x y z : Int) (cs : List Int), BagOk x y z cs →
      w_q_take { nx := fun _ _ => False, rt := fun r S' => ∃ x' y' z', BagOk x' y' z' cs ∧ S' = S.set n (bagL x' y' z' cs) ∧ Φ r S } (ro n_q_take ds) (S.set n (bagL x y z cs)) := by
  obtain ⟨k, n, rfl, hS, h0, hn, hq⟩ := h
  refine ⟨k, hS, fun x y z cs b => ?_⟩
  have hk : k < S.length := (List.getElem?_eq_some_iff.mp hS).1
  -- behind the first part
  have tail : ∀ (x y z : Int) (ρ : Ro), BagOk x y z cs → gt ρ 0 = some (.h k) → gt ρ 1 = some (.int n) → ρ.length = 7 →
      (wSeq w_q_take_1 (wSeq w_q_take_2 (wSeq w_q_take_3 (wSeq w_q_take_4 w_q_take_5)))) { nx := fun _ _ => False, rt := fun r S' => ∃ x' y' z', BagOk x' y' z' cs ∧ S' = S.set k (bagL x' y' z' cs) ∧ Φ r S } ρ (S.set k (bagL x y z cs)) := by
    intro x y z ρ b g0 g1 gl
    have gs : ∀ m : M, (S.set k m)[k]? = some m := fun m => List.getElem?_set_self hk
    have r0 : ∀ L : List D, res (S.set k (.lst L)) (.h k) = .h k := fun L => res_hl (gs _)
    have v0 : ∀ L : List D, view (S.set k (.lst L)) (.h k) = .lst L := fun L => view_hl (gs _)
    unfold bagL
    unfold w_q_take_1 w_q_take_p7 w_q_take_p8 w_q_take_p9 w_q_take_2 w_q_take_3 w_q_take_4 w_q_take_5 wSubL
    walk_at "sqh"
    obtain ⟨bl, bx, by0, by1, bz, bp⟩ := b
    by_cases hx : 0 < x
    · rw [if_pos (decide_eq_true hx)]
      refine ⟨divW h0 (sm (by omega) (by omega)), x / n, y, z, ⟨bl, Int.ediv_nonneg bx (by omega), by0, by1, bz, bp⟩, rfl, hq _ (Int.emod_nonneg _ (by omega)) (Int.emod_lt_of_pos _ h0)⟩
    · rw [if_neg (by rw [decide_eq_true_eq]; exact hx)]
      have m1 := Int.emod_nonneg ((y + 1) * 39373) (show (1000000007 : Int) ≠ 0 by decide)
      have m2 := Int.emod_lt_of_pos ((y + 1) * 39373) (show (0 : Int) < 1000000007 by decide)
      generalize (y + 1) * 39373 % 1000000007 = u at m1 m2
      have m3 := Int.emod_nonneg (u * u) (show (998244353 : Int) ≠ 0 by decide)
      have m4 := Int.emod_lt_of_pos (u * u) (show (0 : Int) < 998244353 by decide)
      generalize u * u % 998244353 = p at m3 m4
      have m5 := Int.emod_nonneg (p * 30011) (show (998244353 : Int) ≠ 0 by decide)
      have m6 := Int.emod_lt_of_pos (p * 30011) (show (0 : Int) < 998244353 by decide)
      generalize p * 30011 % 998244353 = r at m5 m6
      refine ⟨mulW (sm (by omega) (by omega)) (sm (by omega) (by omega)), mulW (sm (by omega) (by omega)) (sm (by omega) (by omega)), mulW (sm (by omega) (by omega)) (sm (by omega) (by omega)), ?_⟩
      have fin : ∀ v : Int, ∃ x' y' z', BagOk x' y' z' cs ∧ List.set S k (bagL x y z cs) = List.set S k (bagL x' y' z' cs) ∧ Φ (.int (v % n)) S := fun v =>
        ⟨x, y, z, ⟨bl, bx, by0, by1, bz, bp⟩, rfl, hq _ (Int.emod_nonneg _ (by omega)) (Int.emod_lt_of_pos _ h0)⟩
      split
      · exact ⟨mulW (sm (by omega) (by omega)) (sm (by omega) (by omega)), fin _⟩
      · exact ⟨divW (by decide) (sm (by omega) (by omega)), fin _⟩
  -- the first part
  have gs : ∀ m : M, (S.set k m)[k]? = some m := fun m => List.getElem?_set_self hk
  have r0 : ∀ L : List D, res (S.set k (.lst L)) (.h k) = .h k := fun L => res_hl (gs _)
  have v0 : ∀ L : List D, view (S.set k (.lst L)) (.h k) = .lst L := fun L => view_hl (gs _)
  unfold w_q_take
  rw [wSeq]
  generalize ht : (wSeq w_q_take_1 (wSeq w_q_take_2 (wSeq w_q_take_3 (wSeq w_q_take_4 w_q_take_5)))) = rest at tail
  generalize hR : (fun (r : D) (S' : Sto) => ∃ x' y' z', BagOk x' y' z' cs ∧ S' = S.set k (bagL x' y' z' cs) ∧ Φ r S) = R at tail ⊢
  unfold w_q_take_0 n_q_take
  unfold bagL at tail ⊢
  by_cases hx : x = 0
  · subst hx
    obtain ⟨bl, bx, by0, by1, bz, bp⟩ := b
    have b5 : ∀ (c x : Int), 0 ≤ x → w_q_take_p5 { nx := fun ρ S' => w_q_take_p6 { nx := fun ρ S' => rest { nx := fun _ _ => False, rt := R } ρ S', rt := R } ρ S', rt := R } [some (.h k), some (.int n), some (.int c), none, none, none, none] (S.set k (.lst [.int x, .int y, .int (z + 1), .lst (cs.map D.int)])) := by
      intro c x hx
      unfold w_q_take_p5
      walk_at "sqh"
      unfold w_q_take_p6 wSubL
      walk_at "sqh"
      refine ⟨mulW (sm (by omega) (by omega)) (sm (by omega) (by omega)), mulL (by decide), ?_⟩
      exact tail _ _ _ _ ⟨bl, hx, Int.emod_nonneg _ (by decide), Int.emod_lt_of_pos _ (by decide), by omega, bp⟩ rfl rfl rfl
    -- behind the cell
    have behind : ∀ c : Int, 0 ≤ c → w_q_take_p3 { nx := fun ρ S' => w_q_take_p4 { nx := fun ρ S' => w_q_take_p5 { nx := fun ρ S' => w_q_take_p6 { nx := fun ρ S' => rest { nx := fun _ _ => False, rt := R } ρ S', rt := R } ρ S', rt := R } ρ S', rt := R } ρ S', rt := R } [some (.h k), some (.int n), some (.int c), none, none, none, none] (S.set k (.lst [.int 0, .int y, .int z, .lst (cs.map D.int)])) := by
      intro c hc
      unfold w_q_take_p3 wAugL
      walk_at "sqh"
      exact take_p4 hk hc fun x hx => b5 c x hx
    walk_at "sqh"
    unfold w_q_take_p1
    walk_at "sqh"
    unfold w_q_take_p2
    by_cases hz : z < cs.length
    · have hc : atI (cs.map D.int) z = some (.int (cs[z.toNat]'(by omega))) := by
        obtain ⟨m, rfl⟩ := Int.eq_ofNat_of_zero_le bz
        rw [atN]
        have : m < cs.length := by omega
        simp [this]
      walk_at "sqh"
      exact behind _ (bp _ (List.getElem_mem _))
    · walk_at "sqh"
      exact behind 0 (by decide)
  · walk_at "sqh"
    exact tail _ _ _ _ b rfl rfl rfl
theorem take_bag_elt {ρ : Ro} {S : Sto} {Q : D → Sto → Prop} {c : Int} (g : gt ρ 1 = some (.int c)) (q : Q (.int (if c < 0 then -c else c)) S) : w_q_bag_elt1 ρ S Q := by
  unfold w_q_bag_elt1
  walk_at "sqh"
theorem cut_len (ns : List Int) : (cutD ns none (some 63)).length ≤ 63 := by
  unfold cutD
  have h : HT.sIx ns.length ns.length (some 63) ≤ 63 := by
    show (if (63 : Int) < 0 then ((63 : Int) + (ns.length : Int)).toNat else min (63 : Int).toNat ns.length) ≤ 63
    rw [if_neg (by decide)]
    exact Nat.min_le_left _ _
  rw [List.length_take]
  omega
theorem compD_y {i : Nat} {we : WE} {ρ : Ro} {Q : List D → Sto → Prop} {d : D} {ds acc : List D} {S : Sto} (h : we (st ρ i (some d)) S fun y S3 => acc.length < LIM ∧ compD (wName i) wYes we ρ Q ds (acc ++ [y]) S3) :
    compD (wName i) wYes we ρ Q (d :: ds) acc S := by
  unfold compD
  unfold wName at h ⊢
  unfold wYes at h ⊢
  simp only [if_true]
  exact h
theorem bag_comp {ρ : Ro} {S : Sto} {Q : List D → Sto → Prop} (hρ : ρ.length = 2) : ∀ (ns cs : List Int), cs.length + ns.length ≤ 63 → (∀ c, c ∈ cs → 0 ≤ c) →
    (∀ cs : List Int, cs.length ≤ 63 → (∀ c, c ∈ cs → 0 ≤ c) → Q (cs.map D.int) S) → compD (wName 1) wYes w_q_bag_elt1 ρ Q (ns.map D.int) (cs.map D.int) S
  | [], cs, hl, hp, q => by
    unfold compD
    exact q cs (by simpa using hl) hp
  | n :: ns, cs, hl, hp, q => by
    rw [List.map_cons]
    refine compD_y ?_
    refine take_bag_elt (c := n) (by rw [gt_st, if_pos ⟨rfl, by omega⟩]) ?_
    rw [List.length_cons] at hl
    refine ⟨by rw [List.length_map]; unfold LIM; omega, ?_⟩
    have e : cs.map D.int ++ [D.int (if n < 0 then -n else n)] = (cs ++ [if n < 0 then -n else n]).map D.int := by simp
    rw [e]
    refine bag_comp hρ ns _ (by rw [List.length_append, List.length_singleton]; omega) (fun c hc => ?_) q
    rw [List.mem_append, List.mem_singleton] at hc
    rcases hc with h | h
    · exact hp c h
    · rw [h]; split <;> omega
theorem law_q_bag (ds : List D) (S : Sto) (Φ : D → Sto → Prop) (h : sp_q_bag ds S Φ) :
    w_q_bag { nx := fun _ _ => False, rt := fun r S' => ∃ x y z cs, BagOk x y z cs ∧ r = .h S.length ∧ S' = S ++ [bagL x y z cs] ∧ Φ r (S ++ [.bag]) } (ro n_q_bag ds) S := by
  obtain ⟨ns, rfl, q⟩ := h
  unfold w_q_bag n_q_bag
  simp only [wRet, wLstM, wCons, wC, wNil, wLc, wItL, wSl, wVar, wNoPart, wPart, ro, List.map_cons, List.map_nil, List.length_cons, List.length_nil, List.cons_append, List.nil_append, gt, onS_some, at0, at1, res_scr, fSl]
  refine bag_comp (ρ := _) (by rw [wp_length]; rfl) _ [] (by simpa using cut_len ns) (by simp) fun cs hl hp => ?_
  refine ⟨by decide, ?_⟩
  exact ⟨0, 1234567891, 0, cs, ⟨hl, by decide, by decide, by decide, by decide, hp⟩, rfl, rfl, q⟩
end Sq

set_option Elab.async false
set_option maxRecDepth 100000
set_option maxHeartbeats 4000000
set_option linter.all false
/-! Small data that may be shown; two that are alike. -/
namespace Sq
open PySem L2
mutual
/-- plain, its numbers and signs small -/
def sml : D → Prop
  | .int i => i.natAbs.log2 < 1920
  | .str s => PyData.strOk s = true
  | .non => True
  | .bl _ => True
  | .tup ds => smls ds
  | .lst ds => smls ds
  | _ => False
def smls : List D → Prop
  | [] => True
  | d :: ds => sml d ∧ smls ds
end
mutual
def wgt : D → Nat
  | .int i => if i == 0 then 0 else i.natAbs.log2 + 1
  | .str s => s.cps.size
  | .tup ds => wgts ds
  | .lst ds => wgts ds
  | _ => 0
def wgts : List D → Nat
  | [] => 0
  | d :: ds => wgt d + 1 + wgts ds
end
mutual
def dpt : D → Nat
  | .tup ds => dpts ds + 1
  | .lst ds => dpts ds + 1
  | _ => 0
def dpts : List D → Nat
  | [] => 0
  | d :: ds => max (dpt d) (dpts ds)
end
structure Shw (d : D) (p : PyData) : Prop where
  py : py d = some p
  sh : p.showable = true
  le : p.leavesShort 1921 = true
  hd : p.hasDict = false
  cl : p.canLay0 = true
  wt : p.weight = wgt d
  dp : p.depth = dpt d
structure Shws (ds : List D) (ps : List PyData) : Prop where
  py : pys ds = some ps
  sh : PyData.showableAll ps = true
  le : PyData.leavesShortAll 1921 ps = true
  hd : PyData.hasDictAll ps = false
  cl : PyData.canLayAll0 ps = true
  wt : PyData.weightAll ps = wgts ds
  dp : PyData.depthAll ps = dpts ds
mutual
theorem sml_shw : ∀ d : D, sml d → ∃ p, Shw d p
  | .non, _ => ⟨.none, rfl, rfl, rfl, rfl, rfl, rfl, rfl⟩
  | .bl b, _ => ⟨.bool b, rfl, rfl, rfl, rfl, rfl, rfl, rfl⟩
  | .int i, h => by
    have h' : i.natAbs.log2 < 1920 := by simpa only [sml] using h
    refine ⟨.int i, rfl, by simpa [PyData.showable] using h', ?_, rfl, rfl, rfl, rfl⟩
    have z : (Str.ofString (toString i)).length ≤ 1921 := by rw [PySem.ofString_length]; exact PySem.int_text_length_le (k := 1920) (by decide) h'
    exact decide_eq_true z
  | .str s, h => by
    have h' : PyData.strOk s = true := by simpa only [sml] using h
    refine ⟨.str s, rfl, rfl, ?_, rfl, h', rfl, rfl⟩
    unfold PyData.strOk at h'
    rw [← Array.all_toList, List.all_eq_true] at h'
    simp only [PyData.leavesShort, List.all_eq_true, decide_eq_true_eq]
    intro c hc
    have := of_decide_eq_true (h' c hc)
    omega
  | .tup ds, h => by
    obtain ⟨ps, a, b, c, d, e, f, g⟩ := smls_shw ds (by simpa only [sml] using h)
    exact ⟨.tuple ps, by simp only [py, a, Option.map_some], by simpa only [PyData.showable] using b, by simpa only [PyData.leavesShort] using c, by simpa only [PyData.hasDict] using d, by simpa only [PyData.canLay0] using e, by simp only [PyData.weight, wgt, f], by simp only [PyData.depth, dpt, g]⟩
  | .lst ds, h => by
    obtain ⟨ps, a, b, c, d, e, f, g⟩ := smls_shw ds (by simpa only [sml] using h)
    exact ⟨.list ps, by simp only [py, a, Option.map_some], by simpa only [PyData.showable] using b, by simpa only [PyData.leavesShort] using c, by simpa only [PyData.hasDict] using d, by simpa only [PyData.canLay0] using e, by simp only [PyData.weight, wgt, f], by simp only [PyData.depth, dpt, g]⟩
  | .dct _, h => by simp only [sml] at h
  | .ins _ _, h => by simp only [sml] at h
  | .h _, h => by simp only [sml] at h
  | .scr _, h => by simp only [sml] at h
  | .exc _ _, h => by simp only [sml] at h
theorem smls_shw : ∀ ds : List D, smls ds → ∃ ps, Shws ds ps
  | [], _ => ⟨[], rfl, rfl, rfl, rfl, rfl, rfl, rfl⟩
  | d :: ds, h => by
    have h' : sml d ∧ smls ds := by simpa only [smls] using h
    obtain ⟨p, a1, b1, c1, d1, e1, f1, g1⟩ := sml_shw d h'.1
    obtain ⟨ps, a, b, c, d, e, f, g⟩ := smls_shw ds h'.2
    exact ⟨p :: ps, by simp only [pys, a1, a], by simp only [PyData.showableAll, b1, b, Bool.and_self], by simp only [PyData.leavesShortAll, c1, c, Bool.and_self], by simp only [PyData.hasDictAll, d1, d, Bool.or_self], by simp only [PyData.canLayAll0, e1, e, Bool.and_self], by simp only [PyData.weightAll, wgts, f1, f], by simp only [PyData.depthAll, dpts, g1, g]⟩
end
/-- data that may be shown and compared -/
structure Sm (d : D) : Prop where
  sm : sml d
  wt : wgt d ≤ 4000
  dp : dpt d ≤ 60
theorem Sm.all {d : D} (h : Sm d) : ∃ p, py d = some p ∧ p.showable = true ∧ p.hasDict = false ∧ p.depth ≤ 60 ∧ p.shown.length ≤ sizeLine ∧ SeqAt.shaped p = true ∧ PyData.eqv p p = true := by
  obtain ⟨p, s⟩ := sml_shw d h.sm
  have w := h.wt
  have z := h.dp
  rw [← s.wt] at w
  rw [← s.dp] at z
  refine ⟨p, s.py, s.sh, s.hd, z, ?_, ?_, SeqAt.eqv_refl p s.cl⟩
  · have y := PyData.shown_le 1921 (by decide) p s.le
    have y2 : (1921 + 2) * p.weight ≤ 1923 * 4000 := Nat.mul_le_mul (by decide) w
    rw [sizeLine_eq]
    omega
  · unfold SeqAt.shaped
    rw [s.cl, Bool.true_and, decide_eq_true_eq]
    omega
theorem fEq_same {S : Sto} {a b d : D} {Q : D → Sto → Prop} (ha : view S a = d) (hb : view S b = d) (h : Sm d) (q : Q (.bl true) S) : fEq S a b Q := by
  obtain ⟨p, e, _, _, _, _, sh, ev⟩ := h.all
  unfold fEq fEqB
  rw [ha, hb]
  cases d with
  | int i => simpa using q
  | str i => simpa using q
  | bl i => simpa using q
  | non => simpa using q
  | tup ds => simp only [e, onS_some, sh, ev, true_and]; exact q
  | lst ds => simp only [e, onS_some, sh, ev, true_and]; exact q
  | _ => exact absurd h.sm (by simp [sml])
theorem fRepr_same {S : Sto} {a d : D} {Q : D → Sto → Prop} (ha : view S a = d) (h : Sm d) (q : ∀ s : Str, (∃ p, py d = some p ∧ s = p.shown) → Q (.str s) S) : fRepr [a] S Q := by
  obtain ⟨p, e, h1, h2, h3, h4, _⟩ := h.all
  unfold fRepr
  simp only [ha, e, onS_some]
  exact ⟨h1, h2, h3, h4, q _ ⟨p, e, rfl⟩⟩
def sp_q_alike : FSp := fun ds S Q => ∃ a b d : D, ds = [a, b] ∧ res S a = a ∧ res S b = b ∧ view S a = d ∧ view S b = d ∧ Sm d ∧ Q (.bl true) S
/-! ### loops and comprehensions by an invariant -/
theorem loop_inv {g : WG} {w : WS} {κ : WK} (Inv : Ro → Sto → Prop) : ∀ {ds : List D}, (∀ d, d ∈ ds → ∀ (ρ : Ro) (S : Sto) (κ' : WK), Inv ρ S → (∀ ρ' S', Inv ρ' S' → κ'.nx ρ' S') → g d ρ S fun ρ1 S1 => w κ' ρ1 S1) →
    ∀ {ρ : Ro} {S : Sto}, Inv ρ S → (∀ ρ' S', Inv ρ' S' → κ.nx ρ' S') → loopD g w κ ds ρ S
  | [], _, ρ, S, i, q => by
    unfold loopD
    exact q ρ S i
  | d :: ds, step, ρ, S, i, q => by
    unfold loopD
    refine step d (by simp) ρ S _ i fun ρ' S' i' => ?_
    exact loop_inv Inv (fun d' hd => step d' (by simp [hd])) i' q
inductive All2 {α β : Type} (R : α → β → Prop) : List α → List β → Prop
  | nil : All2 R [] []
  | cons {a : α} {b : β} {as : List α} {bs : List β} : R a b → All2 R as bs → All2 R (a :: as) (b :: bs)
theorem All2.len {α β : Type} {R : α → β → Prop} {as : List α} {bs : List β} (h : All2 R as bs) : as.length = bs.length := by
  induction h with
  | nil => rfl
  | cons _ _ ih => simp [ih]
theorem All2.right {α β : Type} {R : α → β → Prop} {P : β → Prop} {as : List α} {bs : List β} (h : All2 R as bs) (k : ∀ a b, a ∈ as → R a b → P b) : ∀ b, b ∈ bs → P b := by
  induction h with
  | nil => simp
  | cons r _ ih =>
    intro b hb
    rcases List.mem_cons.mp hb with rfl | hb
    · exact k _ _ (by simp) r
    · exact ih (fun a b ha => k a b (by simp [ha])) b hb
theorem comp_all {β : Type} {i : Nat} {we : WE} {ρ : Ro} {S : Sto} {Q : List D → Sto → Prop} (R : D → β → Prop) (f : β → D) : ∀ {ds acc : List D}, acc.length + ds.length ≤ LIM →
    (∀ d, d ∈ ds → ∀ Q' : D → Sto → Prop, (∀ y, R d y → Q' (f y) S) → we (st ρ i (some d)) S Q') → (∀ ys : List β, All2 R ds ys → Q (acc ++ ys.map f) S) → compD (wName i) wYes we ρ Q ds acc S
  | [], acc, hl, he, q => by
    unfold compD
    simpa using q [] .nil
  | d :: ds, acc, hl, he, q => by
    rw [List.length_cons] at hl
    refine compD_y ?_
    refine he d (by simp) _ fun y hy => ⟨by omega, ?_⟩
    refine comp_all R f (by rw [List.length_append, List.length_singleton]; omega) (fun d' hd => he d' (by simp [hd])) fun ys hys => ?_
    have z := q (y :: ys) (.cons hy hys)
    simpa using z
theorem comp_map {α : Type} {i : Nat} {we : WE} {ρ : Ro} {S : Sto} {Q : List D → Sto → Prop} (f g : α → D) : ∀ {as : List α} {acc : List D}, acc.length + as.length ≤ LIM →
    (∀ a, a ∈ as → ∀ Q' : D → Sto → Prop, Q' (g a) S → we (st ρ i (some (f a))) S Q') → Q (acc ++ as.map g) S → compD (wName i) wYes we ρ Q (as.map f) acc S
  | [], acc, hl, he, q => by
    rw [List.map_nil]
    unfold compD
    simpa using q
  | a :: as, acc, hl, he, q => by
    rw [List.length_cons] at hl
    rw [List.map_cons]
    refine compD_y ?_
    refine he a (by simp) _ ⟨by omega, ?_⟩
    exact comp_map f g (by rw [List.length_append, List.length_singleton]; omega) (fun a' ha => he a' (by simp [ha])) (by simpa using q)
theorem mem_rngD {n : Nat} {d : D} (h : d ∈ rngD 0 n) : ∃ j : Nat, j < n ∧ d = .int (j : Int) := by
  unfold rngD at h
  obtain ⟨j, hj, rfl⟩ := List.mem_map.mp h
  exact ⟨j, List.mem_range.mp hj, by simp⟩
theorem at_map {α : Type} (f : α → D) {xs : List α} {j : Nat} (h : j < xs.length) : atI (xs.map f) (j : Int) = some (f xs[j]) := by
  rw [atN, List.getElem?_map, List.getElem?_eq_getElem h]; rfl
theorem sm_int2 {x y : Int} (hx : x.natAbs.log2 < 1920) (hy : y.natAbs.log2 < 1920) : Sm (.lst [.int x, .int y]) := by
  refine ⟨?_, ?_, by simp [dpt, dpts]⟩
  · simp only [sml, smls, and_true]; exact ⟨hx, hy⟩
  · simp only [wgt, wgts]; split <;> split <;> omega
end Sq

set_option Elab.async false
set_option maxRecDepth 100000
set_option maxHeartbeats 4000000
set_option linter.all false
/-! What the laws of rules draw. -/
namespace Sq
open PySem L2
theorem lm1 : (1 ≤ LIM) = True := by simp [LIM]
theorem lm2 : (2 ≤ LIM) = True := by simp [LIM]
theorem lm3 : (3 ≤ LIM) = True := by simp [LIM]
theorem lm4 : (4 ≤ LIM) = True := by simp [LIM]
theorem lm6 : (6 ≤ LIM) = True := by simp [LIM]
theorem max2 {i j : Int} {S : Sto} {Q : D → Sto → Prop} : fMaxL [.lst [.int i, .int j]] S Q = Q (.int (if i < j then j else i)) S := by
  unfold fMaxL
  simp only [view, intsD, onS_some]
  apply propext
  constructor
  · intro h
    refine h.2 _ ?_ ?_
    · split <;> simp
    · intro y hy
      simp only [List.mem_cons, List.not_mem_nil, or_false] at hy
      split <;> omega
  · intro h
    refine ⟨by simp, fun m hm hy => ?_⟩
    have h1 := hy i (by simp)
    have h2 := hy j (by simp)
    simp only [List.mem_cons, List.not_mem_nil, or_false] at hm
    have : m = if i < j then j else i := by split <;> omega
    rw [this]; exact h
theorem min2 {i j : Int} {S : Sto} {Q : D → Sto → Prop} : fMinL [.lst [.int i, .int j]] S Q = Q (.int (if j < i then j else i)) S := by
  unfold fMinL
  simp only [view, intsD, onS_some]
  apply propext
  constructor
  · intro h
    refine h.2 _ ?_ ?_
    · split <;> simp
    · intro y hy
      simp only [List.mem_cons, List.not_mem_nil, or_false] at hy
      split <;> omega
  · intro h
    refine ⟨by simp, fun m hm hy => ?_⟩
    have h1 := hy i (by simp)
    have h2 := hy j (by simp)
    simp only [List.mem_cons, List.not_mem_nil, or_false] at hm
    have : m = if j < i then j else i := by split <;> omega
    rw [this]; exact h
local macro_rules | `(tactic| walk_at "sq") => `(tactic| simp only [↓wSeq, ↓lm1, ↓lm2, ↓lm3, ↓lm4, ↓lm6, ↓max2, ↓min2, ↓fPow, ↓wNeg, ↓wAsg, ↓wVar, ↓wC, ↓wOp, ↓wTest, ↓wIfS, ↓wRet, ↓wRetN, ↓wIf, ↓wCall, ↓wCons, ↓wNil, ↓wName, ↓wGTup, ↓wGCons, ↓wGNil, ↓wPar, ↓wTup, ↓wLst, ↓wAnd, ↓wOr, ↓wNot, ↓wTru, ↓tru, ↓wAndV, ↓wOrV, ↓wNotV, ↓wSkip, ↓wDrop, ↓fAdd, ↓fSub, ↓fMod, ↓fMul, ↓fMulA, ↓fDiv, ↓fEq, ↓fEqB, ↓fNe, ↓fCmp, ↓fI, ↓fIsN, ↓fNotN, ↓isNon, ↓fLen, ↓lenS, ↓fAbs, ↓fMax, ↓fMax2, ↓fMin, ↓fMin2, ↓fInt, ↓fIx, ↓fIn, ↓scV, ↓scVs, ↓wB, ↓wIsB, ↓wIsO, ↓kindT, ↓kindIs, ↓wFld, ↓atts, ↓wMeth, ↓wCallO, ↓wProp, ↓wSetA, ↓putA, ↓wNever, ↓gt, ↓st, ↓res_i, ↓res_b, ↓res_s, ↓res_n, ↓res_t, ↓res_l, ↓res_d, ↓res_c, ↓res_scr, ↓view_i, ↓view_b, ↓view_s, ↓view_n, ↓view_t, ↓view_l, ↓view_d, ↓view_c, ↓Rt.res, ↓Rt.view, ↓onS_some, ↓onS_none, ↓ro, ↓List.map_cons, ↓List.map_nil, ↓List.length_cons, ↓List.length_nil, ↓List.cons_append, ↓List.nil_append, ↓List.replicate_succ, ↓List.replicate_zero, Nat.reduceAdd, Nat.reduceSub, ↓Nat.add_zero, ↓Nat.zero_add, ↓Nat.sub_self, ↓so_inj, ↓so_beq, ↓at0, ↓at1, ↓at2, ↓at3, ↓gx0, ↓gx1, ↓gx2, ↓gx3, ↓nc0, ↓nc1, ↓nc2, ↓nc3, ↓nc4, ↓nc6, String.reduceBEq, ↓ix40, ↓ix41, ↓ix42, ↓set40, ↓set41, ↓set42, ↓List.set_set, ↓Bool.true_or, ↓Bool.or_true, ↓Bool.false_or, ↓Bool.or_false, ↓Bool.and_true, ↓Bool.true_and, ↓Bool.and_false, ↓Bool.false_and, ↓inV, ↓eqV, ↓List.any_cons, ↓List.any_nil, Int.reduceLE, Int.reduceLT, Int.reduceEq, String.reduceEq, ↓decide_true, ↓decide_false, ↓if_true, ↓if_false, ↓Bool.not_true, ↓Bool.not_false, reduceIte, ↓true_and, ↓and_true, ↓false_and, ↓and_false, ↓Bool.false_eq_true, ↓ite_true, ↓ite_false, reduceCtorEq])
local macro_rules | `(tactic| walk_at "sqh") => `(tactic| simp only [↓wSeq, ↓lm1, ↓lm2, ↓lm3, ↓lm4, ↓lm6, ↓max2, ↓min2, ↓fPow, ↓wNeg, ↓wAsg, ↓wVar, ↓wC, ↓wOp, ↓wTest, ↓wIfS, ↓wRet, ↓wRetN, ↓wIf, ↓wCall, ↓wCons, ↓wNil, ↓wName, ↓wGTup, ↓wGCons, ↓wGNil, ↓wPar, ↓wTup, ↓wLst, ↓wAnd, ↓wOr, ↓wNot, ↓wTru, ↓tru, ↓wAndV, ↓wOrV, ↓wNotV, ↓wSkip, ↓wDrop, ↓fAdd, ↓fSub, ↓fMod, ↓fMul, ↓fMulA, ↓fDiv, ↓fEq, ↓fEqB, ↓fNe, ↓fCmp, ↓fI, ↓fIsN, ↓fNotN, ↓isNon, ↓fLen, ↓lenS, ↓fAbs, ↓fMax, ↓fMax2, ↓fMin, ↓fMin2, ↓fInt, ↓fIx, ↓fIn, ↓scV, ↓scVs, ↓wB, ↓wIsB, ↓wIsO, ↓kindT, ↓kindIs, ↓wFld, ↓atts, ↓wMeth, ↓wCallO, ↓wProp, ↓wSetA, ↓putA, ↓wNever, ↓gt, ↓st, ↓res_i, ↓res_b, ↓res_s, ↓res_n, ↓res_t, ↓res_l, ↓res_d, ↓res_c, ↓res_scr, ↓view_i, ↓view_b, ↓view_s, ↓view_n, ↓view_t, ↓view_l, ↓view_d, ↓view_c, ↓Rt.res, ↓Rt.view, ↓onS_some, ↓onS_none, ↓ro, ↓List.map_cons, ↓List.map_nil, ↓List.length_cons, ↓List.length_nil, ↓List.cons_append, ↓List.nil_append, ↓List.replicate_succ, ↓List.replicate_zero, Nat.reduceAdd, Nat.reduceSub, ↓Nat.add_zero, ↓Nat.zero_add, ↓Nat.sub_self, ↓so_inj, ↓so_beq, ↓at0, ↓at1, ↓at2, ↓at3, ↓gx0, ↓gx1, ↓gx2, ↓gx3, ↓nc0, ↓nc1, ↓nc2, ↓nc3, ↓nc4, ↓nc6, String.reduceBEq, ↓ix40, ↓ix41, ↓ix42, ↓set40, ↓set41, ↓set42, ↓List.set_set, ↓Bool.true_or, ↓Bool.or_true, ↓Bool.false_or, ↓Bool.or_false, ↓Bool.and_true, ↓Bool.true_and, ↓Bool.and_false, ↓Bool.false_and, ↓inV, ↓eqV, ↓List.any_cons, ↓List.any_nil, Int.reduceLE, Int.reduceLT, Int.reduceEq, String.reduceEq, ↓decide_true, ↓decide_false, ↓if_true, ↓if_false, ↓Bool.not_true, ↓Bool.not_false, reduceIte, ↓true_and, ↓and_true, ↓false_and, ↓and_false, ↓Bool.false_eq_true, ↓ite_true, ↓ite_false, reduceCtorEq, ↓gt_st, ↓st_length, Nat.reduceEqDiff, Nat.reduceLT, Int.reduceToNat, Int.reduceEq, ↓List.length_map, ↓List.append_nil, *])
def Rt.le (B : Int) : Rt → Prop
  | .at t _ => t ≤ B
  | .or a b => a.le B ∧ b.le B
  | .and a b => a.le B ∧ b.le B
def sp_q_draw_size : FSp := fun ds S Q => ∃ (k : Nat) (top sc : Int), ds = [.h k, .int top, .int sc] ∧ S[k]? = some .bag ∧ 0 < top ∧ top ≤ 10 ^ 60 ∧ 1 ≤ sc ∧ sc ≤ 10 ^ 60 ∧ ∀ v : Int, 1 ≤ v → v ≤ top * sc → Q (.int v) S
def sp_q_give_n (n : Nat) : FSp := fun ds S Q => ∃ (r : Rt) (a : Int), ds = [r.d, .int a] ∧ r.ok ∧ r.dep ≤ n ∧ Q (.int (given r a)) S
def sp_q_give : FSp := sp_q_give_n 6
def sp_q_draw_rule : FSp := fun ds S Q => ∃ (k : Nat) (top sc m : Int), ds = [.h k, .int top, .int sc, .int m] ∧ S[k]? = some .bag ∧ 0 < top ∧ top ≤ 10 ^ 60 ∧ 1 ≤ sc ∧ sc ≤ 10 ^ 60 ∧ 1 ≤ m ∧ m ≤ 1000 ∧ ∀ r : Rt, r.ok → (r.num : Int) = m → r.le (top * sc) → Q r.d S
def sp_q_made_n (n : Nat) : FSp := fun ds S Q => ∃ (k : Nat) (r : Rt), ds = [.h k, r.d] ∧ S[k]? = some .bag ∧ r.ok ∧ r.num ≤ 6 ∧ r.dep ≤ n ∧ lowS S ∧ Q (rule r) S
def sp_q_made : FSp := sp_q_made_n 6
def bds : Rt → List Int
  | .at t q => [max t q]
  | .or a b => bds a ++ bds b
  | .and a b => bds a ++ bds b
def sp_q_bounds_n (n : Nat) : FSp := fun ds S Q => ∃ r : Rt, ds = [r.d] ∧ r.num ≤ 1000 ∧ r.dep ≤ n ∧ Q (.lst ((bds r).map D.int)) S
def sp_q_bounds : FSp := sp_q_bounds_n 6
def sp_q_amounts : FSp := fun ds S Q => ∃ (k : Nat) (r : Rt) (m : Int), ds = [.h k, r.d, .int m] ∧ S[k]? = some .bag ∧ r.ok ∧ r.num ≤ 6 ∧ r.le (10 ^ 60) ∧ 0 ≤ m ∧ m ≤ 1000 ∧ lowS S ∧ ∀ xs : List Int, xs.length ≤ 2000 → (∀ x, x ∈ xs → 0 ≤ x ∧ x ≤ 10 ^ 61) → Q (.lst (xs.map D.int)) S
theorem bds_len : ∀ r : Rt, (bds r).length = r.num
  | .at _ _ => rfl
  | .or a b => by simp [bds, Rt.num, bds_len a, bds_len b]
  | .and a b => by simp [bds, Rt.num, bds_len a, bds_len b]
theorem bds_in {B : Int} (hB : 6 ≤ B) : ∀ r : Rt, r.ok → r.le B → ∀ x, x ∈ bds r → 1 ≤ x ∧ x ≤ B
  | .at t q, h, l, x, hx => by
    simp only [bds, List.mem_singleton] at hx
    obtain ⟨h1, h2, h3⟩ := h
    simp only [Rt.le] at l
    omega
  | .or a b, h, l, x, hx => by
    simp only [bds, List.mem_append] at hx
    rcases hx with hx | hx
    · exact bds_in hB a h.1 l.1 x hx
    · exact bds_in hB b h.2 l.2 x hx
  | .and a b, h, l, x, hx => by
    simp only [bds, List.mem_append] at hx
    rcases hx with hx | hx
    · exact bds_in hB a h.1 l.1 x hx
    · exact bds_in hB b h.2 l.2 x hx
/-- _law_draw_size: slots 0 _law_bag_here 1 _law_top 2 _law_scale -/
def w_q_draw_size : WS :=
  (wRet (wOp fMulA (wOp fAdd (wC (.int 1)) (wCall 2 sp_q_take [] (wCons (wVar 0) (wCons (wVar 1) wNil)))) (wOp fIx (wLst (wCons (wC (.int 1)) (wCons (wVar 2) wNil))) (wCall 2 sp_q_take [] (wCons (wVar 0) (wCons (wC (.int 2)) wNil))))))
def n_q_draw_size : List Str := ["_law_bag_here", "_law_top", "_law_scale"]
/-- _law_give: slots 0 _law_tree 1 _law_amount 2 _law_word 3 _law_one 4 _law_other 5 _law_pair -/
def w_q_give (sp_q_give : FSp) : WS :=
  (wSeq (wAsg (wVar 0) (wGTup 3 (wGCons (wName 2) (wGCons (wName 3) (wGCons (wName 4) wGNil))))) (wSeq (wIfS (wTest (wOp fEq (wVar 2) (wC (.str "at")))) (wRet (wIf (wTest (wOp (fCmp fun i j => decide (j ≤ i)) (wVar 1) (wVar 3))) (wOp fSub (wVar 1) (wOp fMod (wB fInt (wCons (wVar 1) wNil)) (wVar 4))) (wC (.int 0)))) wSkip) (wSeq (wAsg (wLst (wCons (wCall 2 sp_q_give [] (wCons (wVar 3) (wCons (wVar 1) wNil))) (wCons (wCall 2 sp_q_give [] (wCons (wVar 4) (wCons (wVar 1) wNil))) wNil))) (wName 5)) (wRet (wIf (wTest (wOp fEq (wVar 2) (wC (.str "or")))) (wB fMax (wCons (wVar 5) wNil)) (wB fMin (wCons (wVar 5) wNil)))))))
def n_q_give : List Str := ["_law_tree", "_law_amount", "_law_word", "_law_one", "_law_other", "_law_pair"]
theorem law_q_draw_size (ds : List D) (S : Sto) (Φ : D → Sto → Prop) (h : sp_q_draw_size ds S Φ) : w_q_draw_size { nx := fun _ S' => Φ .non S', rt := Φ } (ro n_q_draw_size ds) S := by
  obtain ⟨k, top, sc, rfl, hS, t1, t2, s1, s2, q⟩ := h
  have r0 := res_hb hS
  unfold w_q_draw_size n_q_draw_size
  walk_at "sqh"
  refine ⟨k, top, rfl, hS, t1, t2, fun v v0 v1 => ?_⟩
  walk_at "sqh"
  refine ⟨k, 2, rfl, hS, by decide, by decide, fun u u0 u1 => ?_⟩
  have hu : u = 0 ∨ u = 1 := by omega
  rcases hu with rfl | rfl
  · walk_at "sqh"
    refine ⟨(wide_mul (sm (by omega) (by omega)) (sm (by omega) (by omega)) (by decide) (by decide) (by decide)).ok, q _ (by omega) ?_⟩
    have h : (1 + v) * 1 ≤ top * sc := Int.mul_le_mul (by omega) s1 (by decide) (by omega)
    omega
  · walk_at "sqh"
    refine ⟨(wide_mul (sm (by omega) (by omega)) (sm (by omega) (by omega)) (by decide) (by decide) (by decide)).ok, q _ ?_ (Int.mul_le_mul_of_nonneg_right (by omega) (by omega))⟩
    have h : 1 * 1 ≤ (1 + v) * sc := Int.mul_le_mul (by omega) s1 (by decide) (by omega)
    omega
theorem law_q_give (n : Nat) (ds : List D) (S : Sto) (Φ : D → Sto → Prop) (h : sp_q_give_n (n + 1) ds S Φ) : w_q_give (sp_q_give_n n) { nx := fun _ S' => Φ .non S', rt := Φ } (ro n_q_give ds) S := by
  obtain ⟨r, a, rfl, ok, hd, q⟩ := h
  cases r with
  | «at» t p =>
    unfold w_q_give n_q_give Rt.d
    walk_at "sqh"
    obtain ⟨h1, h2, h3⟩ := ok
    unfold given at q
    by_cases z : t ≤ a
    · rw [if_pos z] at q
      simp only [z, decide_true, if_true]
      exact ⟨by omega, q⟩
    · rw [if_neg z] at q
      simp only [z, decide_false, Bool.false_eq_true, if_false]
      exact q
  | or x y =>
    unfold w_q_give n_q_give Rt.d
    walk_at "sqh"
    simp only [Rt.dep] at hd
    refine ⟨x, a, rfl, ok.1, by omega, y, a, rfl, ok.2, by omega, ?_⟩
    walk_at "sqh"
    simpa [given] using q
  | and x y =>
    unfold w_q_give n_q_give Rt.d
    walk_at "sqh"
    simp only [Rt.dep] at hd
    refine ⟨x, a, rfl, ok.1, by omega, y, a, rfl, ok.2, by omega, ?_⟩
    walk_at "sqh"
    simpa [given] using q
/-- _law_bounds: slots 0 _law_tree 1 _law_word 2 _law_one 3 _law_other -/
def w_q_bounds (sp_q_bounds : FSp) : WS :=
  (wSeq (wAsg (wVar 0) (wGTup 3 (wGCons (wName 1) (wGCons (wName 2) (wGCons (wName 3) wGNil))))) (wRet (wIf (wTest (wOp fEq (wVar 1) (wC (.str "at")))) (wLst (wCons (wB fMax (wCons (wVar 2) (wCons (wVar 3) wNil))) wNil)) (wOp fAdd (wCall 1 sp_q_bounds [] (wCons (wVar 2) wNil)) (wCall 1 sp_q_bounds [] (wCons (wVar 3) wNil))))))
def n_q_bounds : List Str := ["_law_tree", "_law_word", "_law_one", "_law_other"]
theorem law_q_bounds (n : Nat) (ds : List D) (S : Sto) (Φ : D → Sto → Prop) (h : sp_q_bounds_n (n + 1) ds S Φ) : w_q_bounds (sp_q_bounds_n n) { nx := fun _ S' => Φ .non S', rt := Φ } (ro n_q_bounds ds) S := by
  obtain ⟨r, rfl, hn, hd, q⟩ := h
  cases r with
  | «at» t p =>
    unfold w_q_bounds n_q_bounds
    simp only [Rt.d, bds] at q ⊢
    walk_at "sqh"
    have e : (if p > t then p else t) = max t p := by split <;> omega
    simpa [e] using q
  | or x y =>
    unfold w_q_bounds n_q_bounds Rt.d
    walk_at "sqh"
    simp only [Rt.dep, Rt.num] at hd hn
    refine ⟨x, rfl, by omega, by omega, y, rfl, by omega, by omega, ?_⟩
    walk_at "sqh"
    refine ⟨?_, by simpa [bds] using q⟩
    rw [bds_len, bds_len]; unfold LIM; omega
  | and x y =>
    unfold w_q_bounds n_q_bounds Rt.d
    walk_at "sqh"
    simp only [Rt.dep, Rt.num] at hd hn
    refine ⟨x, rfl, by omega, by omega, y, rfl, by omega, by omega, ?_⟩
    walk_at "sqh"
    refine ⟨?_, by simpa [bds] using q⟩
    rw [bds_len, bds_len]; unfold LIM; omega
/-- _law_draw_rule: slots 0 _law_bag_here 1 _law_top 2 _law_scale 3 _law_many 4 _law_some 5 _law_k 6 _law_at -/
def w_q_draw_rule_elt1 : WE :=
  (wTup (wCons (wC (.str "at")) (wCons (wCall 3 sp_q_draw_size [] (wCons (wVar 0) (wCons (wVar 1) (wCons (wVar 2) wNil)))) (wCons (wOp fAdd (wC (.int 1)) (wCall 2 sp_q_take [] (wCons (wVar 0) (wCons (wC (.int 6)) wNil)))) wNil))))
def w_q_draw_rule_p1 : WS :=
  (wAsg (wCall 2 sp_q_take [] (wCons (wVar 0) (wCons (wOp fSub (wB fLen (wCons (wVar 4) wNil)) (wC (.int 1))) wNil))) (wName 6))
def w_q_draw_rule_p2 : WS :=
  (wAsg (wOp fAdd (wOp fAdd (wSl (wVar 4) wNoPart (wPart (wVar 6))) (wLst (wCons (wTup (wCons (wOp fIx (wLst (wCons (wC (.str "or")) (wCons (wC (.str "and")) wNil))) (wCall 2 sp_q_take [] (wCons (wVar 0) (wCons (wC (.int 2)) wNil)))) (wCons (wOp fIx (wVar 4) (wVar 6)) (wCons (wOp fIx (wVar 4) (wOp fAdd (wVar 6) (wC (.int 1)))) wNil)))) wNil))) (wSl (wVar 4) (wPart (wOp fAdd (wVar 6) (wC (.int 2)))) wNoPart)) (wName 4))
def w_q_draw_rule_loop2 : WS :=
  (wSeq (w_q_draw_rule_p1) (w_q_draw_rule_p2))
def w_q_draw_rule_0 : WS :=
  (wAsg (wLc (wRng1 (wCons (wVar 3) wNil)) (wName 5) wYes (w_q_draw_rule_elt1) [5]) (wName 4))
def w_q_draw_rule_1 : WS :=
  (wWhile (wTest (wOp (fCmp fun i j => decide (j < i)) (wB fLen (wCons (wVar 4) wNil)) (wC (.int 1)))) (w_q_draw_rule_loop2))
def w_q_draw_rule_2 : WS :=
  (wRet (wOp fIx (wVar 4) (wC (.int 0))))
def w_q_draw_rule : WS :=
  (wSeq (w_q_draw_rule_0) (wSeq (w_q_draw_rule_1) (w_q_draw_rule_2)))
def n_q_draw_rule : List Str := ["_law_bag_here", "_law_top", "_law_scale", "_law_many", "_law_some", "_law_k", "_law_at"]
/-- _law_made: slots 0 _law_bag_here 1 _law_tree 2 _law_word 3 _law_one 4 _law_other 5 _law_first 6 _law_second -/
def w_q_made (sp_q_made : FSp) : WS :=
  (wSeq (wAsg (wVar 1) (wGTup 3 (wGCons (wName 2) (wGCons (wName 3) (wGCons (wName 4) wGNil))))) (wSeq (wIfS (wTest (wOp fEq (wCall 2 sp_q_take [] (wCons (wVar 0) (wCons (wC (.int 2)) wNil))) (wC (.int 0)))) (wRet (wMakeF "Rule" 2 sp_Rule_init [] (wCons (wVar 1) wNil))) wSkip) (wSeq (wIfS (wTest (wOp fEq (wVar 2) (wC (.str "at")))) (wRet (wIf (wTest (wOp fEq (wVar 4) (wC (.int 1)))) (wCall 2 sp_at_least [.int 1] (wCons (wVar 3) wNil)) (wCall 2 sp_at_least [] (wCons (wVar 3) (wCons (wVar 4) wNil))))) wSkip) (wSeq (wPar 5 6 (wCons (wCall 2 sp_q_made [] (wCons (wVar 0) (wCons (wVar 3) wNil))) (wCons (wCall 2 sp_q_made [] (wCons (wVar 0) (wCons (wVar 4) wNil))) wNil))) (wRet (wIf (wTest (wOp fEq (wVar 2) (wC (.str "or")))) (wOp (fOwn "Rule" sp_Rule_or) (wVar 5) (wVar 6)) (wOp (fOwn "Rule" sp_Rule_and) (wVar 5) (wVar 6))))))))
def n_q_made : List Str := ["_law_bag_here", "_law_tree", "_law_word", "_law_one", "_law_other", "_law_first", "_law_second"]
/-- _law_amounts: slots 0 _law_bag_here 1 _law_tree 2 _law_many 3 _law_bounds_here 4 _law_found 5 _law_k 6 _law_near -/
def w_q_amounts_p1 : WS :=
  (wAsg (wOp fSub (wOp fAdd (wOp fIx (wVar 3) (wCall 2 sp_q_take [] (wCons (wVar 0) (wCons (wB fLen (wCons (wVar 3) wNil)) wNil)))) (wCall 2 sp_q_take [] (wCons (wVar 0) (wCons (wC (.int 70)) wNil)))) (wC (.int 9))) (wName 6))
def w_q_amounts_p2 : WS :=
  (wDrop (wApp (wVar 4) (wOp fIx (wLst (wCons (wB fMax (wCons (wC (.int 0)) (wCons (wVar 6) wNil))) (wCons (wCall 2 sp_q_take [] (wCons (wVar 0) (wCons (wOp fPow (wC (.int 10)) (wC (.int 30))) wNil))) (wCons (wCall 2 sp_q_take [] (wCons (wVar 0) (wCons (wC (.int 80)) wNil))) wNil)))) (wCall 2 sp_q_take [] (wCons (wVar 0) (wCons (wC (.int 3)) wNil))))))
def w_q_amounts_loop1 : WS :=
  (wSeq (w_q_amounts_p1) (w_q_amounts_p2))
def w_q_amounts_0 : WS :=
  (wPar 3 4 (wCons (wCall 1 sp_q_bounds [] (wCons (wVar 1) wNil)) (wCons (wLstM (wCons (wC (.int 0)) (wCons (wC (.int 1)) wNil))) wNil)))
def w_q_amounts_1 : WS :=
  (wFor (wRng1 (wCons (wVar 2) wNil)) (wName 5) (w_q_amounts_loop1))
def w_q_amounts_2 : WS :=
  (wRet (wVar 4))
def w_q_amounts : WS :=
  (wSeq (w_q_amounts_0) (wSeq (w_q_amounts_1) (w_q_amounts_2)))
def n_q_amounts : List Str := ["_law_bag_here", "_law_tree", "_law_many", "_law_bounds_here", "_law_found", "_law_k", "_law_near"]
/-! ### a rule is drawn -/
section
variable {k : Nat} {S : Sto} {top sc : Int}
/-- trees that stand beside each other -/
structure Good (B : Int) (M : Int) (rs : List Rt) : Prop where
  ok : ∀ r, r ∈ rs → r.ok
  le : ∀ r, r ∈ rs → r.le B
  num : ((rs.map Rt.num).sum : Int) = M
  len : rs.length ≤ 1000
theorem rule_elt {ρ : Ro} {Q : D → Sto → Prop} (hS : S[k]? = some .bag) (t1 : 0 < top) (t2 : top ≤ 10 ^ 60) (s1 : 1 ≤ sc) (s2 : sc ≤ 10 ^ 60) (g0 : gt ρ 0 = some (.h k)) (g1 : gt ρ 1 = some (.int top)) (g2 : gt ρ 2 = some (.int sc))
    (q : ∀ t p : Int, (Rt.at t p).ok → (Rt.at t p).le (top * sc) → Q (Rt.at t p).d S) : w_q_draw_rule_elt1 ρ S Q := by
  have r0 := res_hb hS
  unfold w_q_draw_rule_elt1
  walk_at "sqh"
  refine ⟨k, top, sc, rfl, hS, t1, t2, s1, s2, fun v v1 v2 => ⟨k, 6, by rw [r0], hS, by decide, by decide, fun u u0 u1 => ?_⟩⟩
  exact q v (1 + u) ⟨v1, by omega, by omega⟩ v2
theorem rule_comp {ρ : Ro} {Q : List D → Sto → Prop} (hS : S[k]? = some .bag) (t1 : 0 < top) (t2 : top ≤ 10 ^ 60) (s1 : 1 ≤ sc) (s2 : sc ≤ 10 ^ 60) (g0 : gt ρ 0 = some (.h k)) (g1 : gt ρ 1 = some (.int top)) (g2 : gt ρ 2 = some (.int sc)) :
    ∀ (xs : List D) (rs : List Rt) (M : Int), M + xs.length ≤ 1000 → Good (top * sc) M rs → (rs.length : Int) = M →
    (∀ rs : List Rt, Good (top * sc) (M + xs.length) rs → (rs.length : Int) = M + xs.length → Q (rs.map Rt.d) S) → compD (wName 5) wYes w_q_draw_rule_elt1 ρ Q xs (rs.map Rt.d) S
  | [], rs, M, hM, g, hl, q => by
    unfold compD
    have e : M + (([] : List D).length : Int) = M := by simp
    exact q rs (by rw [e]; exact g) (by rw [e]; exact hl)
  | x :: xs, rs, M, hM, g, hl, q => by
    refine compD_y ?_
    rw [List.length_cons] at hM
    refine rule_elt hS t1 t2 s1 s2 (by rw [gt_st]; simp [g0]) (by rw [gt_st]; simp [g1]) (by rw [gt_st]; simp [g2]) fun t p ok le => ?_
    refine ⟨by rw [List.length_map]; unfold LIM; have := g.len; omega, ?_⟩
    have e : rs.map Rt.d ++ [(Rt.at t p).d] = (rs ++ [Rt.at t p]).map Rt.d := by simp
    rw [e]
    refine rule_comp hS t1 t2 s1 s2 g0 g1 g2 xs (rs ++ [Rt.at t p]) (M + 1) (by omega) ⟨fun r hr => ?_, fun r hr => ?_, ?_, ?_⟩ (by rw [List.length_append, List.length_singleton]; omega) fun rs' h' l' => ?_
    · rw [List.mem_append, List.mem_singleton] at hr
      rcases hr with h | rfl
      · exact g.ok r h
      · exact ok
    · rw [List.mem_append, List.mem_singleton] at hr
      rcases hr with h | rfl
      · exact g.le r h
      · exact le
    · have := g.num
      rw [List.map_append, List.sum_append]
      simp only [List.map_cons, List.map_nil, List.sum_cons, List.sum_nil, Rt.num]
      omega
    · rw [List.length_append, List.length_singleton]; omega
    · have e2 : M + 1 + (xs.length : Int) = M + ((x :: xs).length : Int) := by rw [List.length_cons]; omega
      rw [e2] at h' l'
      exact q rs' h' l'
theorem cut_take {α : Type} (l r : List α) : cutD (l ++ r) none (some (l.length : Int)) = l := by
  unfold cutD
  rw [HT.sIx_none, HT.sIx_nat, List.drop_zero, Nat.sub_zero, Nat.min_eq_left (by simp), List.take_left]
theorem cut_drop {α : Type} (l r : List α) {n : Int} (h : n = l.length) : cutD (l ++ r) (some n) none = r := by
  subst h
  unfold cutD
  rw [HT.sIx_none, HT.sIx_nat, Nat.min_eq_left (by simp), List.drop_left, List.length_append, Nat.add_sub_cancel_left, List.take_length]
theorem split2 {α : Type} {xs : List α} {j : Nat} (h : j + 1 < xs.length) : ∃ l a b r, xs = l ++ a :: b :: r ∧ l.length = j := by
  refine ⟨xs.take j, xs[j], xs[j + 1], xs.drop (j + 2), ?_, by rw [List.length_take]; omega⟩
  rw [← List.drop_eq_getElem_cons, ← List.drop_eq_getElem_cons, List.take_append_drop]
theorem rule_join {ρ : Ro} {κ : WK} {rs : List Rt} {M : Int} (hS : S[k]? = some .bag) (hρ : ρ.length = 7) (g0 : gt ρ 0 = some (.h k)) (g4 : gt ρ 4 = some (.lst (rs.map Rt.d))) (g : Good (top * sc) M rs) (hl : 1 < rs.length)
    (q : ∀ (ρ' : Ro) (rs' : List Rt), ρ'.length = 7 → gt ρ' 0 = some (.h k) → gt ρ' 4 = some (.lst (rs'.map Rt.d)) → Good (top * sc) M rs' → rs' ≠ [] → rs'.length < rs.length → κ.nx ρ' S) : w_q_draw_rule_loop2 κ ρ S := by
  have r0 := res_hb hS
  unfold w_q_draw_rule_loop2
  rw [wSeq]
  have p2 : ∀ v : Int, 0 ≤ v → v < rs.length - 1 → w_q_draw_rule_p2 κ (st ρ 6 (some (.int v))) S := by
    intro v v0 v1
    obtain ⟨j, rfl⟩ := Int.eq_ofNat_of_zero_le v0
    obtain ⟨l, a, b, r, e, hj⟩ := split2 (xs := rs) (j := j) (by omega)
    have e1 : cutD (rs.map Rt.d) none (some (j : Int)) = l.map Rt.d := by
      rw [e, List.map_append, ← hj, ← List.length_map (as := l) Rt.d, cut_take]
    have e2 : cutD (rs.map Rt.d) (some ((j : Int) + 2)) none = r.map Rt.d := by
      have z : rs.map Rt.d = (l ++ [a, b]).map Rt.d ++ r.map Rt.d := by rw [e]; simp
      rw [z]
      refine cut_drop _ _ ?_
      simp; omega
    have e3 : atI (rs.map Rt.d) (j : Int) = some a.d := by rw [atN, e, ← hj]; simp
    have e4 : atI (rs.map Rt.d) ((j : Int) + 1) = some b.d := by
      have z : (j : Int) + 1 = ((j + 1 : Nat) : Int) := by omega
      rw [z, atN, e, ← hj]
      simp
    have hm : rs.length = l.length + r.length + 2 := by rw [e]; simp; omega
    have la : a ∈ rs := by rw [e]; simp
    have lb : b ∈ rs := by rw [e]; simp
    have fin : ∀ c : Rt, c.ok → c.le (top * sc) → c.num = a.num + b.num → κ.nx (st (st ρ 6 (some (.int j))) 4 (some (.lst ((l ++ c :: r).map Rt.d)))) S := fun c c1 c2 c3 => by
      refine q _ (l ++ c :: r) (by rw [st_length, st_length]; exact hρ) (by rw [gt_st, if_neg (by omega), gt_st, if_neg (by omega)]; exact g0) (by rw [gt_st, if_pos ⟨rfl, by rw [st_length, hρ]; decide⟩]) ⟨fun x hx => ?_, fun x hx => ?_, ?_, by have := g.len; simp; omega⟩ (by simp) (by simp; omega)
      · have hx : x ∈ l ∨ x = c ∨ x ∈ r := by simpa using hx
        rcases hx with h | rfl | h
        · exact g.ok x (by rw [e]; simp [h])
        · exact c1
        · exact g.ok x (by rw [e]; simp [h])
      · have hx : x ∈ l ∨ x = c ∨ x ∈ r := by simpa using hx
        rcases hx with h | rfl | h
        · exact g.le x (by rw [e]; simp [h])
        · exact c2
        · exact g.le x (by rw [e]; simp [h])
      · have := g.num
        rw [e] at this
        simp only [List.map_append, List.map_cons, List.sum_append, List.sum_cons] at this ⊢
        omega
    have len := g.len
    have ga := g.ok a la
    have gb := g.ok b lb
    have ha := g.le a la
    have hb := g.le b lb
    clear e hj la lb
    unfold w_q_draw_rule_p2
    simp only [wAsg, wOp, wSl, wVar, wNoPart, wPart, wLst, wTup, wCons, wNil, wC, wCall, gt_st, hρ, g0, g4, onS_some, res_i, res_l, r0, Nat.reduceEqDiff, Nat.reduceLT, and_true, and_false, false_and, if_false, if_true, true_and, reduceIte, fSl, view_l, e1, lm1, lm2, List.length_cons, List.length_nil, Nat.reduceAdd, List.append_nil]
    refine ⟨k, 2, rfl, hS, by decide, by decide, fun u u0 u1 => ?_⟩
    have hu : u = 0 ∨ u = 1 := by omega
    rcases hu with rfl | rfl
    · walk_at "sqh"
      refine ⟨by unfold LIM; omega, by rw [List.length_append, List.length_map, List.length_singleton]; unfold LIM; omega, ?_⟩
      have z := fin (.or a b) ⟨ga, gb⟩ ⟨ha, hb⟩ rfl
      simpa [Rt.d] using z
    · walk_at "sqh"
      refine ⟨by unfold LIM; omega, by rw [List.length_append, List.length_map, List.length_singleton]; unfold LIM; omega, ?_⟩
      have z := fin (.and a b) ⟨ga, gb⟩ ⟨ha, hb⟩ rfl
      simpa [Rt.d] using z
  unfold w_q_draw_rule_p1
  have len := g.len
  walk_at "sqh"
  refine ⟨k, _, rfl, hS, by omega, by omega, fun v v0 v1 => p2 v v0 v1⟩
end
theorem law_q_draw_rule (ds : List D) (S : Sto) (Φ : D → Sto → Prop) (h : sp_q_draw_rule ds S Φ) : w_q_draw_rule { nx := fun _ S' => Φ .non S', rt := Φ } (ro n_q_draw_rule ds) S := by
  obtain ⟨k, top, sc, m, rfl, hS, t1, t2, s1, s2, m1, m2, q⟩ := h
  have r0 := res_hb hS
  unfold w_q_draw_rule n_q_draw_rule
  rw [wSeq]
  unfold w_q_draw_rule_0
  simp only [wAsg, wLc, wRng1, wCons, wNil, wVar, ro, List.map_cons, List.map_nil, List.length_cons, List.length_nil, List.cons_append, List.nil_append, gt, gx3, List.getElem?_cons_succ, List.getElem?_cons_zero, onS_some, res_i]
  have hb : -BIG ≤ m ∧ m < BIG := by unfold BIG; omega
  refine ⟨hb.1, hb.2, ?_⟩
  refine rule_comp (rs := []) (M := 0) hS t1 t2 s1 s2 rfl rfl rfl _ (by rw [rngD_length]; omega) ⟨by simp, by simp, rfl, by decide⟩ rfl fun rs g hl => ?_
  rw [rngD_length] at g hl
  unfold w_q_draw_rule_1 wName
  rw [wSeq]
  refine ⟨fun m' ρ S' => S' = S ∧ ρ.length = 7 ∧ gt ρ 0 = some (.h k) ∧ ∃ rs : List Rt, m' = rs.length ∧ rs ≠ [] ∧ gt ρ 4 = some (.lst (rs.map Rt.d)) ∧ Good (top * sc) m rs, ⟨rs.length, rfl, rfl, rfl, rs, rfl, ?_, rfl, ?_⟩, ?_⟩
  · intro z; subst z; simp at hl; omega
  · have e : 0 + (m.toNat : Int) = m := by omega
    rw [e] at g; exact g
  · rintro m' ρ S' ⟨rfl, hρ, g0, rs, rfl, ne, g4, g⟩
    have hp : 0 < rs.length := List.length_pos_iff.mpr ne
    by_cases h1 : 1 < rs.length
    · walk_at "sqh"
      have h2 : (1 : Int) < rs.length := by omega
      simp only [h2, decide_true, if_true]
      refine rule_join hS hρ g0 g4 g h1 fun ρ' rs' a1 a2 a3 a4 a5 a6 => ?_
      exact ⟨rs'.length, a6, rfl, a1, a2, rs', rfl, a5, a3, a4⟩
    · walk_at "sqh"
      have h2 : ¬ (1 : Int) < rs.length := by omega
      simp only [h2, decide_false, Bool.false_eq_true, if_false]
      cases rs with
      | nil => exact (ne rfl).elim
      | cons r t =>
      cases t with
      | cons r2 t => simp at h1
      | nil =>
        unfold w_q_draw_rule_2
        rw [List.map_cons, List.map_nil] at g4
        walk_at "sqh"
        have := g.num
        simp at this
        exact q r (g.ok r (by simp)) this (g.le r (by simp))

/-! ### a rule is made -/
theorem law_q_made (n : Nat) (ds : List D) (S : Sto) (Φ : D → Sto → Prop) (h : sp_q_made_n (n + 1) ds S Φ) : w_q_made (sp_q_made_n n) { nx := fun _ S' => Φ .non S', rt := Φ } (ro n_q_made ds) S := by
  obtain ⟨k, r, rfl, hS, ok, hn, hd, ls, q⟩ := h
  have r0 := res_hb hS
  have mk : ∀ (r : Rt) (Q : D → Sto → Prop), r.ok → r.num ≤ 6 → Q (rule r) S → sp_Rule_init [D.h S.length, r.d] (S ++ [M.ins (Str.ofString "Rule") []]) fun y S2 => y = .non ∧ ∃ fs, S2 = S ++ [.ins "Rule" fs] ∧ lowf S.length fs ∧ (∀ (k : Nat) (m : M), k < S.length → S[k]? = some m → lowM S.length m) ∧ Q (.ins "Rule" fs) S := by
    intro r Q ok hn q
    refine ⟨S.length, r, rfl, by simp, ok, hn, rfl, [("its_tree", r.d)], ?_, ⟨low_tree _ r, trivial⟩, ls, q⟩
    rw [List.set_append_right _ _ (Nat.le_refl _), Nat.sub_self]; rfl
  have oor : ∀ x y : Rt, x.ok → y.ok → x.num + y.num ≤ 6 → Φ (rule (.or x y)) S → fOwn "Rule" sp_Rule_or S (res S (rule x)) (res S (rule y)) Φ := fun x y hx hy h q =>
    ⟨rfl, rfl, x, y, rfl, hx, hy, h, ls, q⟩
  have oand : ∀ x y : Rt, x.ok → y.ok → x.num + y.num ≤ 6 → Φ (rule (.and x y)) S → fOwn "Rule" sp_Rule_and S (res S (rule x)) (res S (rule y)) Φ := fun x y hx hy h q =>
    ⟨rfl, rfl, x, y, rfl, hx, hy, h, ls, q⟩
  cases r with
  | «at» t p =>
    obtain ⟨h1, h2, h3⟩ := id ok
    unfold w_q_made n_q_made wMakeF
    simp only [Rt.d] at q ⊢
    walk_at "sqh"
    refine ⟨k, 2, rfl, hS, by decide, by decide, fun u u0 u1 => ?_⟩
    have hu : u = 0 ∨ u = 1 := by omega
    rcases hu with rfl | rfl
    · walk_at "sqh"
      exact mk (.at t p) _ ok hn q
    · walk_at "sqh"
      by_cases hp : p = 1
      · subst hp
        rw [if_pos (by decide)]
        exact ⟨t, 1, rfl, ok, ls, q⟩
      · rw [if_neg (by simpa using hp)]
        exact ⟨t, p, rfl, ok, ls, q⟩
  | or x y =>
    simp only [Rt.num, Rt.dep] at hn hd
    have := x.num_pos
    have := y.num_pos
    unfold w_q_made n_q_made Rt.d wMakeF
    walk_at "sqh"
    refine ⟨k, 2, rfl, hS, by decide, by decide, fun u u0 u1 => ?_⟩
    have hu : u = 0 ∨ u = 1 := by omega
    rcases hu with rfl | rfl
    · walk_at "sqh"
      exact mk (.or x y) _ ok hn q
    · simp only [view_i, Int.reduceEq, decide_false, Bool.false_eq_true, if_false, r0]
      exact ⟨k, x, rfl, hS, ok.1, by omega, by omega, ls, k, y, by rw [r0], hS, ok.2, by omega, by omega, ls, oor x y ok.1 ok.2 hn q⟩
  | and x y =>
    simp only [Rt.num, Rt.dep] at hn hd
    have := x.num_pos
    have := y.num_pos
    unfold w_q_made n_q_made Rt.d wMakeF
    walk_at "sqh"
    refine ⟨k, 2, rfl, hS, by decide, by decide, fun u u0 u1 => ?_⟩
    have hu : u = 0 ∨ u = 1 := by omega
    rcases hu with rfl | rfl
    · walk_at "sqh"
      exact mk (.and x y) _ ok hn q
    · simp only [view_i, Int.reduceEq, decide_false, Bool.false_eq_true, if_false, r0]
      exact ⟨k, x, rfl, hS, ok.1, by omega, by omega, ls, k, y, by rw [r0], hS, ok.2, by omega, by omega, ls, oand x y ok.1 ok.2 hn q⟩
/-! ### amounts -/
section
variable {k : Nat} {S0 : Sto} {r : Rt}
theorem amounts_turn {ρ : Ro} {κ : WK} {xs : List Int} (hS : S0[k]? = some .bag) (ok : r.ok) (hn : r.num ≤ 6) (le : r.le (10 ^ 60)) (hρ : ρ.length = 7) (g0 : gt ρ 0 = some (.h k)) (g3 : gt ρ 3 = some (.lst ((bds r).map D.int))) (g4 : gt ρ 4 = some (.h S0.length)) (hx : xs.length ≤ 2000)
    (q : ∀ (ρ' : Ro) (x : Int), ρ'.length = 7 → gt ρ' 0 = some (.h k) → gt ρ' 3 = some (.lst ((bds r).map D.int)) → gt ρ' 4 = some (.h S0.length) → 0 ≤ x → x ≤ 10 ^ 61 → κ.nx ρ' (S0 ++ [.lst ((xs ++ [x]).map D.int)])) :
    w_q_amounts_loop1 κ ρ (S0 ++ [.lst (xs.map D.int)]) := by
  have hk : k < S0.length := (List.getElem?_eq_some_iff.mp hS).1
  have hS1 : ∀ m : M, (S0 ++ [m])[k]? = some .bag := fun m => by rw [List.getElem?_append_left hk]; exact hS
  have hL : ∀ m : M, (S0 ++ [m])[S0.length]? = some m := fun m => by rw [List.getElem?_append_right (Nat.le_refl _)]; simp
  have r0 : ∀ m : M, res (S0 ++ [m]) (.h k) = .h k := fun m => res_hb (hS1 m)
  have r1 : ∀ L : List D, res (S0 ++ [.lst L]) (.h S0.length) = .h S0.length := fun L => res_hl (hL _)
  have s1 : ∀ m m' : M, (S0 ++ [m]).set S0.length m' = S0 ++ [m'] := fun m m' => by rw [List.set_append_right _ _ (Nat.le_refl _), Nat.sub_self]; rfl
  have bl := bds_len r
  have bi := bds_in (B := 10 ^ 60) (by decide) r ok le
  have hp := r.num_pos
  unfold w_q_amounts_loop1
  rw [wSeq]
  have p2 : ∀ v : Int, v ≤ 10 ^ 60 + 70 → w_q_amounts_p2 κ (st ρ 6 (some (.int v))) (S0 ++ [.lst (xs.map D.int)]) := by
    intro v hv
    have last : ∀ x : Int, 0 ≤ x → x ≤ 10 ^ 61 → κ.nx (st ρ 6 (some (.int v))) (S0 ++ [.lst ((xs ++ [x]).map D.int)]) := fun x a b =>
      q _ x (by rw [st_length, hρ]) (by rw [gt_st, if_neg (by omega)]; exact g0) (by rw [gt_st, if_neg (by omega)]; exact g3) (by rw [gt_st, if_neg (by omega)]; exact g4) a b
    unfold w_q_amounts_p2 wApp
    clear q
    walk_at "sqh"
    refine ⟨⟨by decide, by decide, by decide⟩, k, _, rfl, hS1 _, by decide, by decide, fun a a0 a1 => ?_⟩
    simp only [r0]
    refine ⟨k, _, rfl, hS1 _, by decide, by decide, fun b b0 b1 => ?_⟩
    simp only [r0]
    refine ⟨k, _, rfl, hS1 _, by decide, by decide, fun c c0 c1 => ?_⟩
    have fin : ∀ x : Int, 0 ≤ x → x ≤ 10 ^ 61 → (List.map D.int xs).length < LIM ∧ κ.nx (st ρ 6 (some (D.int v))) (List.set (S0 ++ [M.lst (List.map D.int xs)]) (List.length S0) (M.lst (List.map D.int xs ++ [D.int x]))) := fun x x0 x1 => by
      refine ⟨by rw [List.length_map]; unfold LIM; omega, ?_⟩
      have z := last x x0 x1
      rw [List.map_append] at z
      rw [s1]
      exact z
    have hc : c = 0 ∨ c = 1 ∨ c = 2 := by omega
    rcases hc with rfl | rfl | rfl
    · simp only [at0, gx0, onS_some, hL]
      exact fin _ (by split <;> omega) (by split <;> omega)
    · simp only [at1, gx1, onS_some, hL]
      exact fin _ a0 (by omega)
    · simp only [at2, gx2, onS_some, hL]
      exact fin _ b0 (by omega)
  unfold w_q_amounts_p1
  clear q
  walk_at "sqh"
  refine ⟨k, _, rfl, hS1 _, by omega, by omega, fun a a0 a1 => ?_⟩
  obtain ⟨j, rfl⟩ := Int.eq_ofNat_of_zero_le a0
  have hj : j < (bds r).length := by omega
  have e : atI ((bds r).map D.int) (j : Int) = some (.int ((bds r)[j])) := by rw [atN, List.getElem?_map, List.getElem?_eq_getElem hj]; rfl
  have := bi _ (List.getElem_mem hj)
  simp only [e, onS_some, r0]
  refine ⟨k, _, rfl, hS1 _, by decide, by decide, fun b b0 b1 => ?_⟩
  simp only [view_i]
  exact p2 _ (by omega)
theorem amounts_loop {κ : WK} (hS : S0[k]? = some .bag) (ok : r.ok) (hn : r.num ≤ 6) (le : r.le (10 ^ 60)) : ∀ (ds : List D) (ρ : Ro) (xs : List Int), xs.length + ds.length ≤ 2000 → ρ.length = 7 → gt ρ 0 = some (.h k) → gt ρ 3 = some (.lst ((bds r).map D.int)) → gt ρ 4 = some (.h S0.length) → (∀ x, x ∈ xs → 0 ≤ x ∧ x ≤ 10 ^ 61) →
    (∀ (ρ' : Ro) (xs : List Int), ρ'.length = 7 → gt ρ' 4 = some (.h S0.length) → xs.length ≤ 2000 → (∀ x, x ∈ xs → 0 ≤ x ∧ x ≤ 10 ^ 61) → κ.nx ρ' (S0 ++ [.lst (xs.map D.int)])) →
    loopD (wName 5) w_q_amounts_loop1 κ ds ρ (S0 ++ [.lst (xs.map D.int)])
  | [], ρ, xs, hl, hρ, g0, g3, g4, hx, q => by
    unfold loopD
    exact q ρ xs hρ g4 (by simpa using hl) hx
  | d :: ds, ρ, xs, hl, hρ, g0, g3, g4, hx, q => by
    unfold loopD wName
    rw [List.length_cons] at hl
    refine amounts_turn hS ok hn le (by rw [st_length]; exact hρ) (by rw [gt_st, if_neg (by omega)]; exact g0) (by rw [gt_st, if_neg (by omega)]; exact g3) (by rw [gt_st, if_neg (by omega)]; exact g4) (by omega) fun ρ' x a1 a2 a3 a4 x0 x1 => ?_
    refine amounts_loop hS ok hn le ds ρ' (xs ++ [x]) (by rw [List.length_append, List.length_singleton]; omega) a1 a2 a3 a4 (fun y hy => ?_) q
    rw [List.mem_append, List.mem_singleton] at hy
    rcases hy with h | rfl
    · exact hx y h
    · exact ⟨x0, x1⟩
end
theorem lows_int (n : Nat) : ∀ xs : List Int, lows n (xs.map D.int)
  | [] => trivial
  | _ :: xs => ⟨trivial, lows_int n xs⟩
theorem law_q_amounts (ds : List D) (S : Sto) (Φ : D → Sto → Prop) (h : sp_q_amounts ds S Φ) : w_q_amounts { nx := fun _ _ => False, rt := CutR S.length Φ } (ro n_q_amounts ds) S := by
  obtain ⟨k, r, m, rfl, hS, ok, hn, le, m0, m1, ls, q⟩ := h
  have hk : k < S.length := (List.getElem?_eq_some_iff.mp hS).1
  have r0 := res_hb hS
  have hd := r.dep_num
  unfold w_q_amounts n_q_amounts
  rw [wSeq]
  unfold w_q_amounts_0
  simp only [wPar, wCons, wNil, wVar, wC, wCall, wLstM, ro, List.map_cons, List.map_nil, List.length_cons, List.length_nil, List.cons_append, List.nil_append, List.append_nil, gt, List.getElem?_cons_succ, List.getElem?_cons_zero, onS_some, Rt.res, Nat.reduceAdd, true_and, lm2]
  refine ⟨r, rfl, by omega, by omega, ?_⟩
  simp only [lm2, true_and]
  rw [wSeq]
  unfold w_q_amounts_1
  have hb : -BIG ≤ m ∧ m < BIG := by unfold BIG; omega
  refine ⟨hb.1, hb.2, ?_⟩
  refine amounts_loop (xs := [0, 1]) hS ok hn le _ _ (by rw [rngD_length]; simp; omega) rfl rfl rfl rfl (by simp) fun ρ' xs h1 h2 h4 h3 => ?_
  unfold w_q_amounts_2
  have hL : ∀ m : M, (S ++ [m])[S.length]? = some m := fun m => by rw [List.getElem?_append_right (Nat.le_refl _)]; simp
  have r1 : ∀ L : List D, res (S ++ [.lst L]) (.h S.length) = .h S.length := fun L => res_hl (hL _)
  simp only [wRet, wVar, h2, onS_some, r1]
  refine ⟨S.length, _, rfl, hL _, Nat.le_refl _, lows_int _ _, fun j m hj hm => ?_, ?_⟩
  · rw [List.getElem?_append_left hj] at hm
    exact ls j m hj hm
  · rw [List.take_left]
    exact q xs h4 h3
end Sq

set_option Elab.async false
set_option maxRecDepth 100000
set_option maxHeartbeats 4000000
set_option linter.all false
/-! What many laws of rules ask. -/
namespace Sq
open PySem L2
local macro_rules | `(tactic| walk_at "sq") => `(tactic| simp only [↓wSeq, ↓lm1, ↓lm2, ↓lm3, ↓lm4, ↓lm6, ↓max2, ↓min2, ↓fPow, ↓wNeg, ↓wAsg, ↓wVar, ↓wC, ↓wOp, ↓wTest, ↓wIfS, ↓wRet, ↓wRetN, ↓wIf, ↓wCall, ↓wCons, ↓wNil, ↓wName, ↓wGTup, ↓wGCons, ↓wGNil, ↓wPar, ↓wTup, ↓wLst, ↓wAnd, ↓wOr, ↓wNot, ↓wTru, ↓tru, ↓wAndV, ↓wOrV, ↓wNotV, ↓wSkip, ↓wDrop, ↓fAdd, ↓fSub, ↓fMod, ↓fMul, ↓fMulA, ↓fDiv, ↓fEq, ↓fEqB, ↓fNe, ↓fCmp, ↓fI, ↓fIsN, ↓fNotN, ↓isNon, ↓fLen, ↓lenS, ↓fAbs, ↓fMax, ↓fMax2, ↓fMin, ↓fMin2, ↓fInt, ↓fIx, ↓fIn, ↓scV, ↓scVs, ↓wB, ↓wIsB, ↓wIsO, ↓kindT, ↓kindIs, ↓wFld, ↓atts, ↓wMeth, ↓wCallO, ↓wProp, ↓wSetA, ↓putA, ↓wNever, ↓gt, ↓st, ↓res_i, ↓res_b, ↓res_s, ↓res_n, ↓res_t, ↓res_l, ↓res_d, ↓res_c, ↓res_scr, ↓view_i, ↓view_b, ↓view_s, ↓view_n, ↓view_t, ↓view_l, ↓view_d, ↓view_c, ↓Rt.res, ↓Rt.view, ↓onS_some, ↓onS_none, ↓ro, ↓List.map_cons, ↓List.map_nil, ↓List.length_cons, ↓List.length_nil, ↓List.cons_append, ↓List.nil_append, ↓List.replicate_succ, ↓List.replicate_zero, Nat.reduceAdd, Nat.reduceSub, ↓Nat.add_zero, ↓Nat.zero_add, ↓Nat.sub_self, ↓so_inj, ↓so_beq, ↓at0, ↓at1, ↓at2, ↓at3, ↓gx0, ↓gx1, ↓gx2, ↓gx3, ↓nc0, ↓nc1, ↓nc2, ↓nc3, ↓nc4, ↓nc6, String.reduceBEq, ↓ix40, ↓ix41, ↓ix42, ↓set40, ↓set41, ↓set42, ↓List.set_set, ↓Bool.true_or, ↓Bool.or_true, ↓Bool.false_or, ↓Bool.or_false, ↓Bool.and_true, ↓Bool.true_and, ↓Bool.and_false, ↓Bool.false_and, ↓inV, ↓eqV, ↓List.any_cons, ↓List.any_nil, Int.reduceLE, Int.reduceLT, Int.reduceEq, String.reduceEq, ↓decide_true, ↓decide_false, ↓if_true, ↓if_false, ↓Bool.not_true, ↓Bool.not_false, reduceIte, ↓true_and, ↓and_true, ↓false_and, ↓and_false, ↓Bool.false_eq_true, ↓ite_true, ↓ite_false, reduceCtorEq])
local macro_rules | `(tactic| walk_at "sqh") => `(tactic| simp only [↓wSeq, ↓lm1, ↓lm2, ↓lm3, ↓lm4, ↓lm6, ↓max2, ↓min2, ↓fPow, ↓wNeg, ↓wAsg, ↓wVar, ↓wC, ↓wOp, ↓wTest, ↓wIfS, ↓wRet, ↓wRetN, ↓wIf, ↓wCall, ↓wCons, ↓wNil, ↓wName, ↓wGTup, ↓wGCons, ↓wGNil, ↓wPar, ↓wTup, ↓wLst, ↓wAnd, ↓wOr, ↓wNot, ↓wTru, ↓tru, ↓wAndV, ↓wOrV, ↓wNotV, ↓wSkip, ↓wDrop, ↓fAdd, ↓fSub, ↓fMod, ↓fMul, ↓fMulA, ↓fDiv, ↓fEq, ↓fEqB, ↓fNe, ↓fCmp, ↓fI, ↓fIsN, ↓fNotN, ↓isNon, ↓fLen, ↓lenS, ↓fAbs, ↓fMax, ↓fMax2, ↓fMin, ↓fMin2, ↓fInt, ↓fIx, ↓fIn, ↓scV, ↓scVs, ↓wB, ↓wIsB, ↓wIsO, ↓kindT, ↓kindIs, ↓wFld, ↓atts, ↓wMeth, ↓wCallO, ↓wProp, ↓wSetA, ↓putA, ↓wNever, ↓gt, ↓st, ↓res_i, ↓res_b, ↓res_s, ↓res_n, ↓res_t, ↓res_l, ↓res_d, ↓res_c, ↓res_scr, ↓view_i, ↓view_b, ↓view_s, ↓view_n, ↓view_t, ↓view_l, ↓view_d, ↓view_c, ↓Rt.res, ↓Rt.view, ↓onS_some, ↓onS_none, ↓ro, ↓List.map_cons, ↓List.map_nil, ↓List.length_cons, ↓List.length_nil, ↓List.cons_append, ↓List.nil_append, ↓List.replicate_succ, ↓List.replicate_zero, Nat.reduceAdd, Nat.reduceSub, ↓Nat.add_zero, ↓Nat.zero_add, ↓Nat.sub_self, ↓so_inj, ↓so_beq, ↓at0, ↓at1, ↓at2, ↓at3, ↓gx0, ↓gx1, ↓gx2, ↓gx3, ↓nc0, ↓nc1, ↓nc2, ↓nc3, ↓nc4, ↓nc6, String.reduceBEq, ↓ix40, ↓ix41, ↓ix42, ↓set40, ↓set41, ↓set42, ↓List.set_set, ↓Bool.true_or, ↓Bool.or_true, ↓Bool.false_or, ↓Bool.or_false, ↓Bool.and_true, ↓Bool.true_and, ↓Bool.and_false, ↓Bool.false_and, ↓inV, ↓eqV, ↓List.any_cons, ↓List.any_nil, Int.reduceLE, Int.reduceLT, Int.reduceEq, String.reduceEq, ↓decide_true, ↓decide_false, ↓if_true, ↓if_false, ↓Bool.not_true, ↓Bool.not_false, reduceIte, ↓true_and, ↓and_true, ↓false_and, ↓and_false, ↓Bool.false_eq_true, ↓ite_true, ↓ite_false, reduceCtorEq, ↓gt_st, ↓st_length, Nat.reduceEqDiff, Nat.reduceLT, Int.reduceToNat, Int.reduceEq, ↓List.length_map, ↓List.append_nil, *])
/-- _law_alike: slots 0 _law_found 1 _law_due -/
def w_q_alike : WS :=
  (wRet (wAndV (wOp fEq (wVar 0) (wVar 1)) (wOp fEq (wB fRepr (wCons (wVar 0) wNil)) (wB fRepr (wCons (wVar 1) wNil)))))
def n_q_alike : List Str := ["_law_found", "_law_due"]
theorem law_q_alike (ds : List D) (S : Sto) (Φ : D → Sto → Prop) (h : sp_q_alike ds S Φ) : w_q_alike { nx := fun _ S' => Φ .non S', rt := Φ } (ro n_q_alike ds) S := by
  obtain ⟨a, b, d, rfl, ra, rb, va, vb, hs, q⟩ := h
  unfold w_q_alike n_q_alike
  simp only [wRet, wAndV, wOp, wB, wCons, wNil, wVar, ro, List.map_cons, List.map_nil, List.length_cons, List.length_nil, List.cons_append, List.nil_append, gt, onS_some, ra, rb]
  refine fEq_same va vb hs ?_
  simp only [if_true]
  refine fRepr_same (by rw [ra]; exact va) hs fun s ⟨p, e, hp⟩ => fRepr_same (by rw [rb]; exact vb) hs fun s' ⟨p', e', hp'⟩ => ?_
  rw [e] at e'
  cases e'
  subst hp
  subst hp'
  unfold fEq fEqB
  simp only [view_s, decide_true]
  exact q
theorem scale_text : ∀ u : Fin 31, PySem.MulOk (Str.ofString "0") (u.val : Int) ∧ (Str.ofString "1" ++ PySem.Txt.mul (Str.ofString "0") (u.val : Int)).length ≤ 640 ∧ PySem.intText? (Str.ofString "1" ++ PySem.Txt.mul (Str.ofString "0") (u.val : Int)) = some ((10 ^ u.val : Nat) : Int) := by
  unfold PySem.MulOk
  decide +kernel
section
theorem sm_tree (B : Int) (hB : B ≤ 10 ^ 60) : ∀ r : Rt, r.ok → r.le B → sml r.d ∧ wgt r.d + 10 ≤ 600 * r.num ∧ dpt r.d ≤ r.dep
  | .at t p, ok, le => by
    obtain ⟨h1, h2, h3⟩ := ok
    simp only [Rt.le] at le
    have l1 : t.natAbs.log2 < 400 := log2_small (sm (by omega) (by omega)) (by decide)
    have l2 : p.natAbs.log2 < 400 := log2_small (sm (by omega) (by omega)) (by decide)
    refine ⟨?_, ?_, by simp [Rt.d, dpt, dpts, Rt.dep]⟩
    · simp only [Rt.d, sml, smls, and_true]
      exact ⟨by decide +kernel, by omega, by omega⟩
    · have e : wgt (.str "at") = 2 := by decide
      have a1 : wgt (.int t) ≤ 400 := by simp only [wgt]; split <;> omega
      have a2 : wgt (.int p) ≤ 4 := by
        have : p = 1 ∨ p = 2 ∨ p = 3 ∨ p = 4 ∨ p = 5 ∨ p = 6 := by omega
        rcases this with rfl | rfl | rfl | rfl | rfl | rfl <;> decide
      have z : wgt (Rt.at t p).d = wgt (.str "at") + 1 + (wgt (.int t) + 1 + (wgt (.int p) + 1 + 0)) := by simp only [Rt.d, wgt, wgts]
      rw [z, e]
      simp only [Rt.num]
      omega
  | .or a b, ok, le => by
    obtain ⟨s1, w1, d1⟩ := sm_tree B hB a ok.1 le.1
    obtain ⟨s2, w2, d2⟩ := sm_tree B hB b ok.2 le.2
    have n1 := a.num_pos
    refine ⟨?_, ?_, ?_⟩
    · simp only [Rt.d, sml, smls, and_true]
      exact ⟨by decide +kernel, s1, s2⟩
    · have e : wgt (.str "or") = 2 := by decide
      have z : wgt (Rt.or a b).d = wgt (.str "or") + 1 + (wgt a.d + 1 + (wgt b.d + 1 + 0)) := by simp only [Rt.d, wgt, wgts]
      rw [z, e]
      simp only [Rt.num]
      omega
    · simp only [Rt.d, dpt, dpts, Rt.dep]
      omega
  | .and a b, ok, le => by
    obtain ⟨s1, w1, d1⟩ := sm_tree B hB a ok.1 le.1
    obtain ⟨s2, w2, d2⟩ := sm_tree B hB b ok.2 le.2
    have n1 := a.num_pos
    refine ⟨?_, ?_, ?_⟩
    · simp only [Rt.d, sml, smls, and_true]
      exact ⟨by decide +kernel, s1, s2⟩
    · have e : wgt (.str "and") = 3 := by decide
      have z : wgt (Rt.and a b).d = wgt (.str "and") + 1 + (wgt a.d + 1 + (wgt b.d + 1 + 0)) := by simp only [Rt.d, wgt, wgts]
      rw [z, e]
      simp only [Rt.num]
      omega
    · simp only [Rt.d, dpt, dpts, Rt.dep]
      omega
end
theorem given_in : ∀ (r : Rt) (a : Int), r.ok → 0 ≤ a → 0 ≤ given r a ∧ given r a ≤ a
  | .at t p, a, ok, h => by
    obtain ⟨h1, h2, h3⟩ := ok
    unfold given
    have e1 := Int.emod_nonneg a (show p ≠ 0 by omega)
    have e2 : a % p ≤ a := by
      have z : 0 ≤ p * (a / p) := Int.mul_nonneg (by omega) (Int.ediv_nonneg h (by omega))
      rw [Int.emod_def]
      omega
    split <;> omega
  | .or x y, a, ok, h => by
    have := given_in x a ok.1 h
    have := given_in y a ok.2 h
    unfold given
    split <;> omega
  | .and x y, a, ok, h => by
    have := given_in x a ok.1 h
    have := given_in y a ok.2 h
    unfold given
    split <;> omega
theorem gt_put {ρ : Ro} {i j : Nat} {d : D} (h : i ≠ j) : gt (st ρ i (some d)) j = gt ρ j := by rw [gt_st, if_neg (fun z => h z.1)]
theorem gt_own {ρ : Ro} {i : Nat} {d : D} (h : i < ρ.length) : gt (st ρ i (some d)) i = some d := by rw [gt_st, if_pos ⟨rfl, h⟩]
theorem lowS_bag : lowS [M.bag] := fun k m hk hm => by
  have : k = 0 := by simp at hk; exact hk
  subst this
  simp at hm
  subst hm
  trivial
/-- the scale, 1 to 10 ** 30 -/
theorem scale_word {ρ : Ro} {S : Sto} {Q : D → Sto → Prop} (g1 : gt ρ 1 = some (.h 0)) (h0 : S[0]? = some .bag) (q : ∀ sc : Int, 1 ≤ sc → sc ≤ 10 ^ 30 → Q (.int sc) S) :
    (wB fInt (wCons (wOp fAdd (wC (.str "1")) (wOp fMulA (wC (.str "0")) (wCall 2 sp_q_take [] (wCons (wVar 1) (wCons (wC (.int 31)) wNil))))) wNil)) ρ S Q := by
  have r0 := res_hb h0
  simp only [wCall, wCons, wNil, wVar, wB, wOp, wC, g1, onS_some, r0, List.length_cons, List.length_nil, List.append_nil, Nat.reduceAdd, true_and]
  refine ⟨0, 31, rfl, h0, by decide, by decide, fun u u0 u1 => ?_⟩
  obtain ⟨j, rfl⟩ := Int.eq_ofNat_of_zero_le u0
  obtain ⟨t1, t2, t3⟩ := scale_text ⟨j, by omega⟩
  unfold fMulA
  refine ⟨t1, ?_⟩
  unfold fAdd
  refine ⟨?_, ?_⟩
  · rw [PySem.strLen_append] at t2
    exact Nat.le_trans t2 (by decide)
  unfold fInt
  refine ⟨t2, ?_⟩
  rw [t3]
  simp only [onS_some]
  have s1 : (1 : Int) ≤ ((10 ^ j : Nat) : Int) := by
    have := Nat.pow_pos (n := j) (show 0 < 10 by decide)
    omega
  have s2 : ((10 ^ j : Nat) : Int) ≤ 10 ^ 30 := by
    have := Nat.pow_le_pow_right (show 0 < 10 by decide) (show j ≤ 30 by omega)
    have : (10 : Int) ^ 30 = ((10 ^ 30 : Nat) : Int) := by decide
    omega
  exact q _ s1 s2
theorem Rt.le_mono : ∀ (r : Rt) {A B : Int}, A ≤ B → r.le A → r.le B
  | .at _ _, _, _, hAB, h => Int.le_trans h hAB
  | .or x y, _, _, hAB, h => ⟨x.le_mono hAB h.1, y.le_mono hAB h.2⟩
  | .and x y, _, _, hAB, h => ⟨x.le_mono hAB h.1, y.le_mono hAB h.2⟩
end Sq

set_option Elab.async false
set_option maxRecDepth 100000
set_option maxHeartbeats 4000000
set_option linter.all false
/-! Dicts that change. -/
namespace Sq
open PySem L2
def keyD : D → Option Key
  | .int i => some (.inl i)
  | .str s => some (.inr s)
  | _ => none
def valD (kd : List (Key × D)) (k : Key) : Option D := (kd.find? fun p => decide (p.1 = k)).map (·.2)
def putD (kd : List (Key × D)) (k : Key) (d : D) : List (Key × D) :=
  if (kd.any fun p => decide (p.1 = k)) = true then kd.map (fun p => if p.1 = k then (p.1, d) else p) else kd ++ [(k, d)]
theorem valD_pos {p : Key × D} {r : List (Key × D)} {k : Key} (e : p.1 = k) : valD (p :: r) k = some p.2 := by simp [valD, List.find?_cons, e]
theorem valD_neg {p : Key × D} {r : List (Key × D)} {k : Key} (e : ¬ p.1 = k) : valD (p :: r) k = valD r k := by simp [valD, List.find?_cons, e]
section
variable {K : PySem.W.Frag} {mg : Str → Option Value} {Z : Zt} {I : Hp} {μ : List Addr} {S : Sto} {H : Hp}
theorem RpK.len {kv : List (Key × V)} {kd : List (Key × D)} (r : RpK K mg I μ kv kd) : kv.length = kd.length := by
  induction kd generalizing kv with
  | nil => cases r; rfl
  | cons p kd ih => cases r with | cons h t => simp [ih t]
theorem RpK.val (k : Key) : ∀ {kv : List (Key × V)} {kd : List (Key × D)}, RpK K mg I μ kv kd → (valV kv k).isSome = (valD kd k).isSome ∧ ∀ d, valD kd k = some d → ∃ v, valV kv k = some v ∧ Rp K mg I μ v d
  | _, _, .nil => ⟨rfl, fun d h => nomatch h⟩
  | _, _, .cons (k := j) h t => by
    by_cases e : j = k
    · rw [valV_pos (p := (j, _)) e, valD_pos (p := (j, _)) e]
      exact ⟨rfl, fun d h' => by cases h'; exact ⟨_, rfl, h⟩⟩
    · rw [valV_neg (p := (j, _)) e, valD_neg (p := (j, _)) e]
      exact t.val k
theorem RpK.any (k : Key) : ∀ {kv : List (Key × V)} {kd : List (Key × D)}, RpK K mg I μ kv kd → (kv.any fun p => decide (p.1 = k)) = (kd.any fun p => decide (p.1 = k))
  | _, _, .nil => rfl
  | _, _, .cons h t => by rw [List.any_cons, List.any_cons, t.any k]
theorem RpK.put {k : Key} {v : V} {d : D} (r : Rp K mg I μ v d) {kv : List (Key × V)} {kd : List (Key × D)} (t : RpK K mg I μ kv kd) : RpK K mg I μ (putK kv k v) (putD kd k d) := by
  unfold putK putD
  rw [t.any k]
  have m : ∀ {kv : List (Key × V)} {kd : List (Key × D)}, RpK K mg I μ kv kd → RpK K mg I μ (kv.map fun p => if p.1 = k then (p.1, v) else p) (kd.map fun p => if p.1 = k then (p.1, d) else p) := by
    intro kv kd t
    induction kd generalizing kv with
    | nil => cases t; exact .nil
    | cons p kd ih =>
      cases t with
      | cons h t =>
        rename_i j x _ _
        rw [List.map_cons, List.map_cons]
        by_cases e : j = k
        · rw [if_pos e, if_pos e]; exact .cons r (ih t)
        · rw [if_neg e, if_neg e]; exact .cons h (ih t)
  have a : ∀ {kv : List (Key × V)} {kd : List (Key × D)}, RpK K mg I μ kv kd → RpK K mg I μ (kv ++ [(k, v)]) (kd ++ [(k, d)]) := by
    intro kv kd t
    induction kd generalizing kv with
    | nil => cases t; exact .cons r .nil
    | cons p kd ih => cases t with | cons h t => exact .cons h (ih t)
  split
  · exact m t
  · exact a t
theorem keyD_rp {v : V} {d : D} {k : Key} (r : Rp K mg I μ v d) (e : keyD d = some k) : v = kV k := by
  cases r <;> simp [keyD] at e <;> subst e <;> rfl
end
def dctD : D → Option (List (Key × D))
  | .dct kd => some kd
  | _ => none
theorem dctD_eq {d : D} {kd : List (Key × D)} (h : dctD d = some kd) : d = .dct kd := by
  cases d <;> simp [dctD] at h
  rw [h]
/-- a key in a dict -/
def fDIn (neg : Bool) : F2 := fun S x y Q => onS (keyD x) fun k => onS (dctD (view S y)) fun kd => Q (.bl (if neg then !(valD kd k).isSome else (valD kd k).isSome)) S
def rDIn (neg : Bool) : R2 := fun y x H Q => ∃ a o, x = .ref a ∧ DGet H a y o ∧ Q (.bl (if neg then !o.isSome else o.isSome)) H
def fDIx : F2 := fun S x y Q => onS (dctD (view S x)) fun kd => onS (keyD y) fun k => onS (valD kd k) fun d => Q d S
theorem opd_din {K : PySem.W.Frag} {mg : Str → Option Value} {Z : Zt} {neg : Bool} : OpD K mg Z (rDIn neg) (fDIn neg) := by
  intro I μ S H x y a b Q Φ ok ra rb q k
  obtain ⟨key, e, q⟩ := onS_iff q
  obtain ⟨kd, e2, q⟩ := onS_iff q
  obtain ⟨p, vs, rfl, h1, r1⟩ := view_dct ok rb (dctD_eq e2)
  refine ⟨p, valV vs key, rfl, .inl ⟨vs, key, h1, keyD_rp ra e, rfl⟩, ?_⟩
  rw [(r1.val key).1]
  exact k _ _ I μ S H .refl ok .bl q
section
variable {X : Cx} {Γ : Gam} {a b o ix e : Expr} {ta tb to ti te : TE} {wa wb wo wi we : WE} {pos pos' : Pos} {j : Nat}
theorem cm_din (hr : Room j X.A) : CmpR X .In (rDIn false) (fDIn false) := ⟨fun pins s σ H x y v u Q I rx ry h => by
  obtain ⟨p, o, rfl, g, q⟩ := h
  cases ry
  exact d_in (by have := hr.un; omega) I g rx fun s' I' => ⟨.bl o.isSome, H, I', rfl, q⟩, fun _ => opd_din⟩
theorem cm_dnotIn (hr : Room j X.A) : CmpR X .NotIn (rDIn true) (fDIn true) := ⟨fun pins s σ H x y v u Q I rx ry h => by
  obtain ⟨p, o, rfl, g, q⟩ := h
  cases ry
  exact d_notIn (by have := hr.un; omega) I g rx fun s' I' => ⟨.bl (!o.isSome), H, I', rfl, q⟩, fun _ => opd_din⟩
theorem se_dix (hr : Room j X.A) (ha : SE X Γ a ta wa) (hb : SE X Γ b tb wb) (hs : NoSl b := by exact fun _ _ => rfl) : SE X Γ (.Subscript a b pos) (tDGet ta tb) (wOp fDIx wa wb) :=
  ⟨pe_dget (by have := hr.un; omega) ha.pe hb.pe hs, fun Z lk σ ρ I μ S H Q Φ rs ok hw k => ha.si Z lk σ ρ I μ S H _ _ rs ok hw fun x dx I1 μ1 S1 H1 e1 o1 r1 q1 => hb.si Z lk σ ρ I1 μ1 S1 H1 _ _ (rs.ext e1) o1 q1 fun y dy I2 μ2 S2 H2 e2 o2 r2 q2 => by
    obtain ⟨kd, g1, q2⟩ := onS_iff q2
    obtain ⟨key, g2, q2⟩ := onS_iff q2
    obtain ⟨d, g3, q2⟩ := onS_iff q2
    obtain ⟨p, vs, rfl, h1, rk⟩ := view_dct o2 (r1.ext e2) (dctD_eq g1)
    obtain ⟨v, g4, rv⟩ := (rk.val key).2 d g3
    exact ⟨p, v, rfl, .inl ⟨vs, key, h1, keyD_rp r2 g2, g4.symm⟩, k v d I2 μ2 S2 H2 (e1.trans e2) o2 rv q2⟩⟩
/-- {} -/
def wDNew : WE := fun _ S Q => Q (.h S.length) (S ++ [.dct []])
theorem se_dnew : SE X Γ (.Dict [] [] pos) tDNewK wDNew :=
  ⟨pe_dnewK, fun Z lk σ ρ I μ S H Q Φ rs ok hw k p hp => by
    have i := free_of ok.sub hp
    exact k _ _ _ _ _ _ Ext.push (ok.push (m := .dct []) hp ⟨i, [], upd_same, .nil⟩) (.h (mu_last ok p)) hw⟩
/-- d[k] = e -/
def wDPut (wo wi we : WE) : WS := fun κ ρ S => we ρ S fun d S1 => wo ρ S1 fun x S2 => wi ρ S2 fun y S3 => match x with
  | .h n => match S3[n]? with
    | some (.dct kd) => kd.length < LIM ∧ onS (keyD y) fun k => κ.nx ρ (S3.set n (.dct (putD kd k d)))
    | _ => False
  | _ => False
theorem s_dput (hr : Room j X.A) (ho : SE X Γ o to wo) (hi : SE X Γ ix ti wi) (he : SE X Γ e te we) (hs : swapsWith e (some (.Subscript o ix pos')) pos.line X.env = pure false := by rfl) :
    SS X Γ (.Assign [.Subscript o ix pos'] e pos) (sDPut to ti te) (wDPut wo wi we) :=
  ⟨ps_dput (by have := hr.un; omega) ho.pe hi.pe he.pe hs, fun Z lk σ ρ I μ S H E κ rs ok h c => he.si Z lk σ ρ I μ S H _ _ rs ok h fun v d I1 μ1 S1 H1 e1 o1 r1 q1 => ho.si Z lk σ ρ I1 μ1 S1 H1 _ _ (rs.ext e1) o1 q1 fun x dx I2 μ2 S2 H2 e2 o2 r2 q2 =>
    hi.si Z lk σ ρ I2 μ2 S2 H2 _ _ (rs.ext (e1.trans e2)) o2 q2 fun y dy I3 μ3 S3 H3 e3 o3 r3 q3 => by
      split at q3
      · rename_i n
        split at q3
        · rename_i kd g
          obtain ⟨key, g2, q3⟩ := onS_iff q3.2
          rename_i q0
          have hl := q0.1
          cases r2 with
          | h hn =>
            obtain ⟨i3, vs, hH, rk⟩ := o3.ob _ _ _ (e3.mu _ _ hn) g
            have e13 := (e1.trans e2).trans e3
            refine ⟨_, _, rfl, .inl ⟨vs, key, hH, keyD_rp r3 g2, lim (by rw [rk.len]; omega), rfl⟩, ?_⟩
            exact c.nx σ ρ I3 μ3 _ _ e13 (rs.ext e13) (o3.put (m := .dct (putD kd key d)) (e3.mu _ _ hn) i3 ⟨i3, _, upd_same, rk.put (r1.ext (e2.trans e3))⟩) q3
        · exact q3.elim
      · exact q3.elim⟩
/-- x, y, z = a, b, c -/
def wPar3 (i j l : Nat) (wa : WA) : WS := fun κ ρ S => wa ρ S fun ds S1 => match ds with
  | [a, b, c] => κ.nx (st (st (st ρ i (some a)) j (some b)) l (some c)) S1
  | _ => False
theorem s_par3 {x y z : Str} {a b c : Expr} {ta : TA} {wa : WA} {px py pz pt : Pos} {kt k2 pt2} (i j l : Nat) (hc : X.calm = true) (hN : X.N.Nodup) (hi : X.N[i]? = some x) (hj : X.N[j]? = some y) (hl : X.N[l]? = some z) (hij : i ≠ j) (hil : i ≠ l) (hjl : j ≠ l)
    (hx : X.env.scope.names.lookup x = some .local) (hy : X.env.scope.names.lookup y = some .local) (hz : X.env.scope.names.lookup z = some .local) (ha : SA X Γ [a, b, c] ta wa)
    (hw : swappedStores [.Tuple [.Name x px, .Name y py, .Name z pz] kt pt] (.Tuple [a, b, c] k2 pt2) X.env = pure (some [x, y, z]))
    (hs : swapsWithSole [.Tuple [.Name x px, .Name y py, .Name z pz] kt pt] (.Tuple [a, b, c] k2 pt2) pos.line X.env = pure false := by rfl) :
    SS X Γ (.Assign [.Tuple [.Name x px, .Name y py, .Name z pz] kt pt] (.Tuple [a, b, c] k2 pt2) pos) (tPar3 i j l ta) (wPar3 i j l wa) :=
  ⟨ps_par3 hc hN hi hj hl hij hil hjl hx hy hz ha.pa hw hs, fun Z lk σ ρ I μ S H E κ rs ok h c => ha.si Z lk σ ρ I μ S H _ _ rs ok h fun vs ds I1 μ1 S1 H1 e1 o1 r1 q1 => by
    split at q1
    · rename_i da db dc
      cases r1 with
      | cons ra r1 =>
        cases r1 with
        | cons rb r1 =>
          cases r1 with
          | cons rc r1 =>
            cases r1
            exact ⟨_, _, _, rfl, c.nx _ _ I1 μ1 S1 H1 e1 ((((rs.ext e1).put ra i).put rb j).put rc l) o1 q1⟩
    · exact q1.elim⟩
end
end Sq

set_option Elab.async false
set_option maxRecDepth 100000
set_option maxHeartbeats 4000000
set_option linter.all false
/-! Sets of ints that are comprehended and sorted; lists of ranges of any size; enumerate; extend. -/
namespace Sq
open PySem PySem.Spec PyProof.Rows L2

/-! ### {e for x in it}, ints -/
section
variable {X : Cx}
theorem addI_ok {pn : List (Addr × Obj)} {σ : L2.St} {G : Hp} {z : Shared} {E : Value → Shared → Prop} {D : Addr} {S : Int → Bool} {n : Nat} {k : Int} {tk : Tok} {Q : Value → Shared → Prop} (J : Inv X pn σ G z) (hD : G D = some (SetO X.w D S n)) (room : n + 1 < scanBound)
    (h : ∀ z', Inv X pn σ (upd G D (SetO X.w D (fun j => S j || decide (j = k)) (if S k = true then n else n + 1))) z' → Q .none z') : wpAny (model X.prog X.w) X.A (call (.builtin "set.add") [.ref D, .int k tk]) Q E z := by
  refine setR_add (setO_get J hD) room fun h' sb new => ?_
  obtain ⟨o, _, _, _, ho, _⟩ := id new
  exact h _ (J.write (e := D) (t' := z.toks + 1) (by rw [hD]; trivial) (.inl rfl) (fun b u hb hu => (sb.2 b hb).trans hu) ⟨o, ho⟩ (setO_new new))
def tScI (w : World) (wi : TI) (g : TG) (tt : TT) (te : TE) (vs : List Nat) : TE := fun σ G Q => wi σ G fun J G1 => ∀ D, G1 D = none → ∃ W : Nat → Nat → Hp → Prop, (∃ m, W 0 m (upd G1 D (SetO w D (fun _ => false) 0))) ∧ ∀ i m F, W i m F →
  (J.stop i F ∧ Q (.ref D) F) ∨ (J.go i F ∧ ∃ Nx : Hp → Prop, (∀ F', Nx F' → ∃ m', m' < m ∧ W (i + 1) m' F') ∧ ∀ x F', J.yld i F x F' → g x (wipe σ vs) F' fun σ2 F2 => wipe σ2 vs = wipe σ vs ∧ tt σ2 F2 fun b F3 =>
    if b = true then te σ2 F3 fun y F4 => ∃ (c : Int) (S : Int → Bool) (n : Nat), y = .int c ∧ F4 D = some (SetO w D S n) ∧ n + 1 < scanBound ∧ Nx (upd F4 D (SetO w D (fun j => S j || decide (j = c)) (if S c = true then n else n + 1))) else Nx F3)
theorem pe_scI {elt tg iter : Expr} {ifs : List Expr} {scope : Scope} {own : List (PySem.Str × Nat)} {pos : Pos} {wi : TI} {g : TG} {tt : TT} {te : TE} (calm : X.calm = true) (nod : X.N.Nodup) (pi : PI X tg iter wi) (bo : BlkOk X.N X.env.scope scope own)
    (pgs : ∀ (z : Shared) (G : Hp) (C : Addr) (cl : List (PySem.Str × Addr)) (fp : List Addr), PG (X.blk z G scope (compEnvC scope cl C X.env) fp) tg g)
    (pts : ∀ (z : Shared) (G : Hp) (C : Addr) (cl : List (PySem.Str × Addr)) (fp : List Addr), PTs (X.blk z G scope (compEnvC scope cl C X.env) fp) ifs tt)
    (pes : ∀ (z : Shared) (G : Hp) (C : Addr) (cl : List (PySem.Str × Addr)) (fp : List Addr), PE (X.blk z G scope (compEnvC scope cl C X.env) fp) elt te)
    (fo : ∀ x, foldedSetIterable iter X.env x = pure x := by intro _; rfl) :
    PE X (.SetComp elt [⟨tg, iter, ifs, 0⟩] scope pos) (tScI X.w wi g tt te (own.map (·.2))) := by
  refine ⟨fun pn z σ G Q J hw => ?_⟩
  rw [PpSet.eval_SetComp]
  have fre : ∀ y ∈ scope.names, y.2 = .free → ∃ c, X.env.cells.lookup y.1 = some c := fun y hy e => by
    cases bo.free y hy e with
    | inl k => exact J.ok.has _ (.inl k)
    | inr k => exact J.ok.has _ (.inr k)
  refine wpAny_comprehension_free rfl fo (closure_ok fre) bo.kind (fun y hy e => by rw [bo.uniq y hy, e]) (thn (pi.run pn z σ G _ J hw) fun xv z1 hx => thn hx fun itv z2 h2 => ?_)
  obtain ⟨it, fp, tn, V, G2, rfl, J2, T, st2, f2, q⟩ := h2
  refine PpSet.newSet_ok (newEnv_comp ?_)
  generalize hD : z2.heap.objs.size = D
  have hDn : G2 D = none := J2.hok.fresh (Nat.le_of_eq hD)
  obtain ⟨W, ⟨m0, w0⟩, turn⟩ := q D hDn
  generalize hz3 : ({ z2 with heap := z2.heap.push { cls := .type "set", dict := none, data := .set #[] 0 (.fresh 0 0 (!X.w.params.followText "set-order")) } } : Shared) = z3
  have hp3 : z3.heap = z2.heap.push { cls := .type "set", dict := none, data := .set #[] 0 (.fresh 0 0 (!X.w.params.followText "set-order")) } := by subst hz3; rfl
  have J3 : Inv X pn σ (upd G2 D (SetO X.w D (fun _ => false) 0)) z3 := by
    subst hz3
    subst hD
    exact J2.laid (t' := z2.toks) (fun b o e => Heap.get?_push_of_some _ e) (Nat.le_refl _) (setO_new (setR_fresh X.w))
  have small : ∀ b ∈ fp, b < z2.heap.objs.size := fun b hb => Heap.lt_size (T.obj _ _ st2 b hb).choose_spec.1
  have f3 : ∀ b ∈ fp, FpOk X pn (upd G2 D (SetO X.w D (fun _ => false) 0)) b ∧ b < z3.heap.objs.size := fun b hb => by
    refine ⟨⟨?_, (f2 b hb).2⟩, by rw [hp3, Heap.size_push]; exact Nat.lt_succ_of_lt (small b hb)⟩
    rw [upd_ne (by subst hD; exact Nat.ne_of_lt (small b hb))]
    exact (f2 b hb).1
  have st3 : tn 0 z3.heap := T.keep _ _ _ st2 fun b _ o e => by rw [hp3]; exact Heap.get?_push_of_some _ e
  have J4 := block_start J3 bo nod f3
  have pg := pgs z3 (upd G2 D (SetO X.w D (fun _ => false) 0)) z3.heap.objs.size (cellsFrom (z3.heap.objs.size + 1) scope.names (cloFrom X.env.cells scope.names [])) fp
  have pt := pts z3 (upd G2 D (SetO X.w D (fun _ => false) 0)) z3.heap.objs.size (cellsFrom (z3.heap.objs.size + 1) scope.names (cloFrom X.env.cells scope.names [])) fp
  have pe := pes z3 (upd G2 D (SetO X.w D (fun _ => false) 0)) z3.heap.objs.size (cellsFrom (z3.heap.objs.size + 1) scope.names (cloFrom X.env.cells scope.names [])) fp
  have nfp : ∀ b ∈ fp, (upd G2 D (SetO X.w D (fun _ => false) 0)) b = none := fun b hb => (f3 b hb).1.1
  show codeAny _ _ (.compStart _ 0 (.ref it) (.ref D) (compEnvC scope (cellsFrom (z3.heap.objs.size + 1) scope.names (cloFrom X.env.cells scope.names [])) z3.heap.objs.size X.env)) _ { z3 with heap := pushCells (z3.heap.push { cls := .type "dict", data := .dict #[] }) scope.names }
  generalize hce : compEnvC scope (cellsFrom (z3.heap.objs.size + 1) scope.names (cloFrom X.env.cells scope.names [])) z3.heap.objs.size X.env = ce at J4 pg pt pe ⊢
  have cL : ce.locals = z3.heap.objs.size := by rw [← hce]; rfl
  generalize hG3 : upd G2 D (SetO X.w D (fun _ => false) 0) = G3 at J3 J4 pg pt pe w0 nfp f3
  generalize hz4 : ({ z3 with heap := pushCells (z3.heap.push { cls := .type "dict", data := .dict #[] }) scope.names } : Shared) = z4 at J4 ⊢
  have st4 : tn 0 z4.heap := T.keep _ _ _ st3 fun b _ o e => by subst hz4; exact pushCells_keeps _ _ _ _ (Heap.get?_push_of_some _ e)
  have stat : ∀ {σ' : L2.St} {F : Hp} {z' : Shared}, Inv (X.blk z3 G3 scope ce fp) [] σ' F z' → (∀ b ∈ fp, F b = none) → ∀ b ∈ fp, FpOk (X.blk z3 G3 scope ce fp) [] F b := fun {σ' F z'} L hn b hb =>
    ⟨hn b hb, (L.ok.exf b hb).1, L.ok.exfs b hb, .inl hb, fun x c e => (L.ok.exf b hb).2 x c e, fun p hp => nomatch (show p ∈ ([] : List (Addr × Obj)) from hp)⟩
  have loop : codeAny (model X.prog X.w) X.A (.compLoop (.SetComp elt [⟨tg, iter, ifs, 0⟩] scope pos) 0 (.ref it) (.ref D) ce) (compPost (model X.prog X.w) X.A X.xe none (EP X pn σ Q) (.ref D) z3.heap.objs.size) z4 := by
    refine PpSet.compLoopS_any (fun n z' => ∃ i F, Inv (X.blk z3 G3 scope ce fp) [] (wipe σ (own.map (·.2))) F z' ∧ tn i z'.heap ∧ (∀ b ∈ fp, F b = none) ∧ W i n F) ?_ m0 ⟨0, G3, J4, st4, nfp, w0⟩
    rintro n z5 ⟨i, G5, J5, st5, n5, w5⟩
    rcases turn i n G5 w5 with ⟨stop, qq⟩ | ⟨go, Nx, hNx, step⟩
    · refine thnF (T.done (X.blk z3 G3 scope ce fp) rfl rfl rfl calm i [] z5 _ G5 (fun _ _ => False) J5 (stat J5 n5) st5 stop) fun r z6 ⟨hr, J6⟩ => ?_
      subst hr
      have J7 : Inv X pn σ G5 z6 := J3.call' (ch := fp) J6.os J6.base J6.hok J6.bare fun b hb => ⟨(f3 b hb).1.2.2.2.1, (f3 b hb).1.2.1, (f3 b hb).1.2.2.2.2.1, (f3 b hb).1.2.2.2.2.2⟩
      have nC : G5 z3.heap.objs.size = none := by rw [← cL]; exact J6.free
      obtain ⟨m, hn, _⟩ := J6.loc
      have hn' : z6.heap.Ns z3.heap.objs.size m := by rw [← cL]; exact hn
      obtain ⟨c0, c1, c2, c3, c4, c5⟩ := J3.fpOk (Nat.le_refl _) nC
      exact ⟨m, hn', fun h'' sb => ⟨.ref D, G5, J7.turned (t' := z6.toks) (fun b o hb e => (sb.2 b hb).trans e) c0 c1 c3 c4 c5, rfl, qq⟩⟩
    · refine thnF (T.item (X.blk z3 G3 scope ce fp) rfl rfl rfl calm i [] z5 _ G5 (fun _ _ => False) J5 (stat J5 n5) st5 go) fun r z6 ⟨u, hr, h6⟩ => ?_
      subst hr
      refine thnF h6 fun _ z7 ⟨x, G7, J7, r7, y7, st7, n7⟩ => ?_
      have J7' := J7.pinned (stat J7 n7) (T.obj _ _ st7)
      refine thnF (pg.run _ z7 _ G7 x u _ J7' r7 (step x G7 y7)) fun _ z8 ⟨σ8, G8, J8, hw8, q8⟩ => ?_
      refine thnF (pt.run _ z8 σ8 G8 _ J8 q8) fun b z9 ⟨G9, J9, q9⟩ => ?_
      have fin : ∀ {z' : Shared} {F : Hp}, Inv (X.blk z3 G3 scope ce fp) ([] ++ pinsAt fp z7.heap) σ8 F z' → Nx F → ∃ m, m < n ∧ ∃ i F, Inv (X.blk z3 G3 scope ce fp) [] (wipe σ (own.map (·.2))) F z' ∧ tn i z'.heap ∧ (∀ b ∈ fp, F b = none) ∧ W i m F := fun {z' F} L nx => by
        obtain ⟨m', hm, w'⟩ := hNx F nx
        have pin' : ∀ b ∈ fp, ∀ o, z7.heap.get? b = some o → z'.heap.get? b = some o ∧ F b = none := fun b hb o e =>
          let y := L.pin (b, o) (List.mem_append_right _ (List.mem_append_right _ (mem_pinsAt hb e)))
          ⟨y.1, y.2.1⟩
        have hl : (wipe σ (own.map (·.2))).length = σ8.length := by rw [← hw8, wipe_length]
        refine ⟨m', hm, i + 1, F, (L.unpinned (pins := [])).weak hl (fun j v e => ?_), T.keep _ _ _ st7 fun b hb o e => (pin' b hb o e).1, fun b hb => ?_, w'⟩
        · rw [← hw8] at e; exact (wipe_some e).1
        · obtain ⟨o, e, _⟩ := T.obj _ _ st7 b hb; exact (pin' b hb o e).2
      cases b with
      | false =>
        simp only [Bool.false_eq_true, if_false] at q9 ⊢
        exact fin J9 q9
      | true =>
        simp only [if_true] at q9 ⊢
        refine thnF (pe.run _ z9 σ8 G9 _ J9 q9) fun zv z10 ⟨yv, G10, J10, r10, cb, S0, n0, ey, hD10, hz10, nx⟩ => ?_
        subst ey
        obtain ⟨tk, rfl⟩ := r10
        exact addI_ok (X := X.blk z3 G3 scope ce fp) J10 hD10 hz10 fun z11 J11 => fin J11 nx
  exact PpSet.codeAny_compStart_set loop (T.self X.A 0 _ _ _ st4 loop)
end
theorem Ok.drop {K : PySem.W.Frag} {mg : Str → Option Value} {Z : Zt} {I : Hp} {μ : List Addr} {S : Sto} {H : Hp} {p : Addr} {u : HO} (o : Ok K mg (Z.up p u) I μ S H) (hz : Z.z p = none) : Ok K mg Z I μ S H :=
  ⟨fun b x e => o.fra b x (by show upd Z.z p u b = some x; rw [upd_ne (ne_of_none e hz)]; exact e), o.gnd, o.sub, o.len, o.nd, o.ob⟩
/-- the turns of a set's comprehension -/
def compI (g : WG) (wt : WT) (we : WE) (ρ : Ro) (Q : List Int → Sto → Prop) : List D → List Int → Sto → Prop
  | [], acc, S => Q acc S
  | d :: ds, acc, S => g d ρ S fun ρ1 S1 => wt ρ1 S1 fun b S2 => if b = true then we ρ1 S2 fun y S3 => match y with
    | .int i => acc.length < 4000 ∧ compI g wt we ρ Q ds (acc ++ [i]) S3
    | _ => False
    else compI g wt we ρ Q ds acc S2
/-- sorted({e for x in it}), ints -/
def wSortSC (wi : WA) (g : WG) (wt : WT) (we : WE) (vs : List Nat) : WE := fun ρ S Q => wi ρ S fun ds S1 => compI g wt we (wp ρ vs) (fun acc S2 => acc.length < 64 ∧ ∀ ms : List Int, ms.Pairwise (· < ·) → (∀ k, k ∈ ms ↔ k ∈ acc) → Q (.lst (ms.map D.int)) S2) ds [] S1
section
variable {X : Cx} {Γ : Gam} {elt tg iter : Expr} {ifs : List Expr} {scope : Scope} {own : List (PySem.Str × Nat)} {pos p pos2 : Pos} {wi : TI} {wa : WA} {g : TG} {wg : WG} {tt : TT} {wt : WT} {te : TE} {we : WE}
theorem bound10k {n : Nat} (h : n < 4000) : n + 1 < scanBound := Nat.lt_of_le_of_lt (show n + 1 ≤ 4000 from h) (by unfold scanBound; decide)
theorem sim_sortSC {w : World} {K : PySem.W.Frag} {mg : Str → Option Value} {vs : List Nat} {Z : Zt}
    (hi : ∀ (σ : L2.St) (ρ : Ro) (I : Hp) (μ : List Addr) (S : Sto) (H : Hp) (R : It → Hp → Prop) (Φ : List D → Sto → Prop), RpS K mg I μ σ ρ → Ok K mg Z I μ S H → wa ρ S Φ → Kd K mg Z I μ Φ R → wi σ H R)
    (hg : ∀ Z, SimW K mg Z vs g wg) (ht : ∀ Z, SimT K mg Z tt wt) (he : ∀ Z, Sim K mg Z te we) : Sim K mg Z (tCB (rSortedSet w) (tCons (tScI w wi g tt te vs) tNil)) (wSortSC wa wg wt we vs) := by
  intro σ ρ I μ S H Q Φ rs ok h k
  refine hi σ ρ I μ S H _ _ rs ok h fun J ds I1 μ1 S1 H1 e1 o1 dr q1 => ?_
  intro D hD
  have hZD : Z.z D = none := by
    cases q : Z.z D with
    | none => rfl
    | some u => have := (o1.fra D u q).1; rw [hD] at this; cases this
  have rsw : RpS K mg I1 μ1 (wipe σ vs) (wp ρ vs) := rps_wipe (rs.ext e1) vs
  have nil_ : (fun (_ : Int) => false) = fun (j : Int) => decide (j ∈ ([] : List Int)) := by funext j; simp
  refine ⟨fun i m H' => m = ds.length - i ∧ i ≤ ds.length ∧ ∃ acc I' μ' S' n, Ext I1 μ1 I' μ' ∧ n ≤ acc.length ∧ Ok K mg (Z.up D (SetO w D (fun j => decide (j ∈ acc)) n)) I' μ' S' H' ∧
      compI wg wt we (wp ρ vs) (fun acc S2 => acc.length < 64 ∧ ∀ ms : List Int, ms.Pairwise (· < ·) → (∀ k, k ∈ ms ↔ k ∈ acc) → Φ (.lst (ms.map Sq.D.int)) S2) (ds.drop i) acc S',
    ⟨ds.length, by simp, Nat.zero_le _, [], I1, μ1, S1, 0, .refl, Nat.le_refl _, by rw [← nil_]; exact o1.beside hD, by simpa using q1⟩, ?_⟩
  rintro i m H' ⟨rfl, hil, acc, I', μ', S', n, e', hn, o', q'⟩
  by_cases hlt : i < ds.length
  · have hd : ds[i]? = some ds[i] := List.getElem?_eq_getElem hlt
    rw [List.drop_eq_getElem_cons hlt] at q'
    refine .inr ⟨dr.go _ i I' μ' S' H' e' o' hlt, fun H2 => ∃ acc I2 μ2 S2 n, Ext I1 μ1 I2 μ2 ∧ n ≤ acc.length ∧ Ok K mg (Z.up D (SetO w D (fun j => decide (j ∈ acc)) n)) I2 μ2 S2 H2 ∧
      compI wg wt we (wp ρ vs) (fun acc S2 => acc.length < 64 ∧ ∀ ms : List Int, ms.Pairwise (· < ·) → (∀ k, k ∈ ms ↔ k ∈ acc) → Φ (.lst (ms.map Sq.D.int)) S2) (ds.drop (i + 1)) acc S2, fun H2 y => ⟨ds.length - (i + 1), by omega, rfl, hlt, y⟩, fun x H2 y => ?_⟩
    obtain ⟨I2, e2, o2, r2⟩ := dr.yld _ i _ I' μ' S' H' x H2 e' o' hd y
    refine hg _ x _ (wipe σ vs) σ (wp ρ vs) I2 μ' S' H2 _ _ r2 (wipe_twice σ vs) (rsw.ext (e'.trans e2)) o2 q' fun σ3 ρ3 I3 μ3 S3 H3 e3 rs3 o3 q3 => ?_
    refine ht _ σ3 ρ3 I3 μ3 S3 H3 _ _ rs3 o3 q3 fun b I4 μ4 S4 H4 e4 o4 q4 => ?_
    have e14 : Ext I1 μ1 I4 μ4 := ((e'.trans e2).trans e3).trans e4
    cases b with
    | true =>
      rw [if_pos rfl] at q4 ⊢
      refine he _ σ3 ρ3 I4 μ4 S4 H4 _ _ (rs3.ext e4) o4 q4 fun v d I5 μ5 S5 H5 e5 o5 r5 q5 => ?_
      split at q5
      · rename_i c
        cases r5
        refine ⟨c, _, n, rfl, (o5.fra D _ upd_same).1, bound10k (by omega), ?_⟩
        have ex : (fun j => decide (j ∈ acc) || decide (j = c)) = fun j => decide (j ∈ acc ++ [c]) := by funext j; simp
        rw [ex]
        exact ⟨acc ++ [c], I5, μ5, S5, _, e14.trans e5, by rw [List.length_append]; split <;> simp <;> omega, o5.beside_put, q5.2⟩
      · exact q5.elim
    | false =>
      rw [if_neg Bool.false_ne_true] at q4 ⊢
      exact ⟨acc, I4, μ4, S4, n, e14, hn, o4, q4⟩
  · have hi' : i = ds.length := by omega
    subst hi'
    rw [List.drop_length] at q'
    refine .inl ⟨dr.stop _ I' μ' S' H' e' o', ?_⟩
    obtain ⟨l64, q'⟩ := (by simpa [compI] using q' : acc.length < 64 ∧ ∀ ms : List Int, ms.Pairwise (· < ·) → (∀ k, k ∈ ms ↔ k ∈ acc) → Φ (.lst (ms.map Sq.D.int)) S')
    refine ⟨D, _, n, rfl, (o'.fra D _ upd_same).1, by omega, fun ms p hs hm _ hp => ?_⟩
    have o2 := o'.drop hZD
    exact k _ _ _ μ' S' _ ((e1.trans e').trans (Ext.new (free_of o2.sub hp))) (o2.new hp) (.lst upd_same RpL.ints) (q' ms hs fun k => by rw [hm k]; simp)
theorem se_sortSC (hc : X.calm = true) (hN : X.N.Nodup) (hm : X.mg "sorted" = none) (hi : SI X Γ tg iter wi wa) (ok : BlkOk X.N X.env.scope scope own) (hg : SB X scope (own.map (·.2)) tg g wg) (ht : SF X scope ifs tt wt) (he : SX X scope elt te we) (hs : ∀ x, foldedSetIterable iter X.env x = pure x := by intro _; rfl)
    (hgs : Gl X "sorted" := by rfl) (hst : starEach [.SetComp elt [⟨tg, iter, ifs, 0⟩] scope pos] X.env = (false, eval (.SetComp elt [⟨tg, iter, ifs, 0⟩] scope pos) X.env) :: starEach [] X.env := by rfl) (hpl : (backTo pos2 (starEach [] X.env)).any (·.1) = false := by rfl) :
    SE X Γ (.Call (.Name "sorted" p) [.SetComp elt [⟨tg, iter, ifs, 0⟩] scope pos] [] pos2) (tCB (rSortedSet X.w) (tCons (tScI X.w wi g tt te (own.map (·.2))) tNil)) (wSortSC wa wg wt we (own.map (·.2))) :=
  ⟨pe_callB (cr_sortedSet hc) hgs hm (by decide +kernel) (pa_cons (pe_scI hc hN hi.pi ok hg.pg ht.pt he.pe hs) pa_nil hst) (by decide) (by decide) hst hpl, fun Z lk => sim_sortSC (hi.si Z lk) hg.si ht.si he.si⟩
end
end Sq

set_option Elab.async false
set_option maxRecDepth 100000
set_option maxHeartbeats 4000000
set_option linter.all false
/-! Lists of ranges of any size; enumerate; extend. -/
namespace Sq
open PySem PySem.Spec PyProof.Rows L2

section
variable {prog : Program} {w : World} {A : Around} {E : Value → Shared → Prop} {z : Shared} {r : Addr} {a b c : Int} {t u v : Tok} {n : Nat}
/-- a list takes in a range of great numbers -/
theorem ext_long {R : Result → Shared → Prop} (calm : A.handled = none) (hr : IsRange z.heap r a b c t u v) (big : Builtin.Range.small a b c = false)
    (hn : Builtin.Range.rangeSize a b c = n) (few : n ≤ 2 ^ 24) (L : Addr) (out : Value) (c0 : Nat) (hL : z.heap.get? L = some { cls := .type "list", data := .seq #[] c0 })
    (fin : ∀ h' tk acc c', (∀ b o, b ≠ L → z.heap.get? b = some o → h'.get? b = some o) → h'.get? L = some { cls := .type "list", dict := none, data := .seq acc c', slots := #[] } →
      ItemsOf (fun i v => ∃ t, v = .int (a + i * c) t) acc n → R (.ok (.ret out)) { z with heap := h', toks := tk }) :
    wpAny (model prog w) A.in1 (Builtin.List.listExtendWith (.ref L) (.ref r) out)
      (fun fn s' => match fn with | .done f => R (.ok f) s' | .again c' => c'.quiet = true ∧ codeAny (model prog w) A c' R s') (fun e s' => R (.error e) s') z := by
  have ne : L ≠ r := fun e => by subst e; rw [hr] at hL; simp at hL
  have lt : L < z.heap.objs.size := Heap.lt_size hL
  have ne2 : L ≠ z.heap.objs.size := Nat.ne_of_lt lt
  have nm : L ∉ [z.heap.objs.size] := by simpa using ne2
  have Wk := (Walks.longrange (prog := prog) (w := w) (A := A.in1) calm z.heap.objs.size a c n).toS
  have loop : ∀ (h : Heap) (c1 tk : Nat), IsLongIter h z.heap.objs.size (a + ((0 : Nat) : Int) * c) ((n : Int) - ((0 : Nat) : Int)) c → (∀ b o, b ≠ L → z.heap.get? b = some o → h.get? b = some o) →
      h.get? L = some { cls := .type "list", data := .seq #[] c1 } → codeAny (model prog w) A (.builtin "list.extend.loop" ⟨[.ref L, .ref z.heap.objs.size, out], []⟩) R { z with heap := h, toks := tk } := by
    intro h c1 tk hit hk hL1
    refine codeAny_extend_loopS Wk (by rw [sizeLine_eq]; omega) L nm out n 0 _ #[] c1 rfl (Nat.zero_le _) hit hL1 (ItemsOf.nil _) fun s' acc c' hm hL' hacc => ?_
    rw [Moved.eq_with hm]
    refine fin s'.heap s'.toks acc c' (fun b o hb e => hm.heap b o (fun hmem => ?_) (hk b o hb e)) hL' hacc
    have hmem' : b = L ∨ b = z.heap.objs.size := by simpa using hmem
    cases hmem' with
    | inl q => exact hb q
    | inr q => subst q; exact Nat.lt_irrefl _ (Heap.lt_size e)
  unfold Builtin.List.listExtendWith
  refine wpAny_bind (wpAny_typeOf (T := "range") ⟨_, hr, rfl⟩ ?_)
  have k1 : Builtin.List.listSameRef (.ref L) (.ref r) = false := by simp [Builtin.List.listSameRef, ne]
  have k2 : (Value.type "range" == Value.type "list") = false := by decide
  have k3 : (Value.type "range" == Value.type "tuple") = false := by decide
  simp only [k1, k2, k3, Bool.or_false, Bool.false_eq_true, if_false]
  refine wpAny_bind (wpAny_pyIter_longrange hr big ?_)
  refine wpAny_bind (wpAny_holding (wpAny_hint_range (n := n) (Heap.get?_push_of_some _ hr) hn few ?_))
  have it1 : IsLongIter (z.heap.push { cls := .type "longrange_iterator", data := .fields #[rawInt a, rawInt (Builtin.Range.rangeSize a b c), rawInt c] }) z.heap.objs.size (a + ((0 : Nat) : Int) * c) ((n : Int) - ((0 : Nat) : Int)) c := by
    show IsLongIter _ _ _ _ _
    rw [hn]; simpa using Heap.get?_push_size _ rfl
  have hL1 := Heap.get?_push_of_some { cls := .type "longrange_iterator", data := .fields #[rawInt a, rawInt (Builtin.Range.rangeSize a b c), rawInt c] } hL
  refine wpAny_ite_split (fun _ => ?_) (fun _ => wpAny_pure ⟨plainId_quiet F.plain_extend_loop _, loop _ c0 _ it1 (fun b o _ e => Heap.get?_push_of_some _ e) hL1⟩)
  refine wpAny_bind (wpAny_rule ?_)
  refine wpAny_bind ?_
  show wpAny _ _ (updateSeq L (·.push .none) >>= fun _ => updateSeq L (·.pop)) _ _ _
  refine wpAny_bind (wpAny_updateSeq hL1 rfl ?_)
  have hL2 := Heap.get?_update_self (Obj.mapSeq (·.push Value.none)) hL1 rfl
  refine wpAny_updateSeq (hz := by seq_fits) hL2 rfl ?_
  have hL3 := Heap.get?_update_self (Obj.mapSeq (·.pop)) hL2 rfl
  refine wpAny_pure ⟨plainId_quiet F.plain_extend_loop _, loop _ _ _ ?_ (fun b o hb e => ?_) hL3⟩
  · exact Eq.trans (Heap.get?_update_other _ _ ne2) (Eq.trans (Heap.get?_update_other _ _ ne2) it1)
  · exact Eq.trans (Heap.get?_update_other _ _ (Ne.symm hb)) (Eq.trans (Heap.get?_update_other _ _ (Ne.symm hb)) (Heap.get?_push_of_some _ e))
/-- list(a range of great numbers) -/
theorem list_long {Q : Value → Shared → Prop} (calm : A.handled = none) (hr : IsRange z.heap r a b c t u v) (big : Builtin.Range.small a b c = false) (hn : Builtin.Range.rangeSize a b c = n) (few : n ≤ 2 ^ 24)
    (fin : ∀ h' tk acc c', (∀ b o, z.heap.get? b = some o → h'.get? b = some o) →
      h'.get? z.heap.objs.size = some { cls := .type "list", dict := none, data := .seq acc c', slots := #[] } → ItemsOf (fun i v => ∃ t, v = .int (a + i * c) t) acc n → Q (.ref z.heap.objs.size) { z with heap := h', toks := tk }) :
    wpAny (model prog w) A (call (.type "list") [.ref r]) Q E z := by
  refine callType_codes (Q₁ := fun obj z1 => obj = .ref z.heap.objs.size ∧ z1 = { z with heap := z.heap.push { cls := .type "list", data := .seq #[] } }) F.called_list (F.typeCall_list_1 _) F.entry_list_init
    (code_list_new _ ⟨rfl, rfl⟩) fun obj z1 h1 => ?_
  obtain ⟨rfl, rfl⟩ := h1
  have hL : (z.heap.push { cls := .type "list", data := .seq #[] }).get? z.heap.objs.size = some { cls := .type "list", data := .seq #[] } := Heap.get?_push_size _ rfl
  have hr' : IsRange (z.heap.push { cls := .type "list", data := .seq #[] }) r a b c t u v := Heap.get?_push_of_some _ hr
  refine ⟨⟨_, hL, rfl⟩, F.args_list_init_2 _ _, ?_⟩
  have ne : z.heap.objs.size ≠ r := fun e => by subst e; exact Nat.lt_irrefl _ (Heap.lt_size hr)
  show wpAny _ _ (do let old ← Builtin.List.listItems (.ref z.heap.objs.size); Builtin.List.listUpdate (.ref z.heap.objs.size) (fun _ => #[]); letGo old.toList.reverse; Builtin.List.listExtendWith (.ref z.heap.objs.size) (.ref r) .none) _ _ _
  refine wpAny_bind ?_
  unfold Builtin.List.listItems
  refine wpAny_bind (wpAny_seqItems hL rfl (wpAny_pure ?_))
  show wpAny _ _ (updateSeq z.heap.objs.size (fun _ => #[]) >>= fun _ => letGo (#[] : Array Value).toList.reverse >>= fun _ => Builtin.List.listExtendWith (.ref z.heap.objs.size) (.ref r) .none) _ _ _
  refine wpAny_bind (wpAny_updateSeq hL rfl ?_)
  have hL2 := Heap.get?_update_self (Obj.mapSeq (fun _ => (#[] : Array Value))) hL rfl
  have oth : ∀ b o, b ≠ z.heap.objs.size → (z.heap.push { cls := .type "list", data := .seq #[] }).get? b = some o → ((z.heap.push { cls := .type "list", data := .seq #[] }).update z.heap.objs.size (Obj.mapSeq (fun _ => (#[] : Array Value)))).get? b = some o :=
    fun b o hb e => by rw [Heap.get?_update_other _ _ (Ne.symm hb)]; exact e
  refine wpAny_bind (wpAny_letGo ?_)
  refine ext_long (A := A.in1) calm (oth r _ (Ne.symm ne) hr') big hn few z.heap.objs.size .none _ hL2 fun h' tk acc c' hk hL' hacc => ?_
  exact ⟨rfl, fin h' tk acc c' (fun b o e => hk b o (Nat.ne_of_lt (Heap.lt_size e)) (oth b o (Nat.ne_of_lt (Heap.lt_size e)) (Heap.get?_push_of_some _ e))) hL' hacc⟩
end
section
variable {X : Cx} {Γ : Gam} {e o a b : Expr} {te to ta tb : TE} {we wo wa wb : WE} {p pos cpos apos : Pos}
def tLR (tr : L2.St → Hp → (Int → Int → Hp → Prop) → Prop) : TE := fun σ G Q => tr σ G fun i j G1 => (j - i).toNat ≤ LIM ∧ ∀ q, G1 q = none → Q (.ref q) (upd G1 q (.lst (rgV i j)))
theorem pe_listR {tr : L2.St → Hp → (Int → Int → Hp → Prop) → Prop} (calm : X.calm = true) (hg : Gl X "list") (hm : X.mg "list" = none) (he : PRg X e tr) (na : starEach [e] X.env = (false, eval e X.env) :: starEach [] X.env := by rfl) : PE X (.Call (.Name "list" p) [e] [] pos) (tLR tr) := by
  refine ⟨fun pn z σ G Q J hw => ?_⟩
  refine Call_ (ld_blt J hg hm boot_list (PyProof.Rows.callWith_type1 (args_cons (thn (he pn z σ G _ J hw) fun x z1 ⟨r, i, j, t, u, v, G1, ex, hr, J1, ok, q⟩ => args_nil ?_) na) na))
  subst ex
  have few : (j - i).toNat ≤ 2 ^ 24 := Nat.le_trans ok (by decide)
  have fin : ∀ (h' : Heap) (tk : Nat) (acc : Array Value) (c' : Nat), (∀ b o, z1.heap.get? b = some o → h'.get? b = some o) → h'.get? z1.heap.objs.size = some { cls := .type "list", dict := none, data := .seq acc c', slots := #[] } →
      ItemsOf (fun k v => ∃ t, v = .int (i + k * 1) t) acc (j - i).toNat → EP X pn σ Q (.ref z1.heap.objs.size) { z1 with heap := h', toks := tk } := fun h' tk acc c' hk e' hi => by
    refine ⟨.ref z1.heap.objs.size, upd G1 z1.heap.objs.size (.lst (rgV i j)), J1.laid hk (Nat.le_refl _) (show ObjOk X.prog X.w _ _ _ (.lst (rgV i j)) from ⟨?_, acc.toList, c', vals_rg hi, ?_⟩), rfl, q _ (J1.hok.fresh (Nat.le_refl _))⟩
    · rw [rgV_length, sizeLine_eq]; omega
    · rw [Array.toArray_toList]; exact e'
  cases sm : Builtin.Range.small i j 1 with
  | true => exact call_list_range (n := (j - i).toNat) (J1.ok.hd calm) hr sm (rangeSize_nat i j) few fin
  | false => exact list_long (n := (j - i).toNat) (J1.ok.hd calm) hr sm (rangeSize_nat i j) few fin
theorem rpl_rg {K : PySem.W.Frag} {mg : Str → Option Value} {I : Hp} {μ : List Addr} (i j : Int) : RpL K mg I μ (rgV i j) (rngD i (j - i).toNat) := by
  unfold rgV rngD
  generalize List.range (j - i).toNat = l
  induction l with
  | nil => exact .nil
  | cons k l ih => exact .cons .int ih
/-- list(range(i, j)) -/
def wLRg2 (wa wb : WE) : WE := fun ρ S Q => wa ρ S fun x S1 => wb ρ S1 fun y S2 => match x, y with
  | .int i, .int j => (j - i).toNat ≤ LIM ∧ Q (.lst (rngD i (j - i).toNat)) S2
  | _, _ => False
def wLRg1 (wa : WE) : WE := fun ρ S Q => wa ρ S fun x S1 => match x with
  | .int j => (j - 0).toNat ≤ LIM ∧ Q (.lst (rngD 0 (j - 0).toNat)) S1
  | _ => False
theorem se_listR2 {p2 pos2 : Pos} (calm : X.calm = true) (hl : X.mg "list" = none) (hr : X.mg "range" = none) (ha : SE X Γ a ta wa) (hb : SE X Γ b tb wb) (hg : Gl X "list" := by rfl) (hgr : Gl X "range" := by rfl)
    (n0 : starEach [.Call (.Name "range" p2) [a, b] [] pos2] X.env = (false, eval (.Call (.Name "range" p2) [a, b] [] pos2) X.env) :: starEach [] X.env := by rfl) (n1 : starEach [a, b] X.env = (false, eval a X.env) :: starEach [b] X.env := by rfl) (n2 : starEach [b] X.env = (false, eval b X.env) :: starEach [] X.env := by rfl) (n3 : (backTo pos2 (starEach [b] X.env)).any (·.1) = false := by rfl) :
    SE X Γ (.Call (.Name "list" p) [.Call (.Name "range" p2) [a, b] [] pos2] [] pos) (tLR (tRg2 ta tb)) (wLRg2 wa wb) :=
  ⟨pe_listR calm hg hl (prg_2 hgr hr ha.pe hb.pe n1 n2 n3) n0, fun Z lk σ ρ I μ S H Q Φ rs ok hw k => ha.si Z lk σ ρ I μ S H _ _ rs ok hw fun v x I1 μ1 S1 H1 e1 o1 r1 q1 => hb.si Z lk σ ρ I1 μ1 S1 H1 _ _ (rs.ext e1) o1 q1 fun u y I2 μ2 S2 H2 e2 o2 r2 q2 => by
    split at q2
    · rename_i i j
      cases r1
      cases r2
      refine ⟨i, j, rfl, rfl, q2.1, fun q hq => ?_⟩
      exact k _ _ _ μ2 S2 _ ((e1.trans e2).trans (Ext.new (free_of o2.sub hq))) (o2.new hq) (.lst upd_same (rpl_rg i j)) q2.2
    · exact q2.elim⟩
theorem se_listR1 {p2 pos2 : Pos} (calm : X.calm = true) (hl : X.mg "list" = none) (hr : X.mg "range" = none) (ha : SE X Γ a ta wa) (hg : Gl X "list" := by rfl) (hgr : Gl X "range" := by rfl)
    (n0 : starEach [.Call (.Name "range" p2) [a] [] pos2] X.env = (false, eval (.Call (.Name "range" p2) [a] [] pos2) X.env) :: starEach [] X.env := by rfl) (n1 : starEach [a] X.env = (false, eval a X.env) :: starEach [] X.env := by rfl) :
    SE X Γ (.Call (.Name "list" p) [.Call (.Name "range" p2) [a] [] pos2] [] pos) (tLR (tRg1 ta)) (wLRg1 wa) :=
  ⟨pe_listR calm hg hl (prg_1 hgr hr ha.pe n1) n0, fun Z lk σ ρ I μ S H Q Φ rs ok hw k => ha.si Z lk σ ρ I μ S H _ _ rs ok hw fun v x I1 μ1 S1 H1 e1 o1 r1 q1 => by
    split at q1
    · rename_i j
      cases r1
      refine ⟨j, rfl, q1.1, fun q hq => ?_⟩
      exact k _ _ _ μ1 S1 _ (e1.trans (Ext.new (free_of o1.sub hq))) (o1.new hq) (.lst upd_same (rpl_rg 0 j)) q1.2
    · exact q1.elim⟩

/-! ### enumerate -/
def enumD (ds : List D) : List D := ds.zipIdx.map fun q => D.tup [.int (q.2 : Nat), q.1]
theorem enumD_length (ds : List D) : (enumD ds).length = ds.length := by simp [enumD]
theorem enumD_get {ds : List D} {i : Nat} {x : D} (h : (enumD ds)[i]? = some x) : ∃ d, ds[i]? = some d ∧ x = .tup [.int (i : Nat), d] := by
  unfold enumD at h
  rw [List.getElem?_map] at h
  cases q : ds.zipIdx[i]? with
  | none => rw [q] at h; cases h
  | some y =>
    rw [q] at h
    cases h
    have hi : i < ds.length := by
      have := (List.getElem?_eq_some_iff.mp q).1
      simpa using this
    rw [List.getElem?_eq_getElem (by simpa using hi)] at q
    simp only [List.getElem_zipIdx, Option.some.injEq] at q
    subst q
    exact ⟨ds[i], List.getElem?_eq_getElem hi, by simp⟩
theorem drw_enum {K : PySem.W.Frag} {mg : Str → Option Value} {I : Hp} {μ : List Addr} {a : Addr} {vs : List V} {ds : List D} (h : I a = some (.lst vs)) (r : RpL K mg I μ vs ds) : Drw K mg (Ite K a) I μ (enumD ds) where
  go := fun Z i I' μ' S H e o hi => by
    rw [enumD_length] at hi
    exact ⟨vs, vs[i]'(by rw [r.length]; exact hi), SqL.of (o.sub _ _ (e.hp _ _ h)), List.getElem?_eq_getElem _⟩
  yld := fun Z i d I' μ' S H x H' e o hd y => by
    obtain ⟨T, y0, rfl, nT, rfl, y⟩ := y
    obtain ⟨d0, hd0, rfl⟩ := enumD_get hd
    have q := y vs (SqL.of (o.sub _ _ (e.hp _ _ h)))
    obtain ⟨d', e1, r1⟩ := r.getV q
    rw [hd0] at e1
    cases e1
    have en : Ext I' μ' (upd I' T (.tup [.int (i : Nat), y0])) μ' := Ext.new (free_of o.sub nT)
    exact ⟨_, en, o.new nT, .tup (SqT.of upd_same) (.cons .int (.cons ((r1.ext e).ext en) .nil))⟩
  stop := fun Z I' μ' S H e o => ⟨vs, SqL.of (o.sub _ _ (e.hp _ _ h)), by rw [enumD_length, r.length]; exact Nat.le_refl _⟩
def wEnum (we : WE) : WA := fun ρ S Q => we ρ S fun d S1 => match d with
  | .lst ds => Q (enumD ds) S1
  | .h n => match S1[n]? with
    | some (.lst ds) => Q (enumD ds) (S1.set n (.frz (.lst ds)))
    | some (.frz (.lst ds)) => Q (enumD ds) S1
    | _ => False
  | _ => False
theorem si_enum {elts : List Expr} {kk : Nat} {tpos : Pos} (hm : X.mg "enumerate" = none) (h : SE X Γ e te we) (hg : Gl X "enumerate" := by rfl) (n0 : starEach [e] X.env = (false, eval e X.env) :: starEach [] X.env := by rfl) (n1 : starEach [e] X.env = [(false, eval e X.env)] := by rfl) :
    SI X Γ (.Tuple elts kk tpos) (.Call (.Name "enumerate" p) [e] [] pos) (iEnum X.K (tCons te tNil)) (wEnum we) :=
  ⟨pi_enum hg hm (pa_cons h.pe pa_nil n0) n1, fun Z lk σ ρ I μ S H R Φ rs ok hw k => h.si Z lk σ ρ I μ S H _ _ rs ok hw fun v d I1 μ1 S1 H1 e1 o1 r1 q1 => by
    split at q1
    · cases r1 with
      | lst z t => exact ⟨_, _, rfl, SqL.of (o1.sub _ _ z), k _ _ I1 μ1 S1 H1 e1 o1 (drw_enum z t) q1⟩
    · split at q1
      · rename_i n _ ds q
        cases r1 with
        | h z =>
          obtain ⟨a, I2, z2, e2, o2, r2⟩ := o1.freeze q
          rw [z] at z2
          cases z2
          cases r2 with
          | lst y t => exact ⟨_, _, rfl, SqL.of (o2.sub _ _ y), k _ _ I2 μ1 _ H1 (e1.trans e2) o2 (drw_enum y t) q1⟩
      · rename_i n _ ds q
        cases r1 with
        | h z =>
          have y := (o1.ob n _ _ z q).2
          cases y with
          | lst y t => exact ⟨_, _, rfl, SqL.of (o1.sub _ _ y), k _ _ I1 μ1 _ H1 e1 o1 (drw_enum y t) q1⟩
      · exact q1.elim
    · exact q1.elim⟩

/-! ### extend -/
/-- o.extend(e), o a list in the store, e another list -/
def wExt (wo we : WE) : WE := fun ρ S Q => wo ρ S fun x S1 => match x with
  | .h n => (match S1[n]? with | some (.lst _) => True | _ => False) ∧ we ρ S1 fun d S2 => match S2[n]? with
    | some (.lst ds) => match d with
      | .h _ => False
      | d => match view S2 d with
        | .lst es => ds.length + es.length ≤ LIM ∧ Q .non (S2.set n (.lst (ds ++ es)))
        | _ => False
    | _ => False
  | _ => False
theorem se_ext (ho : SE X Γ o to wo) (he : SE X Γ e te we) (h1 : attributeBase o "extend" X.env (eval o X.env) = eval o X.env := by rfl)
    (h2 : ((backTo cpos (starEach [e] X.env)).all (fun x => !x.1) && (backToKw cpos (keywordEach [] X.env)).all (fun x => x.1.isSome) && decide ([e].length + ([] : List Keyword).length + (if ([] : List Keyword).isEmpty then 0 else 1) < 30)) = true := by rfl)
    (h3 : (apos.endLine == cpos.line) = true := by rfl) (h4 : starEach [e] X.env = (false, eval e X.env) :: starEach [] X.env := by rfl) (h5 : (backTo cpos (starEach [] X.env)).any (·.1) = false := by rfl) :
    SE X Γ (.Call (.Attribute o "extend" apos) [e] [] cpos) (tBM X.K "list" rExtend to (tCons te tNil)) (wExt wo we) :=
  ⟨pe_bm PySem.F.plainAttrs_list PySem.F.slot_list_extend PySem.F.type_list_extend mt_extend ho.pe (pa_cons he.pe pa_nil h4) h1 h2 h3 h4 h5, fun Z lk σ ρ I μ S H Q Φ rs ok hw kp => by
    refine ho.si Z lk σ ρ I μ S H _ _ rs ok hw fun v x I1 μ1 S1 H1 e1 o1 r1 q1 => ?_
    split at q1
    · rename_i n
      obtain ⟨q0, q1⟩ := q1
      split at q0
      · rename_i ds z
        cases r1 with
        | h hn =>
          obtain ⟨hi, vs, hH, rl⟩ := o1.ob _ _ _ hn z
          refine ⟨.inl ⟨rfl, _, SqL.of hH⟩, ?_⟩
          refine he.si Z lk σ ρ I1 μ1 S1 H1 _ _ (rs.ext e1) o1 q1 fun u d I2 μ2 S2 H2 e2 o2 r2 q2 => ?_
          split at q2
          · rename_i es z2
            obtain ⟨hi2, ws, hH2, rl2⟩ := o2.ob _ _ _ (e2.mu _ _ hn) z2
            split at q2
            · exact q2.elim
            · split at q2
              · rename_i fs e3
                obtain ⟨p2, us, rfl, hB, tl⟩ := view_lst o2 r2 e3
                refine ⟨_, _, ws, us, rfl, rfl, hH2, hB, lim (by rw [rl2.length, tl.length]; exact q2.1), ?_⟩
                exact kp .non .non I2 μ2 _ _ (e1.trans e2) (o2.put (m := .lst (es ++ fs)) (e2.mu _ _ hn) hi2 ⟨hi2, _, upd_same, rl2.append tl⟩) .non q2.2
              · exact q2.elim
          · exact q2.elim
      · exact q0.elim
    · exact q1.elim⟩
end
end Sq

set_option Elab.async false
set_option maxRecDepth 100000
set_option maxHeartbeats 4000000
set_option linter.all false
/-! == and != of instances by their own __eq__. -/
namespace Sq
open PySem PySem.Spec PyProof.Rows L2

section
variable {prog : Program} {w : World} {A : Around} {E : Value → Shared → Prop} {z : Shared} {K : PySem.W.Frag} {x C L f : Addr} {h0 : Heap} {m : Str → Option Value} {ox : Obj} {od : Option Obj} {b tb : Value}
/-- x != b: x's own __eq__, turned about -/
theorem ne_own {Q : Value → Shared → Prop} (room : A.units + 1 < cLine) (X : K.In z.heap) (I : PySem.W.InstAt z.heap x ox C od) (hb : PySem.W.Looks (model prog w) z.heap (typeOf b) tb) (hn : PySem.W.notFirst K C tb = true)
    (hne : PySem.W.findIn K (.ref C) "__ne__" = some (some (.builtin "object.__ne__"))) (heq : PySem.W.findIn K (.ref C) "__eq__" = some (some (.ref f))) (hf : PySem.W.isFn K (.ref f) = true) (ho : PySem.W.mroIn K C (.type "object") = some true)
    (run : wpAny (model prog w) A.in1 (call (.ref f) [.ref x, b]) (fun v z' => ∃ c, v = .bool c ∧ Q (.bool (!c)) z') E z) : wpAny (model prog w) A (richCompare .NotEq (.ref x) b) Q E z := by
  have isO : PySem.W.Looks (model prog w) z.heap (isInstance (.ref x) (.type "object")) true := I.type.andThen (PySem.W.looks_mroIn X ho)
  have one : wpAny (model prog w) A (tryCompare (.ref x) "__ne__" b) (fun r z' => ∃ v, r = some v ∧ Q v z') E z := by
    unfold tryCompare
    refine wpAny_bind ?_
    simp only [callSpecialIfBound?, bindSpecialIfBound?]
    refine wpAny_holding (wpAny_bind (wpAny_bind (wpAny_bind (I.type.here ((PySem.W.looks_findIn X hne).here ?_)))))
    refine wpAny_bind (wpAny_askSetting (wpAny_ite ?_))
    have fin : wpAny (model prog w) A (call (.builtin "object.__ne__") ([.ref x] ++ [b]) >>= fun v => pure (some v)) (fun r z' => wpAny (model prog w) A (match r with
        | some .notImplemented | none => pure none
        | some v => pure (some v)) (fun r z' => ∃ v, r = some v ∧ Q v z') E z') E z := by
      refine wpAny_bind (wpAny_call (codeAny_call_builtin PySem.F.cmp_object.ne.plain F.cmpEntry_ne ?_))
      refine @PySem.W.check_slot (model prog w) _ _ z "object.__ne__" "object" "__ne__" (.ref x) [b] [] _ F.cmpKind_ne F.cmpSplit_ne isO (F.cmpArgs_ne _ _) ?_
      unfold Builtin.«object.__ne__»
      repeat (first
        | with_reducible refine wpAny_cRoomFor (A := A.in1) room ?_
        | (refine wpAny_bind (m := callSpecialIfBound? (.ref x) (Str.ofString "__eq__") [b]) (PySem.W.ifBound_K X I heq hf (wpAny_mono run (fun v z' hv => ?_) fun _ _ e => e)))
        | wp_step)
      obtain ⟨c, rfl, q⟩ := hv
      refine wpAny_bind (m := truthy (.bool _)) (wpAny_truthy_bool ?_)
      exact wpAny_pure (wpAny_pure (wpAny_pure ⟨_, rfl, q⟩))
    split
    · rw [PySem.F.cmp_object.ne.bind]
      exact wpAny_bind (wpAny_pure (wpAny_pure fin))
    · rw [PySem.F.cmp_object.ne.bind]
      exact wpAny_tryCatch (wpAny_bind (wpAny_pure (wpAny_pure fin)))
  have fin : wpAny (model prog w) A (tryCompare (.ref x) "__ne__" b) (fun r z' => ∃ v, r = some v ∧ Q v z') E z := one
  unfold richCompare
  simp only [oneThing_ref]
  refine wpAny_holding (wpAny_bind (wpAny_cRoomFor (Nat.lt_of_succ_lt room) ?_))
  refine wpAny_bind (I.type.here (wpAny_bind (hb.here ?_)))
  have last : ∀ {r : Option Value} {z' : Shared}, (∃ v, r = some v ∧ Q v z') → wpAny (model prog w) A (match r with
      | some v => pure v
      | none => unsupported "") Q E z' := fun ⟨v, e, q⟩ => by subst e; exact wpAny_pure q
  split
  · rename_i q
    have e : PySem.W.subIn K tb (.ref C) = some false := by
      rcases Bool.or_eq_true_iff.mp hn with e | e
      · rw [beq_iff_eq.mp e] at q; simp at q
      · exact beq_iff_eq.mp e
    refine wpAny_bind ((PySem.W.looks_subIn X e).here ?_)
    simp only [Bool.false_eq_true, if_false]
    refine wpAny_bind (wpAny_mono fin (fun r z' y => ?_) fun _ _ e => e)
    obtain ⟨v, rfl, hq⟩ := y
    exact wpAny_pure hq
  · refine wpAny_bind (wpAny_pure ?_)
    simp only [Bool.false_eq_true, if_false]
    refine wpAny_bind (wpAny_mono fin (fun r z' y => ?_) fun _ _ e => e)
    obtain ⟨v, rfl, hq⟩ := y
    exact wpAny_pure hq
end
end Sq

set_option Elab.async false
set_option maxRecDepth 100000
set_option maxHeartbeats 4000000
set_option linter.all false
/-! Own exceptions whose __init__ says super().__init__(x) and keeps x under a name. -/
namespace Sq
open PySem PySem.Spec PyProof.Rows L2

structure SupE (self x f : Str) (p0 p1 p2 p3 p4 p5 p6 p7 p8 p9 : Pos) (env : Env) : Prop where
  ev : ∃ pl : Sem Bool, eval (.Call (.Attribute (.Call (.Name "super" p0) [] [] p1) "__init__" p2) [.Name x p3] [] p4) env = (do
      let ov ← attributeBase (.Call (.Name "super" p0) [] [] p1) "__init__" env (eval (.Call (.Name "super" p0) [] [] p1) env)
      standAt p2.atName
      let (u, first) ← holding [ov] (getMethod ov "__init__" pl)
      callWith p4 u first (backTo p4 (starEach [.Name x p3] env)) [])
  ia : interactive env = false
  s1 : swapsWith (.Call (.Attribute (.Call (.Name "super" p0) [] [] p1) "__init__" p2) [.Name x p3] [] p4) none p5.line env = pure false
  s2 : swapsWith (.Name x p8) (some (.Attribute (.Name self p6) f p7)) p9.line env = pure false
  st : starEach [.Name x p3] env = (false, eval (.Name x p3) env) :: starEach [] env
/-- the class at C, its __init__ the def at fI: x is kept under the name f -/
structure SupK (P : Program) (K : PySem.W.Frag) (C fI : Addr) (f : Str) : Prop where
  cls : ∃ nm q N bs bm sn sub ab col dd k0 k1 k2 k3 k5, K.lookup C = some (excClassObj nm q C N bs bm true sn sub ab col dd k0 k1 k2 k3 k5 "ValueError.__new__") ∧ PySem.HandSPX.refsVE bm = true ∧ PySem.W.alongIn K "__init__" bm = some (some (.builtin "ValueError.__init__"))
  sa : PySem.W.findIn K (.ref C) "__setattr__" = some (some (.builtin "object.__setattr__"))
  no : PySem.W.findIn K (.ref C) f = some none
  bex : PySem.W.subIn K (.ref C) (.type "BaseException") = some true
  val : PySem.W.subIn K (.ref C) (.type "ValueError") = some true
  own : PySem.W.mroIn K C (.ref C) = some true
  ty : PySem.W.typeIn K (.ref C) = some (.type "type")
  kp : PySem.W.keepIn K (.ref C) = true
  ini : PySem.W.findIn K (.ref C) "__init__" = some (some (.ref fI))
  tyI : PySem.W.typeIn K (.ref fI) = some (.type "function")
  opq : PySem.W.nsIn K cStatics "thirdparty.any" = some none
  sup : PySem.W.nsIn K mainGlobals "super" = some none
  def_ : ∃ (oc : Value) (od : Option Addr) (osl : Array (Option Value)) (qual self x : Str) (params : Arguments) (scope : Scope) (dV kV doc pm ct : Value) (an : Option Addr) (cda cc : Addr) (p0 p1 p2 p3 p4 p5 p6 p7 p8 p9 : Pos) (ar : Arg) (vs : Array Value) (file : Str) (tf : Tok) (ccl : Value) (cdd : Option Addr) (ccs : Array (Option Value)) (cl : Value) (cld : Option Addr) (csl : Array (Option Value)),
    K.lookup fI = some ⟨oc, od, .func (PySem.W.ksFn "__init__" qual params [.Expr (.Call (.Attribute (.Call (.Name "super" p0) [] [] p1) "__init__" p2) [.Name x p3] [] p4) p5, .Assign [.Attribute (.Name self p6) f p7] (.Name x p8) p9] scope dV kV doc pm an (.ref cda) ct cc), osl⟩ ∧
    PySem.W.codeIn K (.ref cda) qual = true ∧ (params.posonlyargs ++ params.args).head? = some ar ∧ ar.arg = self ∧ self ≠ x ∧
    K.lookup cda = some ⟨ccl, cdd, .fields vs, ccs⟩ ∧ vs[2]? = some (.str file tf) ∧ ((P.main.file : Str) == file) = true ∧ (P.main.scope.names.lookup ("super" : Str)).isSome = false ∧
    K.lookup cc = some ⟨cl, cld, .cell (some (.ref C)), csl⟩ ∧
    scope.names.lookup ("super" : Str) = some .globalImplicit ∧ scope.names.lookup ("__class__" : Str) = some .free ∧ scope.names.lookup self = some .local ∧ scope.names.lookup x = some .local ∧ scope.kind = .function ∧ (∀ y ∈ scope.names, y.2 ≠ .cell) ∧ scope.isCoroutine = false ∧ scope.isGenerator = false ∧
    (self == ("__debug__" : Str)) = false ∧ (x == ("__debug__" : Str)) = false ∧
    (∀ (u v : Value), bindArgs (PySem.W.ksFn "__init__" qual params [.Expr (.Call (.Attribute (.Call (.Name "super" p0) [] [] p1) "__init__" p2) [.Name x p3] [] p4) p5, .Assign [.Attribute (.Name self p6) f p7] (.Name x p8) p9] scope dV kV doc pm an (.ref cda) ct cc) ⟨[u, v], []⟩ = pure [(self, u), (x, v)]) ∧
    (∀ L : Addr, SupE self x f p0 p1 p2 p3 p4 p5 p6 p7 p8 p9 (callEnv (PySem.W.ksFn "__init__" qual params [.Expr (.Call (.Attribute (.Call (.Name "super" p0) [] [] p1) "__init__" p2) [.Name x p3] [] p4) p5, .Assign [.Attribute (.Name self p6) f p7] (.Name x p8) p9] scope dV kV doc pm an (.ref cda) ct cc) L fI))
section
variable {P : Program} {w : World} {A : Around} {K : PySem.W.Frag} {C fI e t0 : Addr} {f : Str} {hp : Heap} {g : Array GenState} {d : Drawn} {t : Nat} {os : OsState} {R : Result → Shared → Prop} {v : Value} {mb : Str → Option Value} {mg : Str → Option Value}
abbrev exO (C t0 : Addr) (dv : Option Addr) : Obj := { cls := .ref C, dict := dv, data := .fields #[.ref t0, .none, .none, .none, .bool false, .none] }
theorem call_bw1 {M : Model} {E : Value → Shared → Prop} {env : Env} {pos p3 : Pos} {x : Str} {Q : Value → Shared → Prop} {z : Shared} {u : Addr} {m : Str → Option Value} {i : String} (st : starEach [.Name x p3] env = (false, eval (.Name x p3) env) :: starEach [] env) (kind : env.scope.kind = .function)
    (hx : env.kindOf x = some .local) (hd : (x == ("__debug__" : Str)) = false) (n : z.heap.Ns env.locals m) (hv : m x = some v) (hu : z.heap.get? u = some (PySem.W.kxs_mw i e)) (h : wpAny M A (call (.ref u) [v]) Q E z) : wpAny M A (callWith pos (.ref u) [] (backTo pos (starEach [.Name x p3] env)) []) Q E z := by
  have a : wpAny M A (spliced (backTo pos (starEach [.Name x p3] env))) (fun vs s1 => PySem.W.KxsAt i u e s1.heap ∧ wpAny M A (call (.ref u) ([] ++ vs)) Q E s1) E z := args_cons (wpAny_Name (wpAny_loadName_local kind hx n hv (args_nil ⟨hu, h⟩)) hd) st
  rw [st] at a ⊢
  exact PySem.W.kxs_callWith (i := i) (x := e) rfl (Calls.evalArgs_plain a)
theorem sup_init (T : SupK P K C fI f) (room : A.depth < recursionLimit) (X : K.In hp) (gl : hp.Ns mainGlobals mg) (bl : hp.Ns builtinsNs mb) (bl2 : ∀ x : Str, x ≠ "__name__" → mb x = bootBuiltins x) (nl : hp.NoLimit) (he : hp.get? e = some (exO C t0 none)) (ke : K.lookup e = none)
    (fin : ∀ h' t1 dx tk', (∀ b o, b ≠ e → hp.get? b = some o → h'.get? b = some o) → hp.objs.size ≤ dx → h'.get? e = some (exO C t1 (some dx)) → h'.Ns1 dx (fun y => if y = f then some v else none) → R (.ok (.ret .none)) ⟨h', g, d, tk', os⟩) :
    codeAny (model P w) A (.call (.ref fI) ⟨[.ref e, v], []⟩) R ⟨hp, g, d, t, os⟩ := by
  obtain ⟨nm, q, N, bs, bm, sn, sub, ab, col, dd, k0, k1, k2, k3, k5, hC, hbm, along⟩ := T.cls
  obtain ⟨oc, od, osl, qual, self, x, params, scope, dV, kV, doc, pm, ct, an, cda, cc, p0, p1, p2, p3, p4, p5, p6, p7, p8, p9, ar, vs, file, tf, ccl, cdd, ccs, cl, cld, csl, lk, hcd, har, hself, hne, lcd, hvs, hfile, htop, lcc, ss, sc, sself, sx, kind, ncell, nco, ngen, ds, dx_, bnd, sq⟩ := T.def_
  subst hself
  refine PySem.ks_codeAny_call_defAt room (X _ _ lk) rfl nl (PySem.W.codeRec_of X hcd) rfl (BindsTo.of_eq (bnd (.ref e) v)) ncell (fun y hy => ?_) (fun h1 hn1 hk1 => ?_) nco ngen kind
  · simp only [List.mem_cons, List.not_mem_nil, or_false] at hy
    rcases hy with rfl | rfl
    · exact sself
    · exact sx
  have X1 : K.In h1 := X.keeps hk1
  have gl1 : h1.Ns mainGlobals mg := gl.keeps hk1
  have bl1 : h1.Ns builtinsNs mb := bl.keeps hk1
  have he1 := hk1 _ _ he
  have v0 : ([(ar.arg, Value.ref e), (x, v)].reverse.lookup ar.arg) = some (.ref e) := by
    have z : (ar.arg == x) = false := by simpa using hne
    simp [List.lookup, z]
  have v1 : ([(ar.arg, Value.ref e), (x, v)].reverse.lookup x) = some v := by simp [List.lookup]
  have eL : e ≠ hp.objs.size := fun z => by subst z; exact Nat.lt_irrefl _ (Heap.lt_size he)
  have hcl : PySem.W.clsIn K C = some { name := nm, bases := bs, mro := .ref C :: bm, ns := N, qualname := q, hasDict := true, slotNames := sn, subclasses := sub, abstract := ab, collection := col, hasDel := false } := by unfold PySem.W.clsIn; rw [hC] <;> rfl
  obtain ⟨oD, hD1, hD2⟩ : ∃ oD, K.lookup C = some oD ∧ oD.data = .cls { name := nm, bases := bs, mro := .ref C :: bm, ns := N, qualname := q, hasDict := true, slotNames := sn, subclasses := sub, abstract := ab, collection := col, hasDel := false } := ⟨_, hC, rfl⟩
  have nsL : ∀ {h2 : Heap}, (∀ b o, b ≠ e → h1.get? b = some o → h2.get? b = some o) → h2.Ns hp.objs.size (fun y => [(ar.arg, Value.ref e), (x, v)].reverse.lookup y) := fun k => by
    obtain ⟨o, es, ep, ho, r⟩ := id hn1
    exact ⟨o, es, ep, k _ _ (Ne.symm eL) ho, r⟩
  obtain ⟨⟨pl, ev⟩, ia, s1, s2, st⟩ := sq hp.objs.size
  have E1 : ∀ y, (callEnv (PySem.W.ksFn "__init__" qual params [.Expr (.Call (.Attribute (.Call (.Name "super" p0) [] [] p1) "__init__" p2) [.Name x p3] [] p4) p5, .Assign [.Attribute (.Name ar.arg p6) f p7] (.Name x p8) p9] scope dV kV doc pm an (.ref cda) ct cc) hp.objs.size fI).kindOf y = scope.names.lookup y := fun _ => rfl
  have E2 : (callEnv (PySem.W.ksFn "__init__" qual params [.Expr (.Call (.Attribute (.Call (.Name "super" p0) [] [] p1) "__init__" p2) [.Name x p3] [] p4) p5, .Assign [.Attribute (.Name ar.arg p6) f p7] (.Name x p8) p9] scope dV kV doc pm an (.ref cda) ct cc) hp.objs.size fI).scope.kind = .function := kind
  have E3 : (callEnv (PySem.W.ksFn "__init__" qual params [.Expr (.Call (.Attribute (.Call (.Name "super" p0) [] [] p1) "__init__" p2) [.Name x p3] [] p4) p5, .Assign [.Attribute (.Name ar.arg p6) f p7] (.Name x p8) p9] scope dV kV doc pm an (.ref cda) ct cc) hp.objs.size fI).locals = hp.objs.size := rfl
  have E4 : (callEnv (PySem.W.ksFn "__init__" qual params [.Expr (.Call (.Attribute (.Call (.Name "super" p0) [] [] p1) "__init__" p2) [.Name x p3] [] p4) p5, .Assign [.Attribute (.Name ar.arg p6) f p7] (.Name x p8) p9] scope dV kV doc pm an (.ref cda) ct cc) hp.objs.size fI).func = some fI := rfl
  have E5 : (callEnv (PySem.W.ksFn "__init__" qual params [.Expr (.Call (.Attribute (.Call (.Name "super" p0) [] [] p1) "__init__" p2) [.Name x p3] [] p4) p5, .Assign [.Attribute (.Name ar.arg p6) f p7] (.Name x p8) p9] scope dV kV doc pm an (.ref cda) ct cc) hp.objs.size fI).code = .ref cda := rfl
  have E6 : (callEnv (PySem.W.ksFn "__init__" qual params [.Expr (.Call (.Attribute (.Call (.Name "super" p0) [] [] p1) "__init__" p2) [.Name x p3] [] p4) p5, .Assign [.Attribute (.Name ar.arg p6) f p7] (.Name x p8) p9] scope dV kV doc pm an (.ref cda) ct cc) hp.objs.size fI).cells.lookup ("__class__" : Str) = some cc := rfl
  have E7 : (callEnv (PySem.W.ksFn "__init__" qual params [.Expr (.Call (.Attribute (.Call (.Name "super" p0) [] [] p1) "__init__" p2) [.Name x p3] [] p4) p5, .Assign [.Attribute (.Name ar.arg p6) f p7] (.Name x p8) p9] scope dV kV doc pm an (.ref cda) ct cc) hp.objs.size fI).globals = mainGlobals := rfl
  have E8 : (callEnv (PySem.W.ksFn "__init__" qual params [.Expr (.Call (.Attribute (.Call (.Name "super" p0) [] [] p1) "__init__" p2) [.Name x p3] [] p4) p5, .Assign [.Attribute (.Name ar.arg p6) f p7] (.Name x p8) p9] scope dV kV doc pm an (.ref cda) ct cc) hp.objs.size fI).builtins = builtinsNs := rfl
  show _root_.PySem.wpAt (model P w) (A.deeper (callEnv (PySem.W.ksFn "__init__" qual params [.Expr (.Call (.Attribute (.Call (.Name "super" p0) [] [] p1) "__init__" p2) [.Name x p3] [] p4) p5, .Assign [.Attribute (.Name ar.arg p6) f p7] (.Name x p8) p9] scope dV kV doc pm an (.ref cda) ct cc) hp.objs.size fI)) (.func _ (callEnv (PySem.W.ksFn "__init__" qual params [.Expr (.Call (.Attribute (.Call (.Name "super" p0) [] [] p1) "__init__" p2) [.Name x p3] [] p4) p5, .Assign [.Attribute (.Name ar.arg p6) f p7] (.Name x p8) p9] scope dV kV doc pm an (.ref cda) ct cc) hp.objs.size fI)) (execs _ (callEnv (PySem.W.ksFn "__init__" qual params [.Expr (.Call (.Attribute (.Call (.Name "super" p0) [] [] p1) "__init__" p2) [.Name x p3] [] p4) p5, .Assign [.Attribute (.Name ar.arg p6) f p7] (.Name x p8) p9] scope dV kV doc pm an (.ref cda) ct cc) hp.objs.size fI)) _ (fun e' s' => wpAny (model P w) (A.deeper (callEnv (PySem.W.ksFn "__init__" qual params [.Expr (.Call (.Attribute (.Call (.Name "super" p0) [] [] p1) "__init__" p2) [.Name x p3] [] p4) p5, .Assign [.Attribute (.Name ar.arg p6) f p7] (.Name x p8) p9] scope dV kV doc pm an (.ref cda) ct cc) hp.objs.size fI)) (leaving (callEnv (PySem.W.ksFn "__init__" qual params [.Expr (.Call (.Attribute (.Call (.Name "super" p0) [] [] p1) "__init__" p2) [.Name x p3] [] p4) p5, .Assign [.Attribute (.Name ar.arg p6) f p7] (.Name x p8) p9] scope dV kV doc pm an (.ref cda) ct cc) hp.objs.size fI) e') _ _ s') _
  generalize hE : callEnv (PySem.W.ksFn "__init__" qual params [.Expr (.Call (.Attribute (.Call (.Name "super" p0) [] [] p1) "__init__" p2) [.Name x p3] [] p4) p5, .Assign [.Attribute (.Name ar.arg p6) f p7] (.Name x p8) p9] scope dV kV doc pm an (.ref cda) ct cc) hp.objs.size fI = env at *
  refine PySem.ks_wpAt_execs_cons (PySem.ks_wpAt_Expr_any (PySem.ks_wpAt_MethodCall (pl := pl) ?_ ev) ia s1)
  refine PySem.ks_wpAt_super_base ((E1 _).trans ss) ((E1 _).trans sc) (by decide) E4 (X1 _ _ lk) rfl har E5 (X1 _ _ lcd) rfl hvs hfile htop ?_
  refine PySem.W.ks_loadName_global E2 ((E1 _).trans ss) (Calls.loadGlobal_builtin (by rw [E7]; exact gl1) ?_ (by rw [E8]; exact bl1) ((bl2 _ (by decide +kernel)).trans (by decide +kernel)) ⟨rfl, ?_⟩)
  · exact PySem.W.mg_none_of X gl T.sup
  refine wpAny_loadName_free E2 ((E1 _).trans sc) E6 ⟨_, X1 _ _ lcc, rfl⟩ ?_
  refine wpAny_loadName_local E2 ((E1 _).trans sself) (by rw [E3]; exact hn1) v0 ?_
  refine PySem.ks_wpAny_isType_cls (X1 _ _ hD1) hD2 ⟨rfl, ?_⟩
  refine PySem.ks_wpAny_call_super (X1 _ _ hD1) hD2 he1 rfl (fun c z => nomatch z) (PySem.W.looks_mroIn X1 T.own) (fun h2 e2 k2 => ?_)
  have X2 : K.In h2 := X1.keeps k2
  have he2 := k2 _ _ he1
  have I2 : PySem.W.InstAt h2 e (exO C t0 none) C none := ⟨he2, rfl, rfl, trivial⟩
  refine PySem.W.kxs_getMethod PySem.W.kxs_ValueError e2 (PySem.W.looks_opaque X2 T.opq) (l₀ := .ref C :: bm) (l := bm) (fun A Q E s k q => wpAny_bind ((PySem.W.looks_clsIn X2 hcl) A _ E s k (wpAny_pure q))) ?_ X2 along (I2.type.andThen (PySem.W.looks_subIn X2 T.val)) (PySem.W.ks_ne X2 I2 hcl) (by decide) ?_
  · simp [List.dropWhile_cons]
  have e3 : (h2.push (PySem.W.kxs_mw "ValueError.__init__" e)).get? h2.objs.size = some (PySem.W.kxs_mw "ValueError.__init__" e) := Heap.get?_push_at rfl rfl
  have k3 : ∀ b o, h2.get? b = some o → (h2.push (PySem.W.kxs_mw "ValueError.__init__" e)).get? b = some o := fun b o z => Heap.get?_push_of_some _ z
  have nx : ∀ {h4 : Heap}, (∀ b o, b ≠ e → h1.get? b = some o → h4.get? b = some o) → ∀ b o, b ≠ e → hp.get? b = some o → h4.get? b = some o := fun k b o hb z => k b o hb (hk1 b o z)
  refine call_bw1 (e := e) st E2 ((E1 _).trans sx) dx_ (by rw [E3]; exact nsL fun b o hb z => k3 _ _ (k2 _ _ z)) v1 e3 ?_
  refine wpAny_call (codeAny_of_tree ?_)
  show wpAny _ (A.deeper _).in1 (callAny (.ref h2.objs.size) ⟨[v], []⟩) _ _ _
  simp only [callAny]
  refine wpAny_bind (wpAny_load e3 ?_)
  have y1 : (Value.type "method-wrapper" == Value.type "method" || Value.type "method-wrapper" == Value.type "builtin_function_or_method" || Value.type "method-wrapper" == Value.type "method-wrapper") = true := by decide
  simp only [PySem.W.kxs_mw, y1, if_true]
  refine PySem.W.KFB.if_so (by decide) ?_
  refine wpAny_bind (PySem.W.check_bound_init F.excBase_ValueError.toExcCallFacts (k3 _ _ (X2 _ _ hC)) (k3 _ _ he2) rfl ?_)
  refine wpAny_bind (wpAny_pure (wpAny_pure ?_))
  refine ⟨plainId_quiet F.excBase_ValueError.init.plain _, codeAny_builtin F.excBase_ValueError.initEntry ?_⟩
  refine PySem.W.exc_init_tree (cls := .ref C) (t0 := t0) (dv := none) (c2 := .none) (c3 := .none) (b4 := .bool false) (k3 _ _ he2) (by show 1 ≤ sizeLine; rw [sizeLine_eq]; decide) fun h5 k5' e5 _ => ?_
  have k15 : ∀ b o, b ≠ e → h1.get? b = some o → h5.get? b = some o := fun b o hb z => k5' b o hb (k3 _ _ (k2 _ _ z))
  have X5 : K.In h5 := fun b o z => k15 b o (fun q => by subst q; rw [ke] at z; cases z) (X1 b o z)
  refine PySem.ks_wpAt_execs_cons (PySem.ks_wpAt_Assign_Attr (wpAt_of_wpAny ?_) s2)
  refine wpAny_Name (wpAny_loadName_local E2 ((E1 _).trans sx) (by rw [E3]; exact nsL k15) v1 ?_) dx_
  refine wpAny_Name (wpAny_loadName_local E2 ((E1 _).trans sself) (by rw [E3]; exact nsL k15) v0 ?_) ds
  obtain ⟨t5, e5⟩ : ∃ t5, h5.get? e = some (exO C t5 none) := ⟨_, e5⟩
  refine PySem.W.set_plain X5 (ox := exO C t5 none) (od := none) ⟨e5, rfl, rfl, trivial⟩ T.sa ?_
  refine PySem.HandSPX.exc_osa X5 (x := e) e5 hcl (show PySem.HandSPX.refsVE (.ref C :: bm) = true from hbm) rfl T.no (fun h6 tk6 dx k6 dn dne hx6 hn6 => ?_)
  refine wpAt_of_wpAny (wpAny_execs_nil (fin h6 t5 dx tk6 (fun b o hb z => k6 b o hb (nx k15 b o hb z)) ?_ hx6 hn6))
  obtain ⟨oL, _, _, hL, _⟩ := nsL k15
  exact Nat.le_of_lt (Nat.lt_of_lt_of_le (Heap.lt_size hL) dn)
end
end Sq

set_option Elab.async false
set_option maxRecDepth 100000
set_option maxHeartbeats 4000000
set_option linter.all false
/-! Exceptions made, raised, caught; calls that may raise. -/
namespace Sq
open PySem PySem.Spec PyProof.Rows L2

section
variable {X : Cx} {C fI : Addr} {f c : Str} {e : Expr} {te : TE} {p pos : Pos}
/-- c(e): an exception that keeps its argument under the name f -/
def tMkS (C : Addr) (f : Str) (ta : TA) : L2.St → Hp → XK → Prop := fun σ G Q => ta σ G fun vs G1 => ∃ v, vs = [v] ∧ ∀ dd, G1 dd = none → Q (.ref C) (some dd) (upd G1 dd (.xd [(f, v)]))
theorem pmk_sup {ta : TA} (T : SupK X.prog X.K C fI f) (gC : X.mg c = some (.ref C)) (hr : Room 1 X.A) (ha : PA X [e] ta) (hg : Gl X c := by rfl) (hdb : (c == ("__debug__" : Str)) = false := by decide)
    (st : starEach [e] X.env = (false, eval e X.env) :: starEach [] X.env := by rfl) (hpl : (backTo pos (starEach [] X.env)).any (·.1) = false := by rfl) : PMk X (.Call (.Name c p) [e] [] pos) (tMkS C f ta) := by
  intro pn z σ G Q I hw
  refine wpAny_Call_Name_kw (ld_glob I hg gC ?_ hdb)
  refine PySem.W.callWith_K (h₀ := X.base) I.ok.mod.kin T.kp (thn (ha.run pos pn z σ G _ I hw) fun us z1 ⟨vs, G1, I1, r1, v, ev, q⟩ => ⟨I1.kIn, ?_⟩) st hpl
  subst ev
  obtain ⟨nm, qn, N, bs, bm, sn, sub, ab, col, dd, k0, k1, k2, k3, k5, hC, hbm, along⟩ := id T.cls
  obtain ⟨u, rfl, ru⟩ := vals1 r1
  show wpAny _ _ (call (.ref C) [u]) _ _ _
  obtain ⟨hp, g, d, t, os⟩ := z1
  obtain ⟨mb, bl, bl2⟩ := I1.mod.blt
  have kk : ∀ b o, hp.get? b = some o → ((hp.push (PySem.W.kdv_tup [u])).push (PySem.HandSPX.excO C hp.objs.size)).get? b = some o := fun b o e => Heap.get?_push_of_some _ (Heap.get?_push_of_some _ e)
  have hget : ((hp.push (PySem.W.kdv_tup [u])).push (PySem.HandSPX.excO C hp.objs.size)).get? (hp.objs.size + 1) = some (PySem.HandSPX.excO C hp.objs.size) := by heap_get
  have XK : X.K.In hp := I1.kIn
  have ke : X.K.lookup (hp.objs.size + 1) = none := by
    cases y : X.K.lookup (hp.objs.size + 1) with
    | none => rfl
    | some o =>
      have q : (hp.objs.size + 1 : Nat) < hp.objs.size := Heap.lt_size (XK _ _ y)
      exact absurd q (by omega)
  refine wpAny_call (PySem.HandSPX.call_own F.excBase_ValueError (fun Y => PySem.HandSPX.refsVE_contains Y bm hbm) (XK _ _ hC) (PySem.W.looks_findIn XK T.ini) (fun self => PySem.W.bind_fn XK self T.tyI) (by show 1 ≤ sizeLine; rw [sizeLine_eq]; decide) ?_)
  refine sup_init (e := hp.objs.size + 1) T (Room.depth (hr.make C [u] [])) (XK.keeps kk) ((I1.mod.glob.keeps I1.bk).keeps kk) ((bl.keeps I1.bk).keeps kk) bl2 ?_ hget ke fun h' t1 dx tk' k' dn e' hn' => ?_
  · exact (I1.mod.nolimit.keeps I1.bk).keeps kk
  have dne : dx ≠ hp.objs.size + 1 := fun y => by
    obtain ⟨o, _, _, e1, e2, _⟩ := hn'
    rw [y, e'] at e1
    cases e1
    cases e2
  have lt2 : hp.objs.size ≤ dx := by
    have : ((hp.push (PySem.W.kdv_tup [u])).push (PySem.HandSPX.excO C hp.objs.size)).objs.size ≤ dx := dn
    have sp : ∀ (w : Heap) o, (w.push o).objs.size = w.objs.size + 1 := fun w o => Heap.size_push w o
    rw [sp, sp] at this
    exact Nat.le_trans (Nat.le_trans (Nat.le_succ _) (Nat.le_succ _)) this
  obtain ⟨H', gk, ge⟩ := restrict h' fun b => decide (b ≠ hp.objs.size + 1)
  have gk' : ∀ b, b ≠ hp.objs.size + 1 → H'.get? b = h'.get? b := fun b hb => gk b (decide_eq_true hb)
  have ge' : H'.get? (hp.objs.size + 1) = none := ge _ (by simp)
  have nfree : G1 dx = none := I1.hok.fresh lt2
  have keep : ∀ b o, hp.get? b = some o → H'.get? b = some o := fun b o y => by
    have hb : b ≠ hp.objs.size + 1 := fun w => by rw [w] at y; exact Nat.lt_irrefl _ (Nat.lt_trans (Nat.lt_succ_self hp.objs.size) (Heap.lt_size y))
    rw [gk' b hb]; exact k' b o hb (kk b o y)
  have rel : ∀ y, RelO (([(f, v)] : List (Str × V)).lookup y) (if y = f then some u else none) := relO_put (fs := []) ru fun _ => True.intro
  have J : Inv X pn σ (upd G1 dx (.xd [(f, v)])) ⟨H', g, d, tk', os⟩ := by
    refine I1.laid (t' := tk') (o := .xd [(f, v)]) keep lt2 ?_
    exact ⟨_, hn'.at fun o y => (gk' dx dne).trans y, rel⟩
  refine ⟨by first | exact rfl | trivial, hp.objs.size + 1, exO C t1 (some dx), #[.ref t1, .none, .none, .none, .bool false, .none], ⟨H', g, d, tk', os⟩, _, .ref C, some dx, rfl, J, fun b o y => ?_, ge', e', ⟨rfl, rfl⟩, rfl, rfl, ?_, rfl, ?_, raises_own T.bex T.ty, q dx nfree⟩
  · by_cases hb : b = hp.objs.size + 1
    · rw [hb, ge'] at y; cases y
    · rw [← gk' b hb]; exact y
  · rw [upd_ne (Ne.symm dne)]; exact I1.hok.fresh (Nat.le_succ _)
  · exact I1.bare
end
end Sq

set_option Elab.async false
set_option maxRecDepth 100000
set_option maxHeartbeats 4000000
set_option linter.all false
/-! == and != by an own __eq__, told of data. -/
namespace Sq
open PySem PySem.Spec PyProof.Rows L2

structure EqO (P : Program) (w : World) (K : PySem.W.Frag) (mg : Str → Option Value) (base : Heap) (k : Nat) (c : Str) (sp : FSp) : Prop where
  ex : ∃ (C g : Addr) (fd : FuncData) (ps : List Str), mg c = some (.ref C) ∧ KI K C ∧ PySem.W.findIn K (.ref C) "__eq__" = some (some (.ref g)) ∧ PySem.W.isFn K (.ref g) = true ∧
    PySem.W.findIn K (.ref C) "__ne__" = some (some (.builtin "object.__ne__")) ∧ (∀ t, t ∈ kinds → PySem.W.notFirst K C (.type t) = true) ∧ FnOk P w K mg base C8.CX0 k g fd ps (spOf K mg 2 sp) ∧ Binds K fd ps []
def rEqO (K : PySem.W.Frag) (mg : Str → Option Value) (c : Str) (sp : Sp) (g : Bool → Bool) : R2 := fun x y H Q => ∃ (C a dx : Addr) (fs : List (Str × V)) (t : Value), mg c = some (.ref C) ∧ x = .ref a ∧ H a = some (.ins C dx fs) ∧ TyX K H y t ∧
  PySem.W.notFirst K C t = true ∧ sp [x, y] H (fun v H' => ∃ b, v = .bl b ∧ Q (.bl (g b)) H') C8.E0
section
variable {X : Cx} {k j : Nat} {c : Str} {sp : Sp}
theorem run_fnAt {CX : CXT} {f : Addr} {fd : FuncData} {ps : List Str} {E : XK} {pins : List (Addr × Obj)} {σ : L2.St} {H : Hp} {s : Shared} {Q : VK} {us : List Value} {vs : List V} {A : Around} (F : FnOk X.prog X.w X.K X.mg X.base CX k f fd ps sp) (hr : Room k A) (fr : A.frames = X.A.frames)
    (hb : Binds X.K fd ps []) (hx : Passes CX X E) (I : Inv X pins σ H s) (r : Vals vs us) (h : sp vs H Q E) : wpAny (model X.prog X.w) A (call (.ref f) us) (EP X pins σ Q) X.xe s := by
  have hl := F.len _ _ _ _ h
  have e0 : Env0 X.prog X.w X.K X.mg X.base A X.stack s H := by
    have e := I.env0
    exact ⟨by rw [fr]; exact e.frames, e.mod, e.bs, e.bsz, e.funs, e.frf, e.hok, e.bare⟩
  refine wpAny_call (codeAny_mono (F.run A X.stack s H ⟨us, []⟩ us vs Q E hr e0 (by
    have := hb s us I.kIn (by rw [List.append_nil, ← r.length]; exact hl)
    rw [List.append_nil] at this
    exact this) r h) fun r s' hq => ?_)
  cases r with
  | error e => exact hx pins σ H s e s' I hq
  | ok fl =>
    cases fl with
    | ret u => exact I.after hq
    | next => exact False.elim hq
    | brk => exact False.elim hq
    | cont => exact False.elim hq
end
section
variable {X : Cx} {k j : Nat} {c : Str} {sp : FSp}
theorem or_eqO (m : EqO X.prog X.w X.K X.mg X.base k c sp) (hr : Room j X.A) (hk : k + 1 ≤ j) : OpR X (compareOp .Eq) (rEqO X.K X.mg c (spOf X.K X.mg 2 sp) id) := by
  obtain ⟨C, g, fd, ps, hC, ki, fe, fn, fne, nf, F, b⟩ := m.ex
  intro pins s σ H x y v u Q I rx ry h
  obtain ⟨C', a, dx, fs, t, hC', rfl, ha, ty, n1, q⟩ := h
  rw [hC] at hC'
  cases hC'
  cases rx
  obtain ⟨mA, O, _⟩ := ins_get I.hok ha
  obtain ⟨od, J, _⟩ := O.look
  obtain ⟨P, kt, p, _⟩ := kit_of I ry ty
  obtain ⟨mm, Fm⟩ := I.fr
  refine PySem.W.cmp_K (op := .Eq) hr.units0 Fm I.ok.mod.kin J (kt.ty _ _ I.kIn p) n1 fe fn ?_
  refine wpAny_mono (run_fnAt (us := [.ref a, u]) (vs := [.ref a, y]) F (hr.mono (Nat.le_of_succ_le hk)) rfl b C8.pass0 I (.cons rfl (.cons ry .nil)) q) (fun r s' z => ?_) fun _ _ z => z
  obtain ⟨w, H', I', rw', bb, rfl, q'⟩ := z
  cases rw'
  exact ⟨.bl bb, H', I', rfl, q'⟩
theorem or_neO (m : EqO X.prog X.w X.K X.mg X.base k c sp) (hr : Room j X.A) (hk : k + 1 ≤ j) : OpR X (compareOp .NotEq) (rEqO X.K X.mg c (spOf X.K X.mg 2 sp) not) := by
  obtain ⟨C, g, fd, ps, hC, ki, fe, fn, fne, nf, F, b⟩ := m.ex
  intro pins s σ H x y v u Q I rx ry h
  obtain ⟨C', a, dx, fs, t, hC', rfl, ha, ty, n1, q⟩ := h
  rw [hC] at hC'
  cases hC'
  cases rx
  obtain ⟨mA, O, _⟩ := ins_get I.hok ha
  obtain ⟨od, J, _⟩ := O.look
  obtain ⟨P, kt, p, _⟩ := kit_of I ry ty
  have hr1 : Room k X.A.in1 := (hr.mono hk).in1
  refine ne_own hr1.units0 I.kIn J (kt.ty _ _ I.kIn p) n1 fne fe fn ki.hm ?_
  refine wpAny_mono (run_fnAt (us := [.ref a, u]) (vs := [.ref a, y]) F hr1 rfl b C8.pass0 I (.cons rfl (.cons ry .nil)) q) (fun r s' z => ?_) fun _ _ z => z
  obtain ⟨w, H', I', rw', bb, rfl, q'⟩ := z
  cases rw'
  exact ⟨bb, rfl, .bl (!bb), H', I', rfl, q'⟩
def fEqO (c : Str) (sp : FSp) (g : Bool → Bool) : F2 := fun S x y Q => (atts S c x).isSome = true ∧ ((kindT (view S y)).isSome = true ∨ (atts S c y).isSome = true) ∧ sp [x, y] S fun r S1 => ∃ b, r = .bl b ∧ Q (.bl (g b)) S1
theorem opd_eqO {P : Program} {w : World} {base : Heap} {K : PySem.W.Frag} {mg : Str → Option Value} {Z : Zt} (m : EqO P w K mg base k c sp) {g : Bool → Bool} : OpD K mg Z (rEqO K mg c (spOf K mg 2 sp) g) (fEqO c sp g) := by
  obtain ⟨C, _, _, _, hC, ki, _, _, _, nf, _, _⟩ := m.ex
  intro I μ S H x y a b Q Φ ok ra rb q kp
  obtain ⟨q1, q2, q⟩ := q
  obtain ⟨fs, q1⟩ := Option.isSome_iff_exists.mp q1
  obtain ⟨p1, C', dx, fv, rfl, hC', h1, _⟩ := atts_ok ok ra q1
  rw [hC] at hC'
  cases hC'
  have tt : ∃ t, TyX K H y t ∧ PySem.W.notFirst K C t = true := by
    rcases q2 with q2 | q2
    · obtain ⟨t, ht⟩ := Option.isSome_iff_exists.mp q2
      exact ⟨_, kind_ty ok rb ht, nf t (kindT_in ht)⟩
    · obtain ⟨gs, q2⟩ := Option.isSome_iff_exists.mp q2
      obtain ⟨p2, C', dy, gv, rfl, hC', h2, _⟩ := atts_ok ok rb q2
      rw [hC] at hC'
      cases hC'
      exact ⟨_, .base (.ins h2 ki.cl ki.ha ki.hn ki.htk ki.hm), by simp [PySem.W.notFirst]⟩
  obtain ⟨t, t1, t2⟩ := tt
  exact ⟨C, p1, dx, fv, t, hC, rfl, h1, t1, t2, rfl, [a, b], Z, I, μ, S, _, .cons ra (.cons rb .nil), ok, q, fun v d I' μ' S' H' e o r hq => by
    obtain ⟨bb, rfl, hq⟩ := hq
    exact ⟨bb, rp_bl r, kp _ _ I' μ' S' H' e o .bl hq⟩⟩
theorem cm_eqO (m : EqO X.prog X.w X.K X.mg X.base k c sp) (hr : Room j X.A) (hk : k + 1 ≤ j) : CmpR X .Eq (rEqO X.K X.mg c (spOf X.K X.mg 2 sp) id) (fEqO c sp id) := ⟨or_eqO m hr hk, fun _ => opd_eqO m⟩
theorem cm_neO (m : EqO X.prog X.w X.K X.mg X.base k c sp) (hr : Room j X.A) (hk : k + 1 ≤ j) : CmpR X .NotEq (rEqO X.K X.mg c (spOf X.K X.mg 2 sp) not) (fEqO c sp not) := ⟨or_neO m hr hk, fun _ => opd_eqO m⟩
end
/-! ### the def of an own __eq__, as it stands behind the top -/
structure DE (K : PySem.W.Frag) (mg : Str → Option Value) (c ql : Str) (s : Stmt) (ps : List Str) : Prop where
  ex : ∃ (C f : Addr) (fd : FuncData), mg c = some (.ref C) ∧ KI K C ∧ PySem.W.findIn K (.ref C) "__eq__" = some (some (.ref f)) ∧ PySem.W.isFn K (.ref f) = true ∧
    PySem.W.findIn K (.ref C) "__ne__" = some (some (.builtin "object.__ne__")) ∧ (∀ t, t ∈ kinds → PySem.W.notFirst K C (.type t) = true) ∧ C8.Fun K "__eq__" ql s f fd ∧ Binds K fd ps []
theorem DE.eq {P : Program} {w : World} {K : PySem.W.Frag} {mg : Str → Option Value} {base : Heap} {c ql : Str} {s : Stmt} {ps N : List Str} {k : Nat} {wb : WS} {sp : FSp} (d : DE K mg c ql s ps) (h2 : ps.length = 2) (S : FnScope N ps (C8.fnScope s)) (b : Bd P w K mg base k N ql s wb) (law : LawD ps N wb sp) : EqO P w K mg base (k + 1) c sp := by
  obtain ⟨C, f, fd, hC, ki, fe, fn, fne, nf, F, bi⟩ := d.ex
  exact ⟨C, f, fd, ps, hC, ki, fe, fn, fne, nf, h2 ▸ fn_data F S b law, bi⟩
theorem notFirst_kinds {K : PySem.W.Frag} {C : Addr} (t : String) (ht : t ∈ kinds) : PySem.W.notFirst K C (.type t) = true := by
  unfold PySem.W.notFirst
  rw [kinds_sub ht C]
  simp
theorem DE.of {K : PySem.W.Frag} {mg : Str → Option Value} {h : Heap} {c ql : Str} {s : Stmt} {ps : List Str} {f C : Addr} {oc kV dc pm cd ct : Value} {od an : Option Addr} {sl : Array (Option Value)} (X : K.In h) (G : h.Ns mainGlobals mg) (aC : PySem.W.nsIn K mainGlobals c = some (some (.ref C))) (ki : KI K C) (a : PySem.W.findIn K (.ref C) "__eq__" = some (some (.ref f))) (i : PySem.W.isFn K (.ref f) = true)
    (ne : PySem.W.findIn K (.ref C) "__ne__" = some (some (.builtin "object.__ne__")))
    (l : K.lookup f = some ⟨oc, od, .func (PySem.W.fnOf "__eq__" ql (C8.fnArgs s) (C8.fnBody s) (C8.fnScope s) .none kV dc pm an cd ct), sl⟩) (hc : PySem.W.codeIn K cd ql = true) (b : Plain "__eq__" ql s ps) : DE K mg c ql s ps :=
  ⟨C, f, _, PySem.W.mg_of X G aC, ki, a, i, ne, notFirst_kinds, fun_of l hc, (fun_of l hc).binds rfl b⟩
end Sq

set_option Elab.async false
set_option maxRecDepth 100000
set_option maxHeartbeats 4000000
set_option linter.all false
/-! Exceptions told of data: raised, let out of defs, caught. -/
namespace Sq
open PySem PySem.Spec PyProof.Rows L2

/-! ### what stands beside, from a place on -/
def Zt.fr (Z : Zt) (I : Hp) (μ : List Addr) : Zt := ⟨Z.z, fun I' μ' => Z.g I' μ' ∧ Ext I μ I' μ', fun I1 μ1 I2 μ2 e h => ⟨Z.cl I1 μ1 I2 μ2 e h.1, h.2.trans e⟩⟩
section
variable {K : PySem.W.Frag} {mg : Str → Option Value} {Z : Zt} {I I' : Hp} {μ μ' : List Addr} {S : Sto} {H : Hp} {X : Cx} {Γ : Gam}
theorem Ok.un (o : Ok K mg (Z.fr I μ) I' μ' S H) : Ok K mg Z I' μ' S H := ⟨o.fra, o.gnd.1, o.sub, o.len, o.nd, o.ob⟩
theorem Ok.ex (o : Ok K mg (Z.fr I μ) I' μ' S H) : Ext I μ I' μ' := o.gnd.2
theorem Ok.fr (o : Ok K mg Z I μ S H) : Ok K mg (Z.fr I μ) I μ S H := ⟨o.fra, ⟨o.gnd, .refl⟩, o.sub, o.len, o.nd, o.ob⟩
theorem Lk.fr (l : Lk X Γ Z) : Lk X Γ (Z.fr I μ) := fun c fs cls d σ ρ I1 μ1 S H o => l c fs cls d σ ρ I1 μ1 S H o.un
theorem Kp.fr {Φ : D → Sto → Prop} {Q : VK} (k : Kp K mg Z I' μ' Φ Q) : Kp K mg (Z.fr I μ) I' μ' Φ Q := fun v d I1 μ1 S1 H1 e o => k v d I1 μ1 S1 H1 e o.un
theorem Cov.fr {E : Ends} {κ : WK} (c : Cov K mg Z I' μ' E κ) : Cov K mg (Z.fr I μ) I' μ' E κ :=
  ⟨fun σ ρ I1 μ1 S1 H1 e r o => c.nx σ ρ I1 μ1 S1 H1 e r o.un, c.rt.fr, fun σ ρ I1 μ1 S1 H1 e r o => c.bk σ ρ I1 μ1 S1 H1 e r o.un, fun σ ρ I1 μ1 S1 H1 e r o => c.ct σ ρ I1 μ1 S1 H1 e r o.un⟩
end

/-! ### defs that may raise -/
abbrev FSpX := List D → Sto → (D → Sto → Prop) → Xf → Prop
def Kx (K : PySem.W.Frag) (mg : Str → Option Value) (Z : Zt) (I : Hp) (μ : List Addr) (Ψ : Xf) (E : XK) : Prop :=
  ∀ (c : Str) (fs : List (Str × D)) (cls : Value) (d : Option Addr) (I' : Hp) (μ' : List Addr) (S' : Sto) (H' : Hp), Ext I μ I' μ' → Ok K mg Z I' μ' S' H' → XRp K mg I' μ' c fs cls d → Ψ c fs S' → E cls d H'
def spOfX (K : PySem.W.Frag) (mg : Str → Option Value) (n : Nat) (sp : FSpX) : Sp := fun vs H Q E => vs.length = n ∧ ∃ (ds : List D) (Z : Zt) (I : Hp) (μ : List Addr) (S : Sto) (Φ : D → Sto → Prop) (Ψ : Xf),
  RpL K mg I μ vs ds ∧ Ok K mg Z I μ S H ∧ sp ds S Φ Ψ ∧ Kp K mg Z I μ Φ Q ∧ Kx K mg Z I μ Ψ E
abbrev BxX (P : Program) (w : World) (K : PySem.W.Frag) (mg : Str → Option Value) (base : Heap) (N : List Str) (qual : Str) (sc : Scope) (f : Addr) (cdv : Value) (A : Around) (outer : List Env) (s : Shared) (H : Hp) (E : XK) : Cx :=
  cxOf (L2.CX P w) P w K mg base N qual sc f cdv A outer s H E
section
variable {P : Program} {w : World} {K : PySem.W.Frag} {mg : Str → Option Value} {base : Heap}
/-- the body's derivation, told of what it may raise -/
def BdX (P : Program) (w : World) (K : PySem.W.Frag) (mg : Str → Option Value) (base : Heap) (k : Nat) (N : List Str) (qual : Str) (s : Stmt) (wb : Xk → WS) : Prop :=
  ∀ (f : Addr) (cdv : Value) (A : Around) (outer : List Env) (sh : Shared) (H : Hp) (E : XK) (Ψ : Xk), Room k (A.deeper (PyProof.Rows.envOfC qual (C8.fnScope s) sh.heap.objs.size f cdv)) →
    Takes (BxX P w K mg base N qual (C8.fnScope s) f cdv A outer sh H E) (fun cls d _ H' => E cls d H') → PassesOwn (model P w) (A.deeper (PyProof.Rows.envOfC qual (C8.fnScope s) sh.heap.objs.size f cdv)) (PyProof.Rows.envOfC qual (C8.fnScope s) sh.heap.objs.size f cdv) (BxX P w K mg base N qual (C8.fnScope s) f cdv A outer sh H E).xe →
    ∃ t, SSs (BxX P w K mg base N qual (C8.fnScope s) f cdv A outer sh H E) ⟨fun cls d _ H' => E cls d H', Ψ⟩ (C8.fnBody s) t (wb Ψ)
/-- what the words of a def that may raise must show -/
def LawX (ps N : List Str) (wb : Xk → WS) (sp : FSpX) : Prop :=
  ∀ (ds : List D) (S : Sto) (Φ : D → Sto → Prop) (Ψ : Xf), ds.length = ps.length → sp ds S Φ Ψ → wb (fun c fs _ S' => Ψ c fs S') { nx := fun _ S' => Φ .non S', rt := Φ } (ro N ds) S
theorem fn_dataX {x qual : Str} {s : Stmt} {f : Addr} {fd : FuncData} {N ps : List Str} {k : Nat} {wb : Xk → WS} {sp : FSpX} (F : C8.Fun K x qual s f fd) (S : FnScope N ps (C8.fnScope s)) (d : BdX P w K mg base k N qual s wb) (law : LawX ps N wb sp) :
    FnOk P w K mg base (L2.CX P w) (k + 1) f fd ps (spOfX K mg ps.length sp) := by
  obtain ⟨oc, od, dV, kV, dc, pm, an, cd, ct, sl, rfl, l, hc⟩ := F
  refine fn_of l hc S (fun vs H Q E h => h.1) fun A outer sh H vs Q E hr h => ?_
  obtain ⟨hl, ds, Z, I, μ, St, Φ, Ψ, r, ok, hs, kp, kx⟩ := h
  obtain ⟨t, q⟩ := d f cd A outer sh H E (fun c fs _ S' => Ψ c fs S') hr (takes_of rfl rfl rfl rfl) (passes_of rfl)
  refine ⟨t, q.ps, q.si (Z.fr I μ) (fun c fs cls dd σ ρ I1 μ1 S1 H1 o _ xr hp => kx c fs cls dd I1 μ1 S1 H1 o.ex o.un xr hp) (L2.start N vs) (ro N ds) I μ St H _ _ (rps_start r) ok.fr (law ds St Φ Ψ (by rw [← r.length]; exact hl) hs)
    ⟨fun σ' ρ' I' μ' S' H' e' rs' ok' q' => ?_, kp.fr, fun _ _ _ _ _ _ _ _ _ z => z.elim, fun _ _ _ _ _ _ _ _ _ z => z.elim⟩⟩
  exact kp .non .non I' μ' S' H' e' ok'.un .non q'
end

/-! ### calls of them -/
structure CalX (P : Program) (w : World) (K : PySem.W.Frag) (mg : Str → Option Value) (base : Heap) (k : Nat) (x : Str) (n : Nat) (sp : FSpX) (dvs : List V) : Prop where
  ex : ∃ (f : Addr) (fd : FuncData) (ps : List Str) (ds : List Value), FnOk P w K mg base (L2.CX P w) k f fd ps (spOfX K mg n sp) ∧ mg x = some (.ref f) ∧ PySem.W.keepIn K (.ref f) = true ∧ Binds K fd ps ds ∧ Vals dvs ds
theorem DD.calX {P : Program} {w : World} {K : PySem.W.Frag} {mg : Str → Option Value} {base : Heap} {x : Str} {s : Stmt} {ps N : List Str} {dvs : List V} {k : Nat} {wb : Xk → WS} {sp : FSpX} (d : DD K mg x s ps dvs) (S : FnScope N ps (C8.fnScope s)) (b : BdX P w K mg base k N x s wb) (law : LawX ps N wb sp) :
    CalX P w K mg base (k + 1) x ps.length sp dvs := by
  obtain ⟨f, fd, ds, F, bi, dv⟩ := d.ex
  exact ⟨f, fd, ps, ds, fn_dataX F.fn S b law, F.mgf, F.kp, bi, dv⟩
def wCallX (Ψ : Xk) (n : Nat) (sp : FSpX) (dd : List D) (wa : WA) : WE := fun ρ S Q => wa ρ S fun ds S1 => (ds ++ dd).length = n ∧ sp (ds ++ dd) S1 Q fun c fs S' => Ψ c fs ρ S'
section
variable {X : Cx} {Γ : Gam} {k j n : Nat} {x : Str} {sp : FSpX} {dvs : List V} {dd : List D} {p pos apos : Pos} {e : Expr} {es : List Expr} {t : TA} {wa : WA}
theorem kx_of {Z : Zt} (lk : Lk X Γ Z) {σ : L2.St} {ρ : Ro} {I : Hp} {μ : List Addr} (rs : RpS X.K X.mg I μ σ ρ) : Kx X.K X.mg Z I μ (fun c fs S' => Γ.Ψ c fs ρ S') (L2.WE Γ.W σ) :=
  fun c fs cls d I' μ' S' H' e' o xr h => lk c fs cls d σ ρ I' μ' S' H' o (rs.ext e') xr h
theorem se_callX (c : CalX X.prog X.w X.K X.mg X.base k x n sp dvs) (hr : Room j X.A) (hk : k ≤ j) (tk : Takes X Γ.W) (hd : ∀ I μ, RpL X.K X.mg I μ dvs dd) (ha : SA X Γ (e :: es) t wa) (hg : Gl X x := by rfl)
    (hdb : (x == ("__debug__" : Str)) = false := by decide) (he : starEach (e :: es) X.env = (false, eval e X.env) :: starEach es X.env := by rfl) (hpl : (backTo pos (starEach es X.env)).any (·.1) = false := by rfl) :
    SE X Γ (.Call (.Name x p) (e :: es) [] pos) (tCallSD (spOfX X.K X.mg n sp) dvs (L2.WE Γ.W) t) (wCallX Γ.Ψ n sp dd wa) := by
  obtain ⟨f, fd, ps, ds, F, hm, kp, b, dv⟩ := c.ex
  refine ⟨pe_callSD F (hr.mono hk) hg hm kp b dv (fun σ => passAt tk σ) ha.pa hdb he hpl, fun Z lk σ ρ I μ S H Q Φ rs ok hw kq => ha.si Z lk σ ρ I μ S H _ _ rs ok hw fun vs ds' I1 μ1 S1 H1 e1 o1 r1 q1 => ?_⟩
  have r2 := r1.append (hd I1 μ1)
  exact ⟨by rw [r2.length]; exact q1.1, _, Z, I1, μ1, S1, Φ, _, r2, o1, q1.2, kq.ext e1, kx_of lk (rs.ext e1)⟩
end

/-! ### raise -/
/-- an exception class of the program with an __init__ that keeps its argument as f -/
structure SupD (P : Program) (K : PySem.W.Frag) (mg : Str → Option Value) (c f : Str) : Prop where
  ex : ∃ (C fI : Addr), mg c = some (.ref C) ∧ SupK P K C fI f
def wRaise (Ψ : Xk) (c f : Str) (we : WE) : WS := fun _ ρ S => we ρ S fun d S1 => Ψ c [(f, d)] ρ S1
def tRaise (X : Cx) (W : WX) (c f : Str) (te : TE) : TS := fun _ σ H => ∃ C, X.mg c = some (.ref C) ∧ tMkS C f (tCons te tNil) σ H fun cls d H' => W cls d σ H'
theorem s_raise {X : Cx} {Γ : Gam} {c f : Str} {e : Expr} {te : TE} {we : WE} {p pos pos' : Pos} {j : Nat} (T : SupD X.prog X.K X.mg c f) (hc : X.calm = true) (tk : Takes X Γ.W) (hr : Room j X.A) (hj : 1 ≤ j) (he : SE X Γ e te we) (hg : Gl X c := by rfl) (hdb : (c == ("__debug__" : Str)) = false := by decide)
    (st : starEach [e] X.env = (false, eval e X.env) :: starEach [] X.env := by rfl) (hpl : (backTo pos (starEach [] X.env)).any (·.1) = false := by rfl) : SS X Γ (.Raise (some (.Call (.Name c p) [e] [] pos)) none pos') (tRaise X Γ.W c f te) (wRaise Γ.Ψ c f we) := by
  obtain ⟨C, fI, hC, sk⟩ := T.ex
  refine ⟨⟨fun pins s σ H D I hw => ?_⟩, fun Z lk σ ρ I μ S H E κ rs ok hw cv => ⟨C, hC, he.si Z lk σ ρ I μ S H _ _ rs ok hw fun v d I1 μ1 S1 H1 e1 o1 r1 q1 => ⟨v, rfl, fun x hx => ?_⟩⟩⟩
  · obtain ⟨C', hC', q⟩ := hw
    rw [hC] at hC'
    cases hC'
    exact (ps_raise hc tk (pmk_sup sk hC (hr.mono hj) (pa_cons he.pe pa_nil st) hg hdb st hpl)).run pins s σ H D I q
  · have hi := free_of o1.sub hx
    exact lk c [(f, d)] _ _ σ ρ (upd I1 x (.xd [(f, v)])) μ1 S1 _ (o1.new hx) ((rs.ext e1).ext (Ext.new hi)) ⟨C, hC, rfl, _, upd_same, .cons (r1.ext (Ext.new hi)) .nil⟩ q1
end Sq

set_option Elab.async false
set_option maxRecDepth 100000
set_option maxHeartbeats 4000000
set_option linter.all false
/-! try .. except C as e: the exception is data in the suite. -/
namespace Sq
open PySem PySem.Spec PyProof.Rows L2

/-- what a statement is, by its run -/
def tSem (X : Cx) (s : Stmt) : TS := fun D σ H => ∀ (pins : List (Addr × Obj)) (z : Shared), Inv X pins σ H z → wpAny (model X.prog X.w) X.A (exec s X.env) (SP X pins D) X.xe z
theorem ps_sem {X : Cx} {s : Stmt} : PS X s (tSem X s) := ⟨fun pins z σ H D I h => h pins z I⟩
theorem fr_hd {env : Env} {outer : List Env} {L : Addr} (hf : env.frame = some L) : L ∈ frs (env :: outer) := List.mem_filterMap.mpr ⟨env, List.mem_cons_self, hf⟩
theorem fr_tl {env : Env} {outer : List Env} {a : Addr} (h : a ∈ frs outer) : a ∈ frs (env :: outer) := by
  obtain ⟨e, he, q⟩ := List.mem_filterMap.mp h
  exact List.mem_filterMap.mpr ⟨e, List.mem_cons_of_mem _ he, q⟩
section
variable {X : Cx} {pins : List (Addr × Obj)} {σ : L2.St} {H : Hp} {sI z : Shared} {a : Addr} {oe : Obj} {B : Heap}
/-- a thing that is there, and was not when the def was entered, is known from now on -/
theorem inv_known (I : Inv X pins σ H z) (hB : ∀ b o, z.heap.get? b = some o → b ∉ frs X.stack → b ≠ a → B.get? b = some o) (h0 : ∀ b, X.s_0.heap.get? b ≠ none → b ∉ X.ex → b ≠ a) (hp : ∀ p ∈ X.pn ++ pins, p.1 ≠ a) (ha : z.heap.get? a = some oe) (hv : ∃ vs, oe.data = .fields vs) (na : H a = none) (nL : a ≠ X.env.locals) :
    Inv (X.suite a (X.pn ++ pins)) [] σ (upd H a (xho a oe)) z := by
  have ne : ∀ {b : Addr} {o : HO}, H b = some o → b ≠ a := fun e q => by rw [q, na] at e; cases e
  refine ⟨I.ok.suite _ _, I.os, I.bare, ⟨I.base.keep, I.base.slot, fun b o e n x => ?_, I.base.there, fun b xs e => ?_, fun b o u e => ?_, fun b ps e => ?_⟩, I.loc, I.cell, ?_, fun x c e => ?_, fun p q => ?_, fun b o e => ?_, I.len⟩
  · rw [upd_ne (h0 b (by rw [e]; simp) x)]; exact I.base.free b o e n x
  · have := I.base.tups b xs e; rw [upd_ne (ne this)]; exact this
  · have := I.base.frzs b o u e; rw [upd_ne (ne this)]; exact this
  · obtain ⟨m, y⟩ := I.base.tbls b ps e; exact ⟨m, by rw [upd_ne (ne y)]; exact y⟩
  · rw [upd_ne (Ne.symm nL)]; exact I.free
  · have nc : c ≠ a := fun q => by
      obtain ⟨v, k⟩ := I.cell x c e
      obtain ⟨vs, hv⟩ := hv
      obtain ⟨o, k1, k2⟩ := k
      rw [q, ha] at k1
      cases k1
      rw [hv] at k2
      cases k2
    rw [upd_ne nc]; exact I.freeC x c e
  · have q' : p ∈ X.pn ++ pins := by simpa using q
    obtain ⟨y1, y2, y3⟩ := I.pin p q'
    exact ⟨y1, by rw [upd_ne (hp p q')]; exact y2, y3⟩
  · by_cases q : b = a
    · subst q
      rw [upd_same] at e
      cases e
      exact ⟨ha, ⟨_, ha⟩, fun h1 h2 y k => k _ y⟩
    · rw [upd_ne q] at e
      exact (I.hok b o e).stay (fun _ _ _ y => y) (fun c y => by rw [upd_ne (ne y)]; exact y) fun c xs y => by rw [upd_ne (ne y)]; exact y
theorem inv_back {pn' : List (Addr × Obj)} (I : Inv (X.suite a (X.pn ++ pins)) pn' σ H z) (ok : X.Ok) : Inv X pins σ H z := ⟨ok, I.os, I.bare, I.base, I.loc, I.cell, I.free, I.freeC, fun p hp => I.pin p (List.mem_append_left _ hp), I.hok, I.len⟩
end
/-- the ends of a suite: the name goes -/
def eOut (i : Nat) (E : Ends) : Ends := { nx := fun σ H => E.nx (σ.set i none) H, rt := E.rt, bk := fun σ H => E.bk (σ.set i none) H, ct := fun σ H => E.ct (σ.set i none) H }
/-- what the suite is to be, at the machine -/
def SuW (X : Cx) (pins : List (Addr × Obj)) (E : Ends) (i : Nat) (s : List Stmt) (xv : Value) (W : WX) : WX := fun cls d σ H => ∃ b, PySem.W.exmOne X.K cls xv = some b ∧
  (b = true → ∀ (a : Addr) (oe : Obj) (z : Shared), H a = none → Zc cls d oe → (∃ vs, oe.data = .fields vs) → Inv (X.suite a (X.pn ++ pins)) [] (σ.set i (some (.ref a))) (upd H a (xho a oe)) z →
    wpAny (model X.prog X.w) (X.suite a (X.pn ++ pins)).A (execs s X.env) (SP (X.suite a (X.pn ++ pins)) [] (eOut i E)) (fun _ _ => False) z) ∧ (b = false → W cls d σ H)
section
variable {X : Cx} {x n : Str} {xv : Value} {i : Nat} {body suite : List Stmt} {b₀ : Stmt} {np pos pos' : Pos} {W : WX} {pins : List (Addr × Obj)} {E : Ends}
/-- a try by its body, which meets the suite's wish -/
theorem try_run (hs : X.stack = X.env :: X.outer) (hf : X.env.frame = some X.env.locals) (hN : X.N.Nodup) (hi : X.N[i]? = some n) (hln : X.env.kindOf n = some .local) (hc : Names X x xv) (tk : Takes X W) {z : Shared} {σ : L2.St} {H : Hp} (I : Inv X pins σ H z)
    (hb : ∀ xe, Takes (X.tr (X.pn ++ pins) xe) (SuW X pins E i (b₀ :: suite) xv W) → PassesOwn (model X.prog X.w) X.A X.env xe → wpAny (model X.prog X.w) X.A (execs body X.env) (SP (X.tr (X.pn ++ pins) xe) [] E) xe z) :
    wpAny (model X.prog X.w) X.A (exec (.Try body [.ExceptHandler (some (.Name x np)) (some n) (b₀ :: suite) pos'] [] [] pos) X.env) (SP X pins E) X.xe z := by
  have ok := I.ok
  have frm : X.A.frames = some (X.env :: X.outer) := by rw [ok.frames, hs]
  refine wpAny_Try_except (thn (hb _ (fun u y xx => ?_) PassesOwn.looking) fun f s1 q => ?_)
  rotate_left
  · cases f with
    | next => obtain ⟨σ', H', J, q⟩ := q; exact wpAny_execs_nil ⟨σ', H', J.ofTry ok, q⟩
    | brk => obtain ⟨σ', H', J, q⟩ := q; exact ⟨σ', H', J.ofTry ok, q⟩
    | cont => obtain ⟨σ', H', J, q⟩ := q; exact ⟨σ', H', J.ofTry ok, q⟩
    | ret u => obtain ⟨v, σ', H', J, r, q⟩ := q; exact ⟨v, σ', H', J.ofTry ok, r, q⟩
  obtain ⟨a, B, sI, p2, σ1, H1, cls, d, rfl, J0, nb, up, sky, na, os, ag, wish⟩ := xx
  obtain ⟨b, hb1, yes, no⟩ := wish
  have J : Inv X pins σ1 H1 sI := J0.ofTry ok
  have sky' : Sky B (X.env :: X.outer) a (Zc cls d) X.env.locals y.heap := hs ▸ sky
  refine Sky.land Zc.steady frm hf sky' fun h3 f3 u3 => ?_
  have J3 : Inv X pins σ1 H1 { y with heap := h3 } := J.landed nb f3.1 (up.trans u3) os ag
  obtain ⟨o3, v3, g3, z3, d3⟩ := f3.there
  have nst : a ∉ frs X.stack := fun hm => by
    rw [hs] at hm
    obtain ⟨_, o', e', nf⟩ := f3.2.2.1.mem hm
    rw [g3] at e'
    cases e'
    exact nf _ d3
  have nL : a ≠ X.env.locals := fun q => nst (by rw [hs]; exact fr_hd (by rw [hf, q]))
  have nF : a ∉ X.fs := fun q => nst (by rw [hs]; exact fr_tl q)
  have gone : sI.heap.get? a = none := by
    cases q : sI.heap.get? a with
    | none => rfl
    | some o => have := nb a o q nst; rw [f3.2.1] at this; cases this
  have S3 := J3.suite g3 d3 na nL nF
  refine wpAny_handleBy_cons (codeAny_handlers_test ?_) (fun q => nomatch q)
  have ty : PySem.W.Looks (model X.prog X.w) h3 (typeOf (.ref a)) cls := fun A Q E s k q => wpAny_typeOf_ref (k _ _ g3) (by rw [z3.1]; exact q)
  have ans := PySem.W.exm_one (M := model X.prog X.w) J3.kIn ty hb1
  have nam : ∀ {Q E}, Q xv { y with heap := h3 } → wpAny (model X.prog X.w) (X.A.mark (some (.ref a))) (eval (.Name x np) X.env) Q E { y with heap := h3 } := fun {Q E} q => by
    obtain ⟨hg, hdb, hm | ⟨hm, hv, hn⟩⟩ := hc
    · exact ld_glob (X := X.suite a ((a, o3) :: (X.pn ++ pins))) S3 hg hm q hdb
    · exact ld_blt (X := X.suite a ((a, o3) :: (X.pn ++ pins))) S3 hg hm hv q hn hdb
  refine nam (ans.here ?_)
  cases b with
  | false =>
    show wpAny _ X.A (handleBy (.ref a) X.env []) _ _ _
    refine wpAny_handleBy_nil ?_
    obtain ⟨_, _, _, o4, v4, T, oT, tv, g4, z4, d4, w1, _⟩ := id f3
    unfold PySem.passOn
    refine wpAny_bind (wpAny_field g4 d4 w1 ?_)
    rw [if_neg (show ¬ ((Value.ref T == Value.none) = true) from by simp)]
    have go : wpAny (model X.prog X.w) X.A (setFlight (.ref a) X.env.frame) (fun _ s4 => wpAny (model X.prog X.w) X.A (throw (.ref a) : Sem Flow) (SP X pins E) X.xe s4) X.xe { y with heap := h3 } := by
      rw [hf]
      exact HandSPX.setFlight_upZ f3 fun h4 k4 u4 => wpAny_throw (tk _ _ ⟨a, B, sI, pins, σ1, H1, cls, d, rfl, J, nb, (up.trans u3).trans u4, .inr (.inr (by rw [hs]; exact k4)), na, os, ag, no rfl⟩)
    first
      | exact wpAny_bind (wpAny_pure (wpAny_bind go))
      | exact wpAny_bind go
  | true =>
    refine codeAny_handlers_suite_as (HandSPX.lands_againZ f3 fun h4 f4 u4 => ?_)
    have J4 : Inv X pins σ1 H1 { y with heap := h4 } := J.landed nb f4.1 ((up.trans u3).trans u4) os ag
    obtain ⟨o4, v4, g4, z4, d4⟩ := f4.there
    have S4 : Inv (X.suite a (X.pn ++ pins)) [] σ1 (upd H1 a (xho a o4)) { y with heap := h4 } := by
      refine inv_known (B := h4) J4 (fun b o e _ _ => e) (fun b h0 hx q => ?_) (fun p hp q => ?_) g4 ⟨_, d4⟩ na nL
      · subst q
        cases e0 : X.s_0.heap.get? b with
        | none => exact h0 e0
        | some o => obtain ⟨o', e'⟩ := J.base.there b o e0 hx; rw [gone] at e'; cases e'
      · have := (J.pin p hp).1; rw [q, gone] at this; cases this
    refine store_ok (X := X.suite a (X.pn ++ pins)) (v := .ref a) S4 hN hi (.inl hln) rfl (fun s5 S5 => ?_) (.inr hln)
    refine wpAny_mono (yes rfl a o4 s5 na z4 ⟨_, d4⟩ S5) (fun f s6 q => ?_) fun _ _ q => q.elim
    have fin : ∀ {σ6 : L2.St} {H6 : Hp} {Q : Shared → Prop}, Inv (X.suite a (X.pn ++ pins)) [] σ6 H6 s6 → (∀ s7, Inv X pins (σ6.set i none) H6 s7 → Q s7) → wpAny (model X.prog X.w) X.A (do bindName X.env n .none; unbindBehindTheSuite X.env n pos') (fun _ s7 => Q s7) X.xe s6 :=
      fun J6 k => gone_ok (inv_back J6 ok) hN hi hln k
    cases f with
    | next => obtain ⟨σ6, H6, J6, q⟩ := q; exact fin J6 fun s7 J7 => ⟨_, _, J7, q⟩
    | brk => obtain ⟨σ6, H6, J6, q⟩ := q; exact fin J6 fun s7 J7 => ⟨_, _, J7, q⟩
    | cont => obtain ⟨σ6, H6, J6, q⟩ := q; exact fin J6 fun s7 J7 => ⟨_, _, J7, q⟩
    | ret u => obtain ⟨v6, σ6, H6, J6, r, q⟩ := q; exact fin J6 fun s7 J7 => ⟨_, _, _, J7, r, q⟩
end

/-! ### told of data -/
theorem rps_drop {K : PySem.W.Frag} {mg : Str → Option Value} {I : Hp} {μ : List Addr} {σ : L2.St} {ρ : Ro} (r : RpS K mg I μ σ ρ) (i : Nat) : RpS K mg I μ (σ.set i none) (st ρ i none) := by
  refine ⟨by rw [List.length_set, st_length]; exact r.len, fun j e q => ?_⟩
  rw [gt_st] at q
  split at q
  · cases q
  · rename_i c
    obtain ⟨w, q1, q2⟩ := r.get j e q
    refine ⟨w, ?_, q2⟩
    by_cases z : i = j
    · subst z; exact absurd ⟨rfl, gt_lt q⟩ c
    · rw [List.getElem?_set_ne z]; exact q1
/-- which classes of exceptions the clause 'except x' takes -/
structure XT (K : PySem.W.Frag) (mg : Str → Option Value) (x : Str) (tab : Str → Option Bool) : Prop where
  ex : ∃ Cx, mg x = some (.ref Cx) ∧ ∀ c b, tab c = some b → ∀ C, mg c = some (.ref C) → PySem.W.exmOne K (.ref C) (.ref Cx) = some b
def kOut (i : Nat) (κ : WK) : WK := { nx := fun ρ S => κ.nx (st ρ i none) S, rt := κ.rt, bk := fun ρ S => κ.bk (st ρ i none) S, ct := fun ρ S => κ.ct (st ρ i none) S }
/-- the wish of a try's body about exceptions: the suite, or what stands outside -/
def Xcat (tab : Str → Option Bool) (i : Nat) (wh : WS) (κ : WK) (Ψ : Xk) : Xk := fun c fs ρ S => ∃ b, tab c = some b ∧ (b = true → wh (kOut i κ) (st ρ i (some (.exc c fs))) S) ∧ (b = false → Ψ c fs ρ S)
def wTryAs (tab : Str → Option Bool) (i : Nat) (wb : Xk → WS) (wh : WS) (Ψ : Xk) : WS := fun κ ρ S => wb (Xcat tab i wh κ Ψ) κ ρ S
section
variable {X : Cx} {Γ : Gam} {x n : Str} {i : Nat} {body suite : List Stmt} {b₀ : Stmt} {np pos pos' : Pos} {tab : Str → Option Bool} {wb : Xk → WS} {wh : WS}
theorem rp_exc {K : PySem.W.Frag} {mg : Str → Option Value} {I : Hp} {μ : List Addr} {a : Addr} {oe : Obj} {c : Str} {fs : List (Str × D)} {cls : Value} {d : Option Addr} (hi : I a = none) (x : XRp K mg I μ c fs cls d) (z : Zc cls d oe) (hv : ∃ vs, oe.data = .fields vs) :
    Rp K mg (upd I a (xho a oe)) μ (.ref a) (.exc c fs) := by
  obtain ⟨C, hC, rfl, k⟩ := x
  cases d with
  | none => subst k; exact .exc0 hC upd_same z hv
  | some dd =>
    obtain ⟨fv, hd, r⟩ := k
    have e : Ext I μ (upd I a (xho a oe)) μ := Ext.new hi
    exact .exc1 hC upd_same z hv (e.hp _ _ hd) (r.ext e)
theorem s_tryAs (i : Nat) (hs : X.stack = X.env :: X.outer) (hf : X.env.frame = some X.env.locals) (hN : X.N.Nodup) (xt : XT X.K X.mg x tab) (tk : Takes X Γ.W)
    (hb : ∀ (W : WX) (Ψ : Xk) (pn : List (Addr × Obj)) (xe : Value → Shared → Prop), Takes (X.tr pn xe) W → PassesOwn (model X.prog X.w) X.A X.env xe → ∃ t, SSs (X.tr pn xe) ⟨W, Ψ⟩ body t (wb Ψ))
    (hh : ∀ (a : Addr) (pn : List (Addr × Obj)), ∃ t, SSs (X.suite a pn) G0 (b₀ :: suite) t wh) (hi : X.N[i]? = some n := by rfl) (hln : X.env.kindOf n = some .local := by rfl) (hg : Gl X x := by rfl) (hdb : (x == ("__debug__" : Str)) = false := by decide) :
    SS X Γ (.Try body [.ExceptHandler (some (.Name x np)) (some n) (b₀ :: suite) pos'] [] [] pos) (tSem X (.Try body [.ExceptHandler (some (.Name x np)) (some n) (b₀ :: suite) pos'] [] [] pos)) (wTryAs tab i wb wh Γ.Ψ) := by
  obtain ⟨Cv, hC, tb⟩ := xt.ex
  refine ⟨ps_sem, fun Z lk σ ρ I μ S H E κ rs ok hw cv pins z J => ?_⟩
  refine try_run (W := Γ.W) hs hf hN hi hln ⟨hg, hdb, .inl hC⟩ tk J fun xe tk' hp' => ?_
  obtain ⟨t, q⟩ := hb (SuW X pins E i (b₀ :: suite) (.ref Cv) Γ.W) (Xcat tab i wh κ Γ.Ψ) (X.pn ++ pins) xe tk' hp'
  have lk' : Lk (X.tr (X.pn ++ pins) xe) ⟨SuW X pins E i (b₀ :: suite) (.ref Cv) Γ.W, Xcat tab i wh κ Γ.Ψ⟩ (Z.fr I μ) := fun c fs cls d σ1 ρ1 I1 μ1 S1 H1 o1 r1 xr hx => by
    obtain ⟨b, hb1, yes, no⟩ := hx
    obtain ⟨C, hc1, hc2, _⟩ := id xr
    subst hc2
    refine ⟨b, tb c b hb1 C hc1, fun hy a oe z2 na zc hv J2 => ?_, fun hn => lk c fs _ d σ1 ρ1 I1 μ1 S1 H1 o1.un r1 xr (no hn)⟩
    obtain ⟨th, qh⟩ := hh a (X.pn ++ pins)
    have hi1 := free_of o1.sub na
    have ex1 : Ext I1 μ1 (upd I1 a (xho a oe)) μ1 := Ext.new hi1
    have cv' := ((cv.ext o1.ex).ext ex1)
    refine (qh.ps.run [] z2 _ _ (eOut i E) J2 (qh.si Z Lk.zero _ (st ρ1 i (some (.exc c fs))) (upd I1 a (xho a oe)) μ1 S1 _ _ (kOut i κ) ((r1.ext ex1).put (rp_exc hi1 xr zc hv) i) (o1.un.new na) (yes hy) ⟨fun σ3 ρ3 I3 μ3 S3 H3 e3 r3 o3 q3 => ?_, cv'.rt, fun σ3 ρ3 I3 μ3 S3 H3 e3 r3 o3 q3 => ?_, fun σ3 ρ3 I3 μ3 S3 H3 e3 r3 o3 q3 => ?_⟩))
    · exact cv'.nx _ _ I3 μ3 S3 H3 e3 (rps_drop r3 i) o3 q3
    · exact cv'.bk _ _ I3 μ3 S3 H3 e3 (rps_drop r3 i) o3 q3
    · exact cv'.ct _ _ I3 μ3 S3 H3 e3 (rps_drop r3 i) o3 q3
  exact q.ps.run [] z σ H E (J.toTry xe) (q.si (Z.fr I μ) lk' σ ρ I μ S H E κ rs ok.fr hw cv.fr)
end
end Sq

set_option Elab.async false
set_option maxRecDepth 100000
set_option maxHeartbeats 4000000
set_option linter.all false
/-! Exceptions as data: asked, read; own operators, methods and makings that may raise; try without a name. -/
namespace Sq
open PySem PySem.Spec PyProof.Rows L2

theorem takes_zero {X : Cx} : Takes X G0.W := fun _ _ ⟨_, _, _, _, _, _, _, _, _, _, _, _, _, _, _, _, w⟩ => w.elim
abbrev X0 : Xk := fun _ _ _ _ => False
/-- what an expression is, by its run -/
def tSemE (X : Cx) (e : Expr) : TE := fun σ H Q => ∀ (pins : List (Addr × Obj)) (z : Shared), Inv X pins σ H z → wpAny (model X.prog X.w) X.A (eval e X.env) (EP X pins σ Q) X.xe z
theorem pe_sem {X : Cx} {e : Expr} : PE X e (tSemE X e) := ⟨fun pins z σ H Q I h => h pins z I⟩

/-! ### a known exception -/
/-- the class of an exception, as isinstance and e.f look at it -/
structure XI (K : PySem.W.Frag) (C : Addr) : Prop where
  cl : PySem.W.isClsIn K C = true
  ga : PySem.W.findIn K (.ref C) "__getattribute__" = some (some (.builtin "BaseException.__getattribute__"))
  gt : PySem.W.findIn K (.ref C) "__getattr__" = some none
  sb : PySem.W.subIn K (.ref C) (.type "BaseException") = some true
  ha : PySem.W.findIn K (.ref C) "__class__" = some (some (.builtin "object.__class__"))
  hn : PySem.W.specialIn K (.builtin "object.__class__") "__get__" = some (some (.builtin "getset_descriptor.__get__"))
  tk : PySem.W.takesIn K (.builtin "object.__class__") = some true
  mo : PySem.W.mroIn K C (.type "object") = some true
structure XD (K : PySem.W.Frag) (mg : Str → Option Value) (c : Str) : Prop where
  ex : ∀ C, mg c = some (.ref C) → XI K C
/-- how a known exception stands in the state -/
theorem exc_at {X : Cx} {pins : List (Addr × Obj)} {σ : L2.St} {H : Hp} {z : Shared} {Z : Zt} {I : Hp} {μ : List Addr} {S : Sto} {v : V} {c : Str} {fs : List (Str × D)} (J : Inv X pins σ H z) (o : Ok X.K X.mg Z I μ S H) (r : Rp X.K X.mg I μ v (.exc c fs)) :
    ∃ (a C : Addr) (oe : Obj) (od : Option Obj) (fv : List (Str × V)), v = .ref a ∧ X.mg c = some (.ref C) ∧ PySem.W.InstAt z.heap a oe C od ∧ RpF X.K X.mg I μ fv fs ∧ ((fs = [] ∧ od = none) ∨ ∃ o', od = some o' ∧ ∃ mA : Str → Option Value, (∀ n, PySem.W.lookIn n o' = some (mA n)) ∧ ∀ f, RelO (fv.lookup f) (mA f)) := by
  have nc : ∀ {oe : Obj}, (∃ vs, oe.data = .fields vs) → PySem.W.notCls oe = true := fun ⟨vs, q⟩ => by unfold PySem.W.notCls; rw [q] <;> rfl
  cases r with
  | exc0 m h zc q =>
    rename_i a C oe
    have k : z.heap.get? a = some oe := (J.hok _ _ (o.sub _ _ h)).1
    exact ⟨a, C, oe, none, [], rfl, m, ⟨k, zc.1, nc q, by rw [zc.2]; trivial⟩, .nil, .inl ⟨rfl, rfl⟩⟩
  | exc1 m h zc q hd rf =>
    rename_i a C dd oe fv
    have k : z.heap.get? a = some oe := (J.hok _ _ (o.sub _ _ h)).1
    obtain ⟨mA, ns, hr⟩ : ∃ mA, z.heap.Ns1 dd mA ∧ ∀ f, RelO (fv.lookup f) (mA f) := J.hok _ _ (o.sub _ _ hd)
    obtain ⟨od, ho, hl⟩ := lookIn_ns ns
    exact ⟨a, C, oe, some od, fv, rfl, m, ⟨k, zc.1, nc q, by rw [zc.2]; exact ho⟩, rf, .inr ⟨od, rfl, mA, hl, hr⟩⟩
/-- e.f -/
def wXf (cs : List Str) (f : Str) (we : WE) : WE := fun ρ S Q => we ρ S fun d S1 => match d with
  | .exc c fs => c ∈ cs ∧ onS (fs.lookup f) fun x => Q x S1
  | _ => False
structure KXf (K : PySem.W.Frag) (mg : Str → Option Value) (c f : Str) : Prop where
  ex : ∀ C, mg c = some (.ref C) → XI K C ∧ PySem.W.hasDictIn K C = true ∧ PySem.W.findIn K (.ref C) f = some none
section
variable {X : Cx} {Γ : Gam} {e : Expr} {te : TE} {we : WE} {p pos p2 : Pos} {c f x : Str}
theorem se_xf {cs : List Str} (k : ∀ c, c ∈ cs → KXf X.K X.mg c f) (h : SE X Γ e te we) (hb : attributeBase e f X.env (eval e X.env) = eval e X.env := by rfl) : SE X Γ (.Attribute e f pos) (tSemE X (.Attribute e f pos)) (wXf cs f we) := by
  refine ⟨pe_sem, fun Z lk σ ρ I μ S H Q Φ rs ok hw kp pins z J => ?_⟩
  refine attr_of hb (thn (h.pe.run pins z σ H (fun v H1 => ∃ d I1 μ1 S1, Ext I μ I1 μ1 ∧ Ok X.K X.mg Z I1 μ1 S1 H1 ∧ Rp X.K X.mg I1 μ1 v d ∧ match d with
      | .exc c fs => c ∈ cs ∧ onS (fs.lookup f) fun x => Φ x S1
      | _ => False) J (h.si Z lk σ ρ I μ S H _ _ rs ok hw fun v d I1 μ1 S1 H1 e1 o1 r1 q1 => ⟨d, I1, μ1, S1, e1, o1, r1, q1⟩)) fun u z1 hu => ?_)
  obtain ⟨v, H1, J1, rv, d, I1, μ1, S1, e1, o1, r1, q1⟩ := hu
  split at q1
  · rename_i c fs
    obtain ⟨q0, q1⟩ := q1
    obtain ⟨y, l, q1⟩ := onS_iff q1
    obtain ⟨a, C, oe, od, fv, rfl, hC, K1, rf, alt⟩ := exc_at J1 o1 r1
    obtain rfl : u = Value.ref a := rv
    obtain ⟨xi, hd, no⟩ := (k c q0).ex C hC
    rcases alt with ⟨rfl, _⟩ | ⟨o', rfl, mA, lk', hr⟩
    · cases l
    · obtain ⟨w, lw, rw'⟩ := rf.look.1 y l
      obtain ⟨t, ht, rt⟩ := RelO.some_of (v := w) (o := mA f) (by rw [← lw]; exact hr f)
      exact HandSPX.exc_get J1.kIn K1 xi.ga xi.gt xi.sb (PySem.W.findObj_own hd no rfl (by rw [lk', ht])) (handed_of rt) ⟨w, H1, J1.tok _, rt, kp w y I1 μ1 S1 H1 e1 o1 rw' q1⟩
  · exact q1.elim
/-- isinstance(e, x), of an exception: by its class -/
def wIsX (tab : Str → Option Bool) (we : WE) : WE := fun ρ S Q => we ρ S fun d S1 => match d with
  | .exc c _ => onS (tab c) fun b => Q (.bl b) S1
  | _ => False
structure KXi (K : PySem.W.Frag) (xv : Value) (mg : Str → Option Value) (tab : Str → Option Bool) : Prop where
  ex : ∀ c b, tab c = some b → ∀ C, mg c = some (.ref C) → XI K C ∧ PySem.W.kitOne K (.ref C) xv = some b
/-- the word for one class of the program, or a built-in one -/
structure NmX (K : PySem.W.Frag) (mg : Str → Option Value) (x : Str) (tab : Str → Option Bool) : Prop where
  ex : ∃ xv, (mg x = some xv ∧ (∃ C, xv = .ref C) ∨ (mg x = none ∧ bootBuiltins x = some xv ∧ x ≠ "__name__" ∧ ∃ T, xv = .type T)) ∧ KXi K xv mg tab
theorem se_isX {tab : Str → Option Bool} (k : NmX X.K X.mg x tab) (hm : X.mg "isinstance" = none) (h : SE X Γ e te we) (hg : Gl X "isinstance" := by rfl) (hgT : Gl X x := by rfl) (hxd : (x == ("__debug__" : Str)) = false := by decide)
    (he : starEach [e, .Name x p2] X.env = (false, eval e X.env) :: starEach [.Name x p2] X.env := by rfl) (he2 : starEach [.Name x p2] X.env = (false, eval (.Name x p2) X.env) :: starEach [] X.env := by rfl) (hpl : (backTo pos (starEach [.Name x p2] X.env)).any (·.1) = false := by rfl) :
    SE X Γ (.Call (.Name "isinstance" p) [e, .Name x p2] [] pos) (tSemE X (.Call (.Name "isinstance" p) [e, .Name x p2] [] pos)) (wIsX tab we) := by
  obtain ⟨xv, nm, kk⟩ := k.ex
  refine ⟨pe_sem, fun Z lk σ ρ I μ S H Q Φ rs ok hw kp pins z J => ?_⟩
  have nam : ∃ w : V, RelV w xv ∧ (∀ u, RelV w u → u = xv) ∧ PE X (.Name x p2) (tC w) := by
    rcases nm with ⟨h1, C, rfl⟩ | ⟨h1, h2, h3, T, rfl⟩
    · exact ⟨.ref C, rfl, fun u r => r, pe_glob hgT h1 rfl hxd⟩
    · exact ⟨.ty T, rfl, fun u r => r, pe_bltn hgT h1 h2 rfl h3 hxd⟩
  obtain ⟨w, rw', ru, pn⟩ := nam
  have cr : CallR X (.builtin "isinstance") (fun xs H1 Q1 => ∃ (v : V) (d : D) (I1 : Hp) (μ1 : List Addr) (S1 : Sto), xs = [v, w] ∧ Ext I μ I1 μ1 ∧ Ok X.K X.mg Z I1 μ1 S1 H1 ∧ Rp X.K X.mg I1 μ1 v d ∧ match d with
      | .exc c _ => onS (tab c) fun b => Q1 (.bl b) H1
      | _ => False) := by
    intro pins s σ H xs us Q I r hh
    obtain ⟨v, d, I1, μ1, S1, rfl, e1, o1, r1, q1⟩ := hh
    obtain ⟨u1, u2, rfl, rr1, rr2⟩ := vals2 r
    have eu := ru _ rr2
    subst eu
    split at q1
    · rename_i c fs
      obtain ⟨b, hb, q1⟩ := onS_iff q1
      obtain ⟨a, C, oe, od, fv, rfl, hC, K1, rf, alt⟩ := exc_at I o1 r1
      obtain rfl : u1 = Value.ref a := rr1
      obtain ⟨xi, ko⟩ := kk.ex c b hb C hC
      exact PySem.W.kia_one (PySem.W.kitx_exc xi.cl xi.ga xi.gt xi.sb xi.ha xi.hn xi.tk xi.mo) I.kIn K1 ko (fun z => nomatch z) fun tk => ⟨.bl b, H, I.tok tk, rfl, q1⟩
    · exact q1.elim
  refine (pe_callB cr hg hm (by decide +kernel) (pa_cons h.pe (pa_cons pn pa_nil he2) he) (by decide) (by decide) he hpl).run pins z σ H Q J ?_
  refine h.si Z lk σ ρ I μ S H _ _ rs ok hw fun v d I1 μ1 S1 H1 e1 o1 r1 q1 => ⟨v, d, I1, μ1, S1, rfl, e1, o1, r1, ?_⟩
  split at q1
  · obtain ⟨b, hb, q1⟩ := onS_iff q1
    rw [hb]
    exact kp _ _ I1 μ1 S1 H1 e1 o1 .bl q1
  · exact q1.elim
end

/-! ### what may raise: own operators, methods, makings -/
structure OpOX (P : Program) (w : World) (K : PySem.W.Frag) (mg : Str → Option Value) (base : Heap) (k : Nat) (c : Str) (op : Operator) (sp : FSpX) : Prop where
  ex : ∃ (C g : Addr) (fd : FuncData) (ps : List Str), mg c = some (.ref C) ∧ PySem.W.selfFirst K C = true ∧ PySem.W.findIn K (.ref C) (PySem.dunder op.info.2) = some (some (.ref g)) ∧ PySem.W.isFn K (.ref g) = true ∧ FnOk P w K mg base (L2.CX P w) k g fd ps (spOfX K mg 2 sp) ∧ Binds K fd ps []
def wOwnX (Ψ : Xk) (c : Str) (sp : FSpX) (wa wb : WE) : WE := fun ρ S Q => wa ρ S fun x S1 => wb ρ S1 fun y S2 => (atts S2 c x).isSome = true ∧ (atts S2 c y).isSome = true ∧ sp [x, y] S2 Q fun c fs S' => Ψ c fs ρ S'
structure MDX (P : Program) (w : World) (K : PySem.W.Frag) (mg : Str → Option Value) (base : Heap) (k : Nat) (c m : Str) (n : Nat) (sp : FSpX) (dvs : List V) : Prop where
  ex : ∃ (C f : Addr) (fd : FuncData) (ps : List Str) (ds : List Value), mg c = some (.ref C) ∧ Cls K C ∧ Meth K C m f ∧ FnOk P w K mg base (L2.CX P w) k f fd ps (spOfX K mg n sp) ∧ Binds K fd ps ds ∧ Vals dvs ds
def wMethX (Ψ : Xk) (c m : Str) (n : Nat) (sp : FSpX) (dd : List D) (we : WE) (wa : WA) : WE := fun ρ S Q => we ρ S fun d S1 => onS (atts S1 c d) fun fs => fs.lookup m = none ∧ wa ρ S1 fun ds S2 => (d :: (ds ++ dd)).length = n ∧ sp (d :: (ds ++ dd)) S2 Q fun c fs S' => Ψ c fs ρ S'
structure MkX (P : Program) (w : World) (K : PySem.W.Frag) (mg : Str → Option Value) (base : Heap) (k : Nat) (c : Str) (n : Nat) (sp : FSpX) (dvs : List V) : Prop where
  ex : ∃ (C f : Addr) (fd : FuncData) (ps : List Str) (ds : List Value), mg c = some (.ref C) ∧ Mk K C f ∧ FnOk P w K mg base (L2.CX P w) k f fd ps (spOfX K mg n sp) ∧ Binds K fd ps ds ∧ Vals dvs ds
/-- what is raised while a thing is made: the thing is forgotten -/
def Xmk (Ψ : Xk) (ρ : Ro) (S1 : Sto) : Xf := fun c fs S2 => ∃ m, S2 = S1 ++ [m] ∧ lowf S1.length fs ∧ (∀ (k : Nat) (m : M), k < S1.length → S1[k]? = some m → lowM S1.length m) ∧ Ψ c fs ρ S1
def wMakeFX (Ψ : Xk) (c : Str) (n : Nat) (sp : FSpX) (dd : List D) (wa : WA) : WE := fun ρ S Q => wa ρ S fun ds S1 => (D.h S1.length :: (ds ++ dd)).length = n ∧
  sp (.h S1.length :: (ds ++ dd)) (S1 ++ [.ins c []]) (fun r S2 => r = .non ∧ ∃ fs, S2 = S1 ++ [.ins c fs] ∧ lowf S1.length fs ∧ (∀ (k : Nat) (m : M), k < S1.length → S1[k]? = some m → lowM S1.length m) ∧ Q (.ins c fs) S1) (Xmk Ψ ρ S1)
def wMakeMX (Ψ : Xk) (c : Str) (n : Nat) (sp : FSpX) (dd : List D) (wa : WA) : WE := fun ρ S Q => wa ρ S fun ds S1 => (D.h S1.length :: (ds ++ dd)).length = n ∧
  sp (.h S1.length :: (ds ++ dd)) (S1 ++ [.ins c []]) (fun r S2 => r = .non ∧ Q (.h S1.length) S2) (Xmk Ψ ρ S1)
theorem XRp.cut {K : PySem.W.Frag} {mg : Str → Option Value} {I : Hp} {μ μ' : List Addr} {n : Nat} {c : Str} {fs : List (Str × D)} {cls : Value} {d : Option Addr} (hm : ∀ (k : Nat) (a : Addr), k < n → μ[k]? = some a → μ'[k]? = some a) (r : XRp K mg I μ c fs cls d) (l : lowf n fs) : XRp K mg I μ' c fs cls d := by
  obtain ⟨C, h, q, z⟩ := r
  refine ⟨C, h, q, ?_⟩
  cases d with
  | none => exact z
  | some dd => obtain ⟨fv, y, r⟩ := z; exact ⟨fv, y, r.cut hm l⟩
section
variable {X : Cx} {Γ : Gam} {k j n : Nat} {c m : Str} {sp : FSpX} {dvs : List V} {dd : List D} {p pos apos : Pos} {e o : Expr} {es : List Expr} {te : TE} {we : WE} {t : TA} {wa : WA}
/-- a run of an expression, its end told of data -/
theorem run_d {Z : Zt} (lk : Lk X Γ Z) (h : SE X Γ e te we) {pins : List (Addr × Obj)} {z : Shared} {σ : L2.St} {ρ : Ro} {I : Hp} {μ : List Addr} {S : Sto} {H : Hp} {Φ : D → Sto → Prop} (J : Inv X pins σ H z) (rs : RpS X.K X.mg I μ σ ρ) (ok : Ok X.K X.mg Z I μ S H) (hw : we ρ S Φ) :
    wpAny (model X.prog X.w) X.A (eval e X.env) (fun u z1 => ∃ v H1 d I1 μ1 S1, Inv X pins σ H1 z1 ∧ RelV v u ∧ Ext I μ I1 μ1 ∧ Ok X.K X.mg Z I1 μ1 S1 H1 ∧ Rp X.K X.mg I1 μ1 v d ∧ Φ d S1) X.xe z :=
  thn (h.pe.run pins z σ H (fun v H1 => ∃ d I1 μ1 S1, Ext I μ I1 μ1 ∧ Ok X.K X.mg Z I1 μ1 S1 H1 ∧ Rp X.K X.mg I1 μ1 v d ∧ Φ d S1) J (h.si Z lk σ ρ I μ S H _ _ rs ok hw fun v d I1 μ1 S1 H1 e1 o1 r1 q1 => ⟨d, I1, μ1, S1, e1, o1, r1, q1⟩))
    fun u z1 ⟨v, H1, J1, rv, d, I1, μ1, S1, y⟩ => ⟨v, H1, d, I1, μ1, S1, J1, rv, y⟩
theorem run_da {Z : Zt} (lk : Lk X Γ Z) (h : SA X Γ es t wa) {pins : List (Addr × Obj)} {z : Shared} {σ : L2.St} {ρ : Ro} {I : Hp} {μ : List Addr} {S : Sto} {H : Hp} {Φ : List D → Sto → Prop} (J : Inv X pins σ H z) (rs : RpS X.K X.mg I μ σ ρ) (ok : Ok X.K X.mg Z I μ S H) (hw : wa ρ S Φ) {pos : Pos} :
    wpAny (model X.prog X.w) X.A (spliced (backTo pos (starEach es X.env))) (fun us z1 => ∃ vs H1 ds I1 μ1 S1, Inv X pins σ H1 z1 ∧ Vals vs us ∧ Ext I μ I1 μ1 ∧ Ok X.K X.mg Z I1 μ1 S1 H1 ∧ RpL X.K X.mg I1 μ1 vs ds ∧ Φ ds S1) X.xe z :=
  thn (h.pa.run pos pins z σ H (fun vs H1 => ∃ ds I1 μ1 S1, Ext I μ I1 μ1 ∧ Ok X.K X.mg Z I1 μ1 S1 H1 ∧ RpL X.K X.mg I1 μ1 vs ds ∧ Φ ds S1) J (h.si Z lk σ ρ I μ S H _ _ rs ok hw fun v d I1 μ1 S1 H1 e1 o1 r1 q1 => ⟨d, I1, μ1, S1, e1, o1, r1, q1⟩))
    fun u z1 ⟨v, H1, J1, rv, d, I1, μ1, S1, y⟩ => ⟨v, H1, d, I1, μ1, S1, J1, rv, y⟩
/-- a def that may raise runs -/
theorem run_fx {Z : Zt} (lk : Lk X Γ Z) {f : Addr} {fd : FuncData} {ps : List Str} {ds : List Value} (F : FnOk X.prog X.w X.K X.mg X.base (L2.CX X.prog X.w) k f fd ps (spOfX X.K X.mg n sp)) (hr : Room k X.A) (b : Binds X.K fd ps ds) (dv : Vals dvs ds) (tk : Takes X Γ.W) {pins : List (Addr × Obj)} {z : Shared} {σ : L2.St} {ρ : Ro}
    {I : Hp} {μ : List Addr} {S : Sto} {H : Hp} {Q : VK} {Φ : D → Sto → Prop} {us : List Value} {vs : List V} {ds' : List D} (J : Inv X pins σ H z) (rs : RpS X.K X.mg I μ σ ρ) (ok : Ok X.K X.mg Z I μ S H) (rv : Vals vs us) (rd : RpL X.K X.mg I μ (vs ++ dvs) ds') (hl : ds'.length = n)
    (hw : sp ds' S Φ fun c fs S' => Γ.Ψ c fs ρ S') (kp : Kp X.K X.mg Z I μ Φ Q) : wpAny (model X.prog X.w) X.A (call (.ref f) us) (EP X pins σ Q) X.xe z :=
  run_fnSD (E := L2.WE Γ.W) F hr b dv (passAt tk σ) J rv ⟨by rw [rd.length]; exact hl, ds', Z, I, μ, S, Φ, _, rd, ok, hw, kp, kx_of lk rs⟩
theorem se_ownX {op : Operator} {a b : Expr} {ta tb : TE} {wa wb : WE} (m : OpOX X.prog X.w X.K X.mg X.base k c op sp) (hr : Room j X.A) (hk : k ≤ j) (tk : Takes X Γ.W) (ha : SE X Γ a ta wa) (hb : SE X Γ b tb wb) : SE X Γ (.BinOp a op b pos) (tSemE X (.BinOp a op b pos)) (wOwnX Γ.Ψ c sp wa wb) := by
  obtain ⟨C, g, fd, ps, hC, sf, fi, fn, F, bi⟩ := m.ex
  refine ⟨pe_sem, fun Z lk σ ρ I μ S H Q Φ rs ok hw kp pins z J => ?_⟩
  refine wpAny_BinOp (thn (run_d lk ha J rs ok hw) fun u z1 ⟨v, H1, d, I1, μ1, S1, J1, rv, e1, o1, r1, q1⟩ => thn (run_d lk hb J1 (rs.ext e1) o1 q1) fun u2 z2 ⟨v2, H2, d2, I2, μ2, S2, J2, rv2, e2, o2, r2, q2⟩ => ?_)
  obtain ⟨y1, y2, q2⟩ := q2
  obtain ⟨fs, y1⟩ := Option.isSome_iff_exists.mp y1
  obtain ⟨gs, y2⟩ := Option.isSome_iff_exists.mp y2
  have r1' := r1.ext e2
  obtain ⟨p1, C1, dx, fv, rfl, hC1, h1, _⟩ := atts_ok o2 r1' y1
  obtain ⟨p2, C2, dy, gv, rfl, hC2, h2, _⟩ := atts_ok o2 r2 y2
  rw [hC] at hC1 hC2
  cases hC1
  cases hC2
  obtain rfl : u = Value.ref p1 := rv
  obtain rfl : u2 = Value.ref p2 := rv2
  obtain ⟨mA, O, _⟩ := ins_get J2.hok h1
  obtain ⟨od, K1, _⟩ := O.look
  obtain ⟨mB, O2, _⟩ := ins_get J2.hok h2
  obtain ⟨od2, K2, _⟩ := O2.look
  obtain ⟨mm, Fm⟩ := J2.fr
  refine PySem.W.binop_K Fm J2.mod.kin K1 K2.type sf fi fn ?_
  refine thn (run_fx (vs := [.ref p1, .ref p2]) (us := [.ref p1, .ref p2]) (Q := Q) lk F (hr.mono hk) bi .nil tk J2 ((rs.ext e1).ext e2) o2 (.cons rfl (.cons rfl .nil)) (.cons r1' (.cons r2 .nil)) rfl q2 (kp.ext (e1.trans e2))) fun r s' y => ?_
  obtain ⟨w, H', I', rw', q'⟩ := y
  exact rel_ni rw' ⟨w, H', I', rw', q'⟩
theorem se_methX {pl : Sem Bool} (cm : MDX X.prog X.w X.K X.mg X.base k c m n sp dvs) (hr : Room j X.A) (hk : k ≤ j) (tk : Takes X Γ.W) (hd : ∀ I μ, RpL X.K X.mg I μ dvs dd) (h : SE X Γ o te we) (ha : SA X Γ (e :: es) t wa)
    (hst : starEach (e :: es) X.env = (false, eval e X.env) :: starEach es X.env := by rfl) (hpl : (backTo pos (starEach es X.env)).any (·.1) = false := by rfl)
    (ht : eval (.Call (.Attribute o m apos) (e :: es) [] pos) X.env = (do
      let ov ← eval o X.env
      standAt apos.atName
      let (f, first) ← holding [ov] (getMethod ov m pl)
      callWith pos f first (backTo pos (starEach (e :: es) X.env)) (backToKw pos (keywordEach [] X.env))) := by rfl) :
    SE X Γ (.Call (.Attribute o m apos) (e :: es) [] pos) (tSemE X (.Call (.Attribute o m apos) (e :: es) [] pos)) (wMethX Γ.Ψ c m n sp dd we wa) := by
  obtain ⟨C, f, fd, ps, ds, hC, cl, me, F, bi, dv⟩ := cm.ex
  refine ⟨pe_sem, fun Z lk σ ρ I μ S H Q Φ rs ok hw kp pins z J => ?_⟩
  refine PySem.W.methodCall_KW (pl := pl) (thn (run_d lk h J rs ok hw) fun u z1 ⟨v, H1, d, I1, μ1, S1, J1, rv, e1, o1, r1, q1⟩ => ?_) ht
  obtain ⟨fs, hs, l, q1⟩ := onS_iff q1
  obtain ⟨a, C1, dx, fv, rfl, hC1, h1, rf⟩ := atts_ok o1 r1 hs
  rw [hC] at hC1
  cases hC1
  obtain rfl : u = Value.ref a := rv
  refine getmeth_ok J1 h1 cl me (rf.look.2 l) ?_
  refine PySem.W.callWith_K (first := [.ref a]) (h₀ := X.base) J.ok.mod.kin me.kp (thn (run_da lk ha J1 (rs.ext e1) o1 q1) fun us z2 ⟨vs, H2, ds2, I2, μ2, S2, J2, rv2, e2, o2, r2, q2⟩ => ⟨J2.kIn, ?_⟩) hst hpl
  exact run_fx (vs := .ref a :: vs) (us := .ref a :: us) lk F (hr.mono hk) bi dv tk J2 ((rs.ext e1).ext e2) o2 (.cons rfl rv2) (.cons (r1.ext e2) (r2.append (hd I2 μ2))) q2.1 q2.2 (kp.ext (e1.trans e2))
theorem se_methX0 {pl : Sem Bool} (cm : MDX X.prog X.w X.K X.mg X.base k c m n sp dvs) (hr : Room j X.A) (hk : k ≤ j) (tk : Takes X Γ.W) (hd : ∀ I μ, RpL X.K X.mg I μ dvs dd) (h : SE X Γ o te we)
    (ht : eval (.Call (.Attribute o m apos) [] [] pos) X.env = (do
      let ov ← eval o X.env
      standAt apos.atName
      let (f, first) ← holding [ov] (getMethod ov m pl)
      callWith pos f first (backTo pos (starEach [] X.env)) (backToKw pos (keywordEach [] X.env))) := by rfl) :
    SE X Γ (.Call (.Attribute o m apos) [] [] pos) (tSemE X (.Call (.Attribute o m apos) [] [] pos)) (wMethX Γ.Ψ c m n sp dd we wNil) := by
  obtain ⟨C, f, fd, ps, ds, hC, cl, me, F, bi, dv⟩ := cm.ex
  refine ⟨pe_sem, fun Z lk σ ρ I μ S H Q Φ rs ok hw kp pins z J => ?_⟩
  refine PySem.W.methodCall_KW (pl := pl) (thn (run_d lk h J rs ok hw) fun u z1 ⟨v, H1, d, I1, μ1, S1, J1, rv, e1, o1, r1, q1⟩ => ?_) ht
  obtain ⟨fs, hs, l, q1⟩ := onS_iff q1
  obtain ⟨a, C1, dx, fv, rfl, hC1, h1, rf⟩ := atts_ok o1 r1 hs
  rw [hC] at hC1
  cases hC1
  obtain rfl : u = Value.ref a := rv
  refine getmeth_ok J1 h1 cl me (rf.look.2 l) ?_
  have q1' : (d :: ([] ++ dd)).length = n ∧ sp (d :: ([] ++ dd)) S1 Φ fun c fs S' => Γ.Ψ c fs ρ S' := q1
  exact PySem.W.callWith_K0 (first := [.ref a]) J1.kIn me.kp (run_fx (vs := [.ref a]) (us := [.ref a]) lk F (hr.mono hk) bi dv tk J1 (rs.ext e1) o1 (.cons rfl .nil) (.cons r1 (hd I1 μ1)) q1'.1 q1'.2 (kp.ext e1))
/-- a class is called, its __init__ may raise -/
theorem run_mkX {f C : Addr} {fd : FuncData} {ps : List Str} {ds : List Value} {E : L2.St → XK} {pins : List (Addr × Obj)} {σ : L2.St} {H : Hp} {s : Shared} {Q : VK} {us : List Value} {vs : List V} {spv : Sp} (M : Mk X.K C f) (F : FnOk X.prog X.w X.K X.mg X.base (L2.CX X.prog X.w) k f fd ps spv) (hr : Room (k + 1) X.A) (hb : Binds X.K fd ps ds) (hd : Vals dvs ds)
    (hx : PassesAt (L2.CX X.prog X.w) X σ (E σ)) (I : Inv X pins σ H s) (r : Vals vs us) (h : ∀ x dx, H x = none → H dx = none → dx ≠ x → spv (.ref x :: (vs ++ dvs)) (upd (upd H dx (.own x)) x (.ins C dx [])) (fun v H2 => v = .non ∧ Q (.ref x) H2) (E σ)) :
    wpAny (model X.prog X.w) X.A (call (.ref C) us) (EP X pins σ Q) X.xe s := by
  have ne : s.heap.objs.size ≠ s.heap.objs.size + 1 := Nat.ne_of_lt (Nat.lt_succ_self _)
  have q0 := h _ _ (I.hok.fresh (Nat.le_succ _)) (I.hok.fresh (Nat.le_refl _)) ne
  have J := Inv.made (C := C) I
  have rr : Vals (V.ref (s.heap.objs.size + 1) :: (vs ++ dvs)) (Value.ref (s.heap.objs.size + 1) :: (us ++ ds)) := .cons rfl (r.append hd)
  have len : (Value.ref (s.heap.objs.size + 1) :: us ++ ds).length = ps.length := (rr.length.symm.trans (F.len _ _ _ _ q0))
  have run := F.run _ X.stack _ _ ⟨Value.ref (s.heap.objs.size + 1) :: us, []⟩ (Value.ref (s.heap.objs.size + 1) :: (us ++ ds)) _ _ (E σ) (hr.make C us []) (J.env0.make C us []) (hb _ (Value.ref (s.heap.objs.size + 1) :: us) J.kIn len) rr q0
  refine wpAny_call (make_map (f := f) I.kIn M.makes M.init (beq_iff_eq.mp M.fn) (codeAny_mono run fun r s' y => ?_))
  cases r with
  | error e => exact hx pins _ _ e s' J y
  | ok fl =>
    cases fl with
    | ret u =>
      obtain ⟨v, H', I3, rv, ev, q3⟩ := J.after y
      subst ev
      exact ⟨rv, V.ref (s.heap.objs.size + 1), H', I3, rfl, q3⟩
    | next => exact y.elim
    | brk => exact y.elim
    | cont => exact y.elim
theorem kx_make {Z : Zt} (lk : Lk X Γ Z) {σ : L2.St} {ρ : Ro} {I1 : Hp} {μ1 : List Addr} {S1 : Sto} {H1 : Hp} {x : Addr} (rs : RpS X.K X.mg I1 μ1 σ ρ) (o1 : Ok X.K X.mg Z I1 μ1 S1 H1) : Kx X.K X.mg Z I1 (μ1 ++ [x]) (Xmk Γ.Ψ ρ S1) (L2.WE Γ.W σ) := by
  intro c fs cls d I' μ' S' H' e' o' xr h
  obtain ⟨m, rfl, l, ls, hq⟩ := h
  have hμ : μ' = μ1 ++ [x] := mu_one (by rw [o'.len]; simp [o1.len]) e'.mu
  subst hμ
  have e2 : Ext I1 μ1 I' μ1 := ⟨e'.hp, fun _ _ q => q⟩
  have o3 := o'.take S1.length (by rw [← o1.len, List.take_left' rfl]; exact Z.cl _ _ _ _ e2 o1.gnd) (fun k m hk e => ls k m hk (by rw [List.getElem?_append_left hk] at e; exact e))
  rw [← o1.len, List.take_left' rfl, o1.len, List.take_left' rfl] at o3
  refine lk c fs cls d σ ρ I' μ1 S1 H' o3 (rs.ext e2) (xr.cut (fun k a hk e => ?_) l) hq
  rw [List.getElem?_append_left (by rw [o1.len]; exact hk)] at e
  exact e
theorem se_makeFX (m : MkX X.prog X.w X.K X.mg X.base k c n sp dvs) (hr : Room j X.A) (hk : k + 1 ≤ j) (tk : Takes X Γ.W) (hd : ∀ I μ, RpL X.K X.mg I μ dvs dd) (ha : SA X Γ (e :: es) t wa) (hg : Gl X c := by rfl)
    (hdb : (c == ("__debug__" : Str)) = false := by decide) (he : starEach (e :: es) X.env = (false, eval e X.env) :: starEach es X.env := by rfl) (hpl : (backTo pos (starEach es X.env)).any (·.1) = false := by rfl) :
    SE X Γ (.Call (.Name c p) (e :: es) [] pos) (tSemE X (.Call (.Name c p) (e :: es) [] pos)) (wMakeFX Γ.Ψ c n sp dd wa) := by
  obtain ⟨C, f, fd, ps, ds, hC, M, F, b, dv⟩ := m.ex
  refine ⟨pe_sem, fun Z lk σ ρ I μ S H Q Φ rs ok hw kp pins z J => ?_⟩
  refine wpAny_Call_Name_kw (ld_glob J hg hC ?_ hdb)
  refine PySem.W.callWith_K (h₀ := X.base) J.ok.mod.kin M.kp (thn (run_da lk ha J rs ok hw) fun us z1 ⟨vs, H1, ds1, I1, μ1, S1, J1, rv, e1, o1, r1, q1⟩ => ⟨J1.kIn, ?_⟩) he hpl
  refine run_mkX (E := L2.WE Γ.W) M F (hr.mono hk) b dv (passAt tk σ) J1 rv fun x dx hx hdx ne => ?_
  have o2 := ok_made o1 hC hx hdx ne
  have r2 : RpL X.K X.mg I1 (μ1 ++ [x]) (V.ref x :: (vs ++ dvs)) (.h S1.length :: (ds1 ++ dd)) := .cons (.h (mu_last o1 x)) ((r1.append (hd I1 μ1)).ext Ext.push)
  refine ⟨by rw [r2.length]; exact q1.1, _, Z, I1, μ1 ++ [x], _, _, _, r2, o2, q1.2, fun v d I3 μ3 S3 H3 e3 o3 r3 q3 => ?_, kx_make lk (rs.ext e1) o1⟩
  obtain ⟨rfl, fs, rfl, l, ls, q⟩ := q3
  have hμ : μ3 = μ1 ++ [x] := mu_one (by rw [o3.len]; simp [o1.len]) e3.mu
  subst hμ
  obtain ⟨I4, e4, o4, r4⟩ := ok_hold o3 (Z.cl _ _ _ _ ⟨e3.hp, fun _ _ q => q⟩ o1.gnd) l ls o1.len
  exact ⟨rp_non r3, kp _ _ I4 μ1 S1 H3 (e1.trans ⟨e3.hp.trans e4.hp, fun _ _ h => h⟩) o4 r4 q⟩
theorem se_makeMX (m : MkX X.prog X.w X.K X.mg X.base k c n sp dvs) (hr : Room j X.A) (hk : k + 1 ≤ j) (tk : Takes X Γ.W) (hd : ∀ I μ, RpL X.K X.mg I μ dvs dd) (ha : SA X Γ (e :: es) t wa) (hg : Gl X c := by rfl)
    (hdb : (c == ("__debug__" : Str)) = false := by decide) (he : starEach (e :: es) X.env = (false, eval e X.env) :: starEach es X.env := by rfl) (hpl : (backTo pos (starEach es X.env)).any (·.1) = false := by rfl) :
    SE X Γ (.Call (.Name c p) (e :: es) [] pos) (tSemE X (.Call (.Name c p) (e :: es) [] pos)) (wMakeMX Γ.Ψ c n sp dd wa) := by
  obtain ⟨C, f, fd, ps, ds, hC, M, F, b, dv⟩ := m.ex
  refine ⟨pe_sem, fun Z lk σ ρ I μ S H Q Φ rs ok hw kp pins z J => ?_⟩
  refine wpAny_Call_Name_kw (ld_glob J hg hC ?_ hdb)
  refine PySem.W.callWith_K (h₀ := X.base) J.ok.mod.kin M.kp (thn (run_da lk ha J rs ok hw) fun us z1 ⟨vs, H1, ds1, I1, μ1, S1, J1, rv, e1, o1, r1, q1⟩ => ⟨J1.kIn, ?_⟩) he hpl
  refine run_mkX (E := L2.WE Γ.W) M F (hr.mono hk) b dv (passAt tk σ) J1 rv fun x dx hx hdx ne => ?_
  have o2 := ok_made o1 hC hx hdx ne
  have r2 : RpL X.K X.mg I1 (μ1 ++ [x]) (V.ref x :: (vs ++ dvs)) (.h S1.length :: (ds1 ++ dd)) := .cons (.h (mu_last o1 x)) ((r1.append (hd I1 μ1)).ext Ext.push)
  refine ⟨by rw [r2.length]; exact q1.1, _, Z, I1, μ1 ++ [x], _, _, _, r2, o2, q1.2, fun v d I3 μ3 S3 H3 e3 o3 r3 q3 => ?_, kx_make lk (rs.ext e1) o1⟩
  obtain ⟨rfl, q⟩ := q3
  exact ⟨rp_non r3, kp _ _ I3 μ3 S3 H3 ((e1.trans Ext.push).trans e3) o3 (.h (e3.mu _ _ (mu_last o1 x))) q⟩
end

/-! ### from the defs behind the top -/
section
variable {P : Program} {w : World} {K : PySem.W.Frag} {mg : Str → Option Value} {base : Heap} {c m ql : Str} {s : Stmt} {ps N : List Str} {dvs : List V} {k : Nat} {wb : Xk → WS} {sp : FSpX}
theorem DM.mdX (d : DM K mg c m ql s ps dvs) (S : FnScope N ps (C8.fnScope s)) (b : BdX P w K mg base k N ql s wb) (law : LawX ps N wb sp) : MDX P w K mg base (k + 1) c m ps.length sp dvs := by
  obtain ⟨C, f, fd, ds, hC, cl, me, F, bi, dv⟩ := d.ex
  exact ⟨C, f, fd, ps, ds, hC, cl, me, fn_dataX F S b law, bi, dv⟩
theorem DI.madeX (d : DI K mg c ql s ps dvs) (S : FnScope N ps (C8.fnScope s)) (b : BdX P w K mg base k N ql s wb) (law : LawX ps N wb sp) : MkX P w K mg base (k + 1) c ps.length sp dvs := by
  obtain ⟨C, f, fd, ds, hC, M, F, bi, dv⟩ := d.ex
  exact ⟨C, f, fd, ps, ds, hC, M, fn_dataX F S b law, bi, dv⟩
theorem DO.ownX {op : Operator} (d : DO K mg c m ql op s ps) (h2 : ps.length = 2) (S : FnScope N ps (C8.fnScope s)) (b : BdX P w K mg base k N ql s wb) (law : LawX ps N wb sp) : OpOX P w K mg base (k + 1) c op sp := by
  obtain ⟨C, f, fd, hC, sf, fi, isf, F, bi⟩ := d.ex
  exact ⟨C, f, fd, ps, hC, sf, fi, isf, h2 ▸ fn_dataX F S b law, bi⟩
end
end Sq

set_option Elab.async false
set_option maxRecDepth 100000
set_option maxHeartbeats 4000000
set_option linter.all false
/-! Facts about exception classes, from what the top has written; the end of a law that tells of exceptions; try without a name. -/
namespace Sq
open PySem PySem.Spec PyProof.Rows L2

/-- the body of an __init__ that calls super().__init__(x) and keeps x under f -/
structure SupB (s : Stmt) (slf x f : Str) : Prop where
  ex : ∃ (p0 p1 p2 p3 p4 p5 p6 p7 p8 p9 : Pos), C8.fnBody s = [.Expr (.Call (.Attribute (.Call (.Name "super" p0) [] [] p1) "__init__" p2) [.Name x p3] [] p4) p5, .Assign [.Attribute (.Name slf p6) f p7] (.Name x p8) p9] ∧
    (∀ (name qual : Str) (dV kV doc pm cd ct : Value) (an : Option Addr) (cc L fI : Addr), SupE slf x f p0 p1 p2 p3 p4 p5 p6 p7 p8 p9 (callEnv (PySem.W.ksFn name qual (C8.fnArgs s) (C8.fnBody s) (C8.fnScope s) dV kV doc pm an cd ct cc) L fI))
/-- its places -/
structure SupF (s : Stmt) (slf x : Str) : Prop where
  ar : ∃ ar : Arg, ((C8.fnArgs s).posonlyargs ++ (C8.fnArgs s).args).head? = some ar ∧ ar.arg = slf
  ne : slf ≠ x
  su : (C8.fnScope s).names.lookup ("super" : Str) = some .globalImplicit
  cl : (C8.fnScope s).names.lookup ("__class__" : Str) = some .free
  se : (C8.fnScope s).names.lookup slf = some .local
  xx : (C8.fnScope s).names.lookup x = some .local
  ki : (C8.fnScope s).kind = .function
  ce : ∀ y ∈ (C8.fnScope s).names, y.2 ≠ .cell
  co : (C8.fnScope s).isCoroutine = false
  ge : (C8.fnScope s).isGenerator = false
  d1 : (slf == ("__debug__" : Str)) = false
  d2 : (x == ("__debug__" : Str)) = false
  bi : ∀ (qual : Str) (kV doc pm cd ct : Value) (an : Option Addr) (cc : Addr) (u v : Value), bindArgs (PySem.W.ksFn "__init__" qual (C8.fnArgs s) (C8.fnBody s) (C8.fnScope s) .none kV doc pm an cd ct cc) ⟨[u, v], []⟩ = pure [(slf, u), (x, v)]
section
variable {P : Program} {K : PySem.W.Frag} {mg : Str → Option Value} {h : Heap} {c f x self qual : Str} {s : Stmt} {C fI cda cc N : Addr} {oC oI oD oV : Obj} {nm q : Str} {bs bm : List Value} {sn : List Str} {sub : List Value} {ab : Bool} {col : Option Bool} {dd : Option Addr} {k0 k1 k2 k3 k5 : Option Value}
  {oc kV doc pm ct ccl cl : Value} {od an cdd cld : Option Addr} {osl ccs csl : Array (Option Value)} {vs : Array Value} {tf : Tok} {file : Str}
theorem SupD.of (X : K.In h) (G : h.Ns mainGlobals mg) (aC : PySem.W.nsIn K mainGlobals c = some (some (.ref C))) (lC : K.lookup C = some oC) (eC : oC = excClassObj nm q C N bs bm true sn sub ab col dd k0 k1 k2 k3 k5 "ValueError.__new__")
    (hbm : PySem.HandSPX.refsVE bm = true) {D : Addr} (bn : Str) (aB : PySem.W.nsIn K mainGlobals bn = some (some (.ref D))) {oB : Obj} {cB : ClassData} {b1 : Value} {b2 : Option Addr} {b3 : Array (Option Value)} (lB : K.lookup D = some oB) (eB : oB = ⟨b1, b2, .cls cB, b3⟩) (mB : cB.mro = bm) (fB : PySem.W.findIn K (.ref D) "__init__" = some (some (.builtin "ValueError.__init__"))) (sa : PySem.W.findIn K (.ref C) "__setattr__" = some (some (.builtin "object.__setattr__"))) (no : PySem.W.findIn K (.ref C) f = some none)
    (bex : PySem.W.subIn K (.ref C) (.type "BaseException") = some true) (val : PySem.W.subIn K (.ref C) (.type "ValueError") = some true) (own : PySem.W.mroIn K C (.ref C) = some true) (ty : PySem.W.typeIn K (.ref C) = some (.type "type")) (kp : PySem.W.keepIn K (.ref C) = true)
    (ini : PySem.W.findIn K (.ref C) "__init__" = some (some (.ref fI))) (tyI : PySem.W.typeIn K (.ref fI) = some (.type "function")) (opq : PySem.W.nsIn K cStatics "thirdparty.any" = some none) (sup : PySem.W.nsIn K mainGlobals "super" = some none)
    (lI : K.lookup fI = some oI) (eI : oI = ⟨oc, od, .func (PySem.W.ksFn "__init__" qual (C8.fnArgs s) (C8.fnBody s) (C8.fnScope s) .none kV doc pm an (.ref cda) ct cc), osl⟩) (hc : PySem.W.codeIn K (.ref cda) qual = true)
    (lD : K.lookup cda = some oD) (eD : oD = ⟨ccl, cdd, .fields vs, ccs⟩) (v2 : vs[2]? = some (.str file tf)) (pf : ((P.main.file : Str) == file) = true) (ps : (P.main.scope.names.lookup ("super" : Str)).isSome = false)
    (lV : K.lookup cc = some oV) (eV : oV = ⟨cl, cld, .cell (some (.ref C)), csl⟩) (B : SupB s self x f) (S : SupF s self x) : SupD P K mg c f := by
  subst eC eI eD eV eB
  have al : PySem.W.alongIn K "__init__" bm = some (some (.builtin "ValueError.__init__")) := by
    obtain ⟨cd, h1, h2⟩ := PySem.W.kw_along fB
    have h3 : PySem.W.clsIn K D = some cB := by unfold PySem.W.clsIn; rw [lB] <;> rfl
    rw [h3] at h1
    cases h1
    rw [← mB]; exact h2
  obtain ⟨p0, p1, p2, p3, p4, p5, p6, p7, p8, p9, eb, sq⟩ := B.ex
  obtain ⟨ar, har, hself⟩ := S.ar
  refine ⟨C, fI, PySem.W.mg_of X G aC, ⟨⟨nm, q, N, bs, bm, sn, sub, ab, col, dd, k0, k1, k2, k3, k5, lC, hbm, al⟩, sa, no, bex, val, own, ty, kp, ini, tyI, opq, sup, ?_⟩⟩
  refine ⟨oc, od, osl, qual, self, x, C8.fnArgs s, C8.fnScope s, .none, kV, doc, pm, ct, an, cda, cc, p0, p1, p2, p3, p4, p5, p6, p7, p8, p9, ar, vs, file, tf, ccl, cdd, ccs, cl, cld, csl, ?_, hc, har, hself, S.ne, lD, v2, pf, ps, lV, S.su, S.cl, S.se, S.xx, S.ki, S.ce, S.co, S.ge, S.d1, S.d2, fun u v => ?_, fun L => ?_⟩
  · rw [← eb]; exact lI
  · rw [← eb]; exact S.bi _ _ _ _ _ _ _ _ _ _
  · rw [← eb]; exact sq _ _ _ _ _ _ _ _ _ _ _ _
end

/-! ### the end of a law that tells of exceptions -/
theorem end_walkP {T : Program → PySem.W.Frag → (Str → Option Value) → Prop} {l : PySem.W.OpenLaw} {n k : Nat} {q : Program} {loose : List Str} {XP : (Str → Option Value) → Heap → Prop} {YP : World → Heap → Prop} {d : DefRec} {K : Params → PySem.W.Frag} {x p : Str} {s : Stmt} {N : List Str} {wb : WS}
    (hn : l.most = some n) (hz : n ≤ sizeLine) (hdf : d.params.defaults = []) (hx : d.name = x) (room : Room (k + 1) callerA) (hY : ∀ (w : World) (h : Heap), YP w h → (K w.params).In h) (S : FnScope N [p] (C8.fnScope s))
    (dl : ∀ (P : Program) (K : PySem.W.Frag) (mg : Str → Option Value), T P K mg → DL K mg x s p) (bd : ∀ (P : Program) (w : World) (K : PySem.W.Frag) (mg : Str → Option Value) (base : Heap), T P K mg → BdG P w K mg base k N x s wb) (law : LawD [p] N wb sp_law)
    (F : ∀ (w : World) (mg : Str → Option Value) (h : Heap), (K w.params).In h → h.Ns mainGlobals mg → T l.prog (K w.params) mg) :
    PySem.W.WalkO q loose XP YP l.row.toRowW d [] (fun f vs => PySem.call f vs) := by
  refine walk_top (sp := fun w mg => spOf (K w.params) mg 1 sp_law) (x := p) hn hz hdf room hY (fun w mg fa h KX G hm => ?_) (fun w mg G a ns _ hO hS => ?_)
  · have t := F w mg h KX G
    obtain ⟨f, fd, F1, b⟩ := (dl _ _ _ t).ex
    have e := F1.mgf
    rw [hx] at hm
    rw [hm] at e
    cases e
    exact ⟨fd, b, fun base _ _ => fnG_data F1.fn S (bd l.prog w _ mg base t) law⟩
  · refine ⟨rfl, [.scr ns], ⟨fun _ => none, fun _ _ => True, fun _ _ _ _ _ _ => trivial⟩, G, [], [], fun d _ => d = .bl true, .cons (.scr hS) .nil, ⟨fun _ _ e => (nomatch e), trivial, Same.refl G, rfl, .nil, fun n a m e => by simp at e⟩, ⟨ns, rfl, rfl, fun _ => rfl⟩, fun v d I' μ' S' H' e o r q => ?_⟩
    have q' : d = .bl true := q
    subst q'
    cases r
    rfl
/-! ### classes of exceptions -/
section
variable {K : PySem.W.Frag} {mg : Str → Option Value} {h : Heap} {c x f : Str} {C Cv : Addr} {b : Bool} {tab : Str → Option Bool}
theorem XI.to (k : XI K C) (X : K.In h) (G : h.Ns mainGlobals mg) (aC : PySem.W.nsIn K mainGlobals c = some (some (.ref C))) : ∀ C', mg c = some (.ref C') → XI K C' := fun C' e => by
  rw [PySem.W.mg_of X G aC] at e; cases e; exact k
theorem XD.of (X : K.In h) (G : h.Ns mainGlobals mg) (aC : PySem.W.nsIn K mainGlobals c = some (some (.ref C))) (k : XI K C) : XD K mg c := ⟨k.to X G aC⟩
theorem KXf.of (X : K.In h) (G : h.Ns mainGlobals mg) (aC : PySem.W.nsIn K mainGlobals c = some (some (.ref C))) (k : XI K C) (hd : PySem.W.hasDictIn K C = true) (no : PySem.W.findIn K (.ref C) f = some none) : KXf K mg c f := ⟨fun C' e => by
  rw [PySem.W.mg_of X G aC] at e; cases e; exact ⟨k, hd, no⟩⟩
/-- one pair: is a class of exceptions one of the clause's class? -/
structure XP1 (K : PySem.W.Frag) (mg : Str → Option Value) (x c : Str) (b : Bool) : Prop where
  ex : ∃ Cv C, mg x = some (.ref Cv) ∧ mg c = some (.ref C) ∧ PySem.W.subIn K (.ref C) (.ref Cv) = some b
theorem XP1.of (X : K.In h) (G : h.Ns mainGlobals mg) (aV : PySem.W.nsIn K mainGlobals x = some (some (.ref Cv))) (aC : PySem.W.nsIn K mainGlobals c = some (some (.ref C))) (s : PySem.W.subIn K (.ref C) (.ref Cv) = some b) : XP1 K mg x c b :=
  ⟨Cv, C, PySem.W.mg_of X G aV, PySem.W.mg_of X G aC, s⟩
/-- the class of a clause -/
structure XV (K : PySem.W.Frag) (mg : Str → Option Value) (x : Str) : Prop where
  ex : ∃ Cv, mg x = some (.ref Cv) ∧ PySem.W.subIn K (.ref Cv) (.type "BaseException") = some true ∧ (PySem.W.clsIn K Cv).isSome = true ∧ PySem.W.typeIn K (.ref Cv) = some (.type "type")
theorem XV.of (X : K.In h) (G : h.Ns mainGlobals mg) (aV : PySem.W.nsIn K mainGlobals x = some (some (.ref Cv))) (s : PySem.W.subIn K (.ref Cv) (.type "BaseException") = some true) (i : PySem.W.isClsIn K Cv = true) (t : PySem.W.typeIn K (.ref Cv) = some (.type "type")) : XV K mg x :=
  ⟨Cv, PySem.W.mg_of X G aV, s, i, t⟩
/-- a table of classes and answers -/
def tabOf (l : List (Str × Bool)) : Str → Option Bool := fun c => l.lookup c
theorem tab_mem : ∀ {l : List (Str × Bool)} {c : Str} {b : Bool}, tabOf l c = some b → (c, b) ∈ l
  | (k, v) :: l, c, b, e => by
    unfold tabOf at e
    rw [List.lookup] at e
    split at e
    · rename_i q
      cases e
      rw [beq_iff_eq.mp q]; exact List.mem_cons_self
    · exact List.mem_cons_of_mem _ (tab_mem (l := l) e)
theorem exm_of {Cv : Addr} {cls : Value} (h1 : PySem.W.subIn K (.ref Cv) (.type "BaseException") = some true) (h2 : (PySem.W.clsIn K Cv).isSome = true) (h3 : PySem.W.typeIn K (.ref Cv) = some (.type "type")) (h4 : PySem.W.subIn K cls (.ref Cv) = some b) : PySem.W.exmOne K cls (.ref Cv) = some b := by
  have e1 : (PySem.W.subIn K (.ref Cv) (.type "BaseException") == some true) = true := by rw [h1] <;> rfl
  have e2 : ((PySem.W.clsIn K Cv).isSome && PySem.W.typeIn K (.ref Cv) == some (.type "type")) = true := by rw [h2, h3] <;> rfl
  show (if (PySem.W.subIn K (.ref Cv) (.type "BaseException") == some true) = true then (if ((PySem.W.clsIn K Cv).isSome && PySem.W.typeIn K (.ref Cv) == some (.type "type")) = true then PySem.W.subIn K cls (.ref Cv) else none) else none) = some b
  rw [if_pos e1, if_pos e2]
  exact h4
theorem XT.of {l : List (Str × Bool)} (v : XV K mg x) (k : ∀ p, p ∈ l → XP1 K mg x p.1 p.2) : XT K mg x (tabOf l) := by
  obtain ⟨Cv, hm, s, i, t⟩ := v.ex
  refine ⟨Cv, hm, fun c b e C hC => ?_⟩
  obtain ⟨Cv', C', h1, h2, h3⟩ := (k _ (tab_mem e)).ex
  rw [hm] at h1
  rw [hC] at h2
  cases h1
  cases h2
  exact exm_of s i t h3
theorem kit_ref {Cv : Addr} (i : (PySem.W.clsIn K Cv).isSome = true) (t : PySem.W.typeIn K (.ref Cv) = some (.type "type")) (s : PySem.W.subIn K (.ref C) (.ref Cv) = some b) (own : PySem.W.mroIn K C (.ref C) = some true) : PySem.W.kitOne K (.ref C) (.ref Cv) = some b := by
  unfold PySem.W.kitOne
  by_cases e : C = Cv
  · subst e
    rw [if_pos (by simp)]
    have s' : PySem.W.mroIn K C (.ref C) = some b := s
    rw [own] at s'
    exact s'
  · rw [if_neg (by intro q; exact e (by simpa using q))]
    unfold PySem.W.kitCls
    simp only [i, t, beq_self_eq_true, Bool.and_self, if_true]
    exact s
theorem kit_type {T : String} (hT : PySem.W.kitMeta T = true) (s : PySem.W.subIn K (.ref C) (.type T) = some b) : PySem.W.kitOne K (.ref C) (.type T) = some b := by
  unfold PySem.W.kitOne PySem.W.kitCls
  rw [if_neg (by intro z; exact nomatch z)]
  simp only [hT, if_true]
  exact s
/-- an exception's class in full -/
structure XC (K : PySem.W.Frag) (mg : Str → Option Value) (c : Str) : Prop where
  ex : ∃ C, mg c = some (.ref C) ∧ XI K C ∧ PySem.W.mroIn K C (.ref C) = some true
theorem XC.of (X : K.In h) (G : h.Ns mainGlobals mg) (aC : PySem.W.nsIn K mainGlobals c = some (some (.ref C))) (k : XI K C) (o : PySem.W.mroIn K C (.ref C) = some true) : XC K mg c := ⟨C, PySem.W.mg_of X G aC, k, o⟩
theorem NmX.of {l : List (Str × Bool)} (v : XV K mg x) (k : ∀ p, p ∈ l → XP1 K mg x p.1 p.2 ∧ XC K mg p.1) : NmX K mg x (tabOf l) := by
  obtain ⟨Cv, hm, s, i, t⟩ := v.ex
  refine ⟨.ref Cv, .inl ⟨hm, Cv, rfl⟩, ⟨fun c b e C hC => ?_⟩⟩
  obtain ⟨k1, k2⟩ := k _ (tab_mem e)
  obtain ⟨Cv', C', h1, h2, h3⟩ := k1.ex
  obtain ⟨C2, h4, h5, h6⟩ := k2.ex
  rw [hm] at h1
  rw [hC] at h2 h4
  cases h1
  cases h2
  cases h4
  exact ⟨h5, kit_ref i t h3 h6⟩
end
end Sq

set_option Elab.async false
set_option maxRecDepth 100000
set_option maxHeartbeats 4000000
set_option linter.all false
/-! try without a name; a list taken apart; sums; exceptions without an __init__; self.f += e. -/
namespace Sq
open PySem PySem.Spec PyProof.Rows L2

/-! ### sum(xs) of a list of ints -/
def fSum : FSp := fun ds S Q => match ds with
  | [d] => match view S d with
    | .lst xs => onS (intsD xs) fun ns => Q (.int ns.sum) S
    | _ => False
  | _ => False
theorem cb_sum {K : PySem.W.Frag} {mg : Str → Option Value} {Z : Zt} : CbD K mg Z (rSum K) fSum := by
  intro I μ S H vs ds Q Φ ok r h k
  unfold fSum at h
  split at h
  · cases r with
    | cons r t =>
      cases t
      split at h
      · rename_i xs e
        obtain ⟨p, us, rfl, hh, t⟩ := view_lst ok r e
        obtain ⟨ns, e2, h0⟩ := onS_iff h
        have := intsD_rp t e2
        subst this
        exact ⟨p, ns, rfl, SqL.of hh, k _ _ I μ S H .refl ok .int h0⟩
      · exact h.elim
  · exact h.elim

/-! ### a, b, .. = a list -/
def wGTupL (n : Nat) (gs : WGs) : WG := fun d ρ S Q => match view S d with
  | .lst ds => ds.length = n ∧ gs ds ρ S Q
  | _ => False
theorem sg_tupL {X : Cx} {Γ : Gam} {pos : Pos} {es : List Expr} {gs : TGs} {ws : WGs} {k n : Nat} (hc : X.calm = true) (h : SGs X Γ es gs ws) (hn : (assignEach es X.env).length = n := by rfl) (hst : (assignEach es X.env).findIdx? (·.1) = none := by rfl) : SG X Γ (.Tuple es k pos) (gUnl X.K n gs) (wGTupL n ws) :=
  ⟨pg_unl hc h.pg hn hst, fun Z lk v d σ ρ I μ S H Q Φ r rs ok hw kn => by
    unfold wGTupL at hw
    split at hw
    · rename_i ds e1
      obtain ⟨p, vs, rfl, h1, r1⟩ := view_lst ok r e1
      exact ⟨p, vs, rfl, SqL.of h1, by rw [r1.length]; exact hw.1, h.si Z lk _ _ σ ρ I μ S H Q Φ r1 rs ok hw.2 kn⟩
    · exact hw.elim⟩

/-! ### try .. except x: -/
/-- a body, a suite by their runs -/
def tSemB (X : Cx) (body : List Stmt) (W : WX) : TS := fun D σ H => ∀ (pn : List (Addr × Obj)) (xe : Value → Shared → Prop) (pins : List (Addr × Obj)) (z : Shared), Takes (X.tr pn xe) W → PassesOwn (model X.prog X.w) X.A X.env xe → Inv (X.tr pn xe) pins σ H z →
  wpAny (model X.prog X.w) X.A (execs body X.env) (SP (X.tr pn xe) pins D) xe z
def tSemU (X : Cx) (suite : List Stmt) (a : Addr) (cls : Value) (d : Option Addr) : TS := fun D σ H => ∀ (oe : Obj) (pn pins : List (Addr × Obj)) (z : Shared), Inv (X.suite a ((a, oe) :: pn)) pins σ H z → Zc cls d oe →
  wpAny (model X.prog X.w) (X.suite a ((a, oe) :: pn)).A (execs suite X.env) (SP (X.suite a ((a, oe) :: pn)) pins D) (fun _ _ => False) z
def Xonly (tab : Str → Option Bool) (wh : WS) (κ : WK) (Ψ : Xk) : Xk := fun c fs ρ S => ∃ b, tab c = some b ∧ (b = true → wh κ ρ S) ∧ (b = false → Ψ c fs ρ S)
def wTryOnly (tab : Str → Option Bool) (wb : Xk → WS) (wh : WS) (Ψ : Xk) : WS := fun κ ρ S => wb (Xonly tab wh κ Ψ) κ ρ S
theorem s_tryOnly {X : Cx} {Γ : Gam} {x : Str} {body suite : List Stmt} {b₀ : Stmt} {np pos pos' : Pos} {tab : Str → Option Bool} {wb : Xk → WS} {wh : WS} (hs : X.stack = X.env :: X.outer) (hf : X.env.frame = some X.env.locals) (xt : XT X.K X.mg x tab) (tk : Takes X Γ.W)
    (hb : ∀ (W : WX) (Ψ : Xk) (pn : List (Addr × Obj)) (xe : Value → Shared → Prop), Takes (X.tr pn xe) W → PassesOwn (model X.prog X.w) X.A X.env xe → ∃ t, SSs (X.tr pn xe) ⟨W, Ψ⟩ body t (wb Ψ))
    (hh : ∀ (a : Addr) (pn : List (Addr × Obj)), ∃ t, SSs (X.suite a pn) G0 (b₀ :: suite) t wh) (hg : Gl X x := by rfl) (hdb : (x == ("__debug__" : Str)) = false := by decide) :
    SS X Γ (.Try body [.ExceptHandler (some (.Name x np)) none (b₀ :: suite) pos'] [] [] pos) (tSem X (.Try body [.ExceptHandler (some (.Name x np)) none (b₀ :: suite) pos'] [] [] pos)) (wTryOnly tab wb wh Γ.Ψ) := by
  obtain ⟨Cv, hC, tb⟩ := xt.ex
  have ps : PS X (.Try body [.ExceptHandler (some (.Name x np)) none (b₀ :: suite) pos'] [] [] pos) (fun D σ H => tSemB X body (wOnly X.K (.ref Cv) (tSemU X (b₀ :: suite)) Γ.W D) D σ H) :=
    ps_try_only hs hf ⟨hg, hdb, .inl hC⟩ tk (fun W pn xe tk' hp' => ⟨fun pins z σ H D J hw => hw pn xe pins z tk' hp' J⟩) fun a oe cls d pn zc hv => ⟨fun pins z σ H D J hw => hw oe pn pins z J zc⟩
  refine ⟨ps_sem, fun Z lk σ ρ I μ S H E κ rs ok hw cv pins z J => ?_⟩
  refine ps.run pins z σ H E J fun pn xe pins' z' tk' hp' J' => ?_
  obtain ⟨t, q⟩ := hb (wOnly X.K (.ref Cv) (tSemU X (b₀ :: suite)) Γ.W E) (Xonly tab wh κ Γ.Ψ) pn xe tk' hp'
  refine q.ps.run pins' z' σ H E J' (q.si (Z.fr I μ) (fun c fs cls d σ1 ρ1 I1 μ1 S1 H1 o1 r1 xr hx => ?_) σ ρ I μ S H E κ rs ok.fr hw cv.fr)
  obtain ⟨b, hb1, yes, no⟩ := hx
  obtain ⟨C, hc1, hc2, _⟩ := id xr
  subst hc2
  refine ⟨b, tb c b hb1 C hc1, fun hy a na oe pn2 p2 z2 J2 zc => ?_, fun hn => lk c fs _ d σ1 ρ1 I1 μ1 S1 H1 o1.un r1 xr (no hn)⟩
  obtain ⟨th, qh⟩ := hh a ((a, oe) :: pn2)
  exact qh.ps.run p2 z2 σ1 H1 E J2 (qh.si Z Lk.zero σ1 ρ1 I1 μ1 S1 H1 E κ r1 o1.un (yes hy) (cv.ext o1.ex))

/-! ### exceptions without an __init__ of their own -/
structure Sup0 (K : PySem.W.Frag) (mg : Str → Option Value) (c : Str) : Prop where
  ex : ∃ C, mg c = some (.ref C) ∧ PySem.W.excIn K C [.type "ValueError", .type "Exception", .type "BaseException", .type "object"] "ValueError.__new__" = true ∧ PySem.W.keepIn K (.ref C) = true ∧
    PySem.W.subIn K (.ref C) (.type "BaseException") = some true ∧ PySem.W.typeIn K (.ref C) = some (.type "type")
theorem Sup0.of {K : PySem.W.Frag} {mg : Str → Option Value} {h : Heap} {c : Str} {C : Addr} (X : K.In h) (G : h.Ns mainGlobals mg) (aC : PySem.W.nsIn K mainGlobals c = some (some (.ref C))) (e : PySem.W.excIn K C [.type "ValueError", .type "Exception", .type "BaseException", .type "object"] "ValueError.__new__" = true)
    (k : PySem.W.keepIn K (.ref C) = true) (b : PySem.W.subIn K (.ref C) (.type "BaseException") = some true) (t : PySem.W.typeIn K (.ref C) = some (.type "type")) : Sup0 K mg c := ⟨C, PySem.W.mg_of X G aC, e, k, b, t⟩
def wRaise0 (Ψ : Xk) (c : Str) : WS := fun _ ρ S => Ψ c [] ρ S
def tRaise0 (X : Cx) (W : WX) (c : Str) : TS := fun _ σ H => ∃ C, X.mg c = some (.ref C) ∧ W (.ref C) none σ H
section
variable {X : Cx} {Γ : Gam} {c : Str} {p pos pos' : Pos}
theorem pmk_none {C : Addr} {bmB : List Value} {B newId initId : String} (F : ExcBaseFacts B newId initId bmB) (q : PySem.W.excIn X.K C bmB newId = true) (gC : X.mg c = some (.ref C)) (kC : PySem.W.keepIn X.K (.ref C) = true) (r : Raises X (.ref C)) (hg : Gl X c)
    (hdb : (c == ("__debug__" : Str)) = false := by decide) : PMk X (.Call (.Name c p) [] [] pos) (fun _ H Q => Q (.ref C) none H) := by
  intro pins s σ H Q I h
  refine wpAny_Call_Name_kw (ld_glob I hg gC (PySem.W.callWith_K0 I.kIn kC ?_) hdb)
  obtain ⟨bm, N, nm, qn, bs, hd, sn, sub, ab, col, dd, k0, k1, k2, k3, k5, mN, hC, hN, hni, T⟩ := exc_obj I.kIn q
  exact wpAny_call_exc_subT F T hC hN hni (fun h' e hm => mk_of I hm r h (I.hok.gone hm.new)) (by show 0 ≤ sizeLine; exact Nat.zero_le _)
theorem s_raise0 (T : Sup0 X.K X.mg c) (hc : X.calm = true) (tk : Takes X Γ.W) (hg : Gl X c := by rfl) (hdb : (c == ("__debug__" : Str)) = false := by decide) : SS X Γ (.Raise (some (.Call (.Name c p) [] [] pos)) none pos') (tRaise0 X Γ.W c) (wRaise0 Γ.Ψ c) := by
  obtain ⟨C, hC, e, k, b, t⟩ := T.ex
  refine ⟨⟨fun pins s σ H D I hw => ?_⟩, fun Z lk σ ρ I μ S H E κ rs ok hw cv => ⟨C, hC, lk c [] _ none σ ρ I μ S H ok rs ⟨C, hC, rfl, rfl⟩ hw⟩⟩
  obtain ⟨C', hC', q⟩ := hw
  rw [hC] at hC'
  cases hC'
  exact (ps_raise hc tk (pmk_none PySem.F.excBase_ValueError e hC k (raises_own b t) hg hdb)).run pins s σ H D I q
end

/-! ### more of the facts -/
structure XPT (K : PySem.W.Frag) (mg : Str → Option Value) (T : String) (c : Str) (b : Bool) : Prop where
  ex : ∃ C, mg c = some (.ref C) ∧ PySem.W.subIn K (.ref C) (.type T) = some b
theorem XPT.of {K : PySem.W.Frag} {mg : Str → Option Value} {h : Heap} {c : Str} {C : Addr} {T : String} {b : Bool} (X : K.In h) (G : h.Ns mainGlobals mg) (aC : PySem.W.nsIn K mainGlobals c = some (some (.ref C))) (s : PySem.W.subIn K (.ref C) (.type T) = some b) : XPT K mg T c b := ⟨C, PySem.W.mg_of X G aC, s⟩
theorem NmX.ofT {K : PySem.W.Frag} {mg : Str → Option Value} {x : Str} {T : String} {l : List (Str × Bool)} (hm : mg x = none) (hv : bootBuiltins x = some (.type T)) (hn : x ≠ "__name__") (hT : PySem.W.kitMeta T = true) (k : ∀ p, p ∈ l → XPT K mg T p.1 p.2 ∧ XC K mg p.1) : NmX K mg x (tabOf l) := by
  refine ⟨.type T, .inr ⟨hm, hv, hn, T, rfl⟩, ⟨fun c b e C hC => ?_⟩⟩
  obtain ⟨k1, k2⟩ := k _ (tab_mem e)
  obtain ⟨C', h2, h3⟩ := k1.ex
  obtain ⟨C2, h4, h5, h6⟩ := k2.ex
  rw [hC] at h2 h4
  cases h2
  cases h4
  exact ⟨h5, kit_type hT h3⟩
section
variable {P : Program} {w : World} {K : PySem.W.Frag} {mg : Str → Option Value} {base : Heap} {x : Str} {s : Stmt} {ps : List Str} {dvs : List V} {n j k : Nat} {sp : FSpX}
theorem CalX_mono (c : CalX P w K mg base j x n sp dvs) (h : j ≤ k) : CalX P w K mg base k x n sp dvs := by
  obtain ⟨f, fd, ps, ds, F, m, kp, b, d⟩ := c.ex
  exact ⟨f, fd, ps, ds, F.mono h, m, kp, b, d⟩
theorem DD.noneX (d : DD K mg x s ps dvs) (h : ∀ ds S Q Ψ, ¬ sp ds S Q Ψ) : CalX P w K mg base 0 x n sp dvs := by
  obtain ⟨f, fd, ds, F, bi, dv⟩ := d.ex
  refine ⟨f, fd, ps, ds, ⟨fun vs H Q E z => ?_, fun A outer s H args us vs Q E _ _ _ _ z => ?_⟩, F.mgf, F.kp, bi, dv⟩
  · obtain ⟨_, ds, _, _, _, S, Φ, Ψ, _, _, z, _⟩ := z; exact (h ds S Φ Ψ z).elim
  · obtain ⟨_, ds, _, _, _, S, Φ, Ψ, _, _, z, _⟩ := z; exact (h ds S Φ Ψ z).elim
/-- where nothing is raised, a def that may raise is one that does not -/
theorem fn_low {f : Addr} {fd : FuncData} {spn : FSp} (F : FnOk P w K mg base (L2.CX P w) k f fd ps (spOfX K mg n sp)) (h : ∀ ds S Q, spn ds S Q → sp ds S Q fun _ _ _ => False) : FnOk P w K mg base C8.CX0 k f fd ps (spOf K mg n spn) := by
  have up : ∀ {vs : List V} {H : Hp} {Q : VK} {E : XK}, spOf K mg n spn vs H Q E → spOfX K mg n sp vs H Q (fun _ _ _ => False) := fun ⟨hl, ds, Z, I, μ, S, Φ, r, ok, q, kp⟩ => ⟨hl, ds, Z, I, μ, S, Φ, _, r, ok, h ds S Φ q, kp, fun _ _ _ _ _ _ _ _ _ _ _ z => z.elim⟩
  refine ⟨fun vs H Q E q => F.len vs H Q _ (up q), fun A outer s H args us vs Q E hr e0 hb hv q => codeAny_mono (F.run A outer s H args us vs Q _ hr e0 hb hv (up q)) fun r s' y => ?_⟩
  cases r with
  | ok fl => cases fl <;> exact y
  | error e => obtain ⟨_, _, _, _, _, _, _, _, _, _, _, _, z⟩ := y; exact z.elim
end

/-! ### o.f += e -/
/-- o an instance in the store, its f an int -/
def wAugA (g : Int → Int → Int) (c f : Str) (wo we : WE) : WS := fun κ ρ S => wo ρ S fun x S1 => match x with
  | .h n => onS (S1[n]?) fun m => match m with
    | .ins c' fs => c' = c ∧ onS (fs.lookup f) fun a => match a with
      | .int i => we ρ S1 fun y S2 => match y with
        | .int j => onS (S2[n]?) fun m2 => match m2 with
          | .ins c2 gs => c2 = c ∧ gs.length < 1000 ∧ κ.nx ρ (S2.set n (.ins c (putA f (.int (g i j)) gs)))
          | _ => False
        | _ => False
      | _ => False
    | _ => False
  | _ => False
section
variable {X : Cx} {Γ : Gam} {c f : Str} {o e : Expr} {to te : TE} {wo we : WE} {tpos pos : Pos} {op : Operator} {g : Int → Int → Int}
theorem s_augA (hop : InOp X op (fun x y H Q => ∃ i j, x = .int i ∧ y = .int j ∧ Q (.int (g i j)) H)) (kf : KF X.K X.mg c f) (ho : SE X Γ o to wo) (he : SE X Γ e te we) : SS X Γ (.AugAssign (.Attribute o f tpos) op e pos) (sFldAug X.K to te (fun x y H Q => ∃ i j, x = .int i ∧ y = .int j ∧ Q (.int (g i j)) H) f) (wAugA g c f wo we) := by
  refine ⟨ps_fldaug ho.pe he.pe hop, fun Z lk σ ρ I μ S H E κ rs ok h cv => ho.si Z lk σ ρ I μ S H _ _ rs ok h fun v x I1 μ1 S1 H1 e1 o1 r1 q1 => ?_⟩
  split at q1
  · rename_i n
    obtain ⟨m, hm, q1⟩ := onS_iff q1
    cases m with
    | ins c' fs =>
      obtain ⟨rfl, q1⟩ := q1
      obtain ⟨a, ha, q1⟩ := onS_iff q1
      cases r1 with
      | h z =>
        obtain ⟨hi, C, dx, fv, hC, hH, rf⟩ := o1.ob _ _ _ z hm
        obtain ⟨k1, k2⟩ := kf.ex C hC
        obtain ⟨va, la, ra⟩ := rf.look.1 a ha
        refine ⟨_, C, dx, fv, va, rfl, hH, k1, k2, la, ?_⟩
        split at q1
        · rename_i i
          have := rp_int ra
          subst this
          refine he.si Z lk σ ρ I1 μ1 S1 H1 _ _ (rs.ext e1) o1 q1 fun y d I2 μ2 S2 H2 e2 o2 r2 q2 => ?_
          split at q2
          · rename_i j
            have := rp_int r2
            subst this
            obtain ⟨m2, hm2, q2⟩ := onS_iff q2
            cases m2 with
            | ins c2 gs =>
              obtain ⟨rfl, hl, q2⟩ := q2
              have z2 := e2.mu _ _ z
              obtain ⟨hi2, C2, dx2, gv, hC2, hH2, rg⟩ := o2.ob _ _ _ z2 hm2
              rw [hC] at hC2
              cases hC2
              refine ⟨i, j, rfl, rfl, dx2, gv, hH2, by rw [rg.length]; exact hl, ?_⟩
              exact cv.nx σ ρ I2 μ2 _ _ (e1.trans e2) ((rs.ext e1).ext e2) (o2.put (m := .ins c2 (putA f (.int (g i j)) gs)) z2 hi2 ⟨hi2, C, dx2, _, hC, upd_same, putA_rp .int rg⟩) q2
            | frz _ => exact q2.elim
            | bag => exact q2.elim
            | lst _ => exact q2.elim
            | dct _ => exact q2.elim
            | lck _ _ => exact q2.elim
          · exact q2.elim
        · exact q1.elim
    | frz _ => exact q1.elim
    | bag => exact q1.elim
    | lst _ => exact q1.elim
    | dct _ => exact q1.elim
    | lck _ _ => exact q1.elim
  · exact q1.elim
theorem in_addI : InOp X .Add (fun x y H Q => ∃ i j, x = .int i ∧ y = .int j ∧ Q (.int (i + j)) H) := in_add
theorem in_subI : InOp X .Sub (fun x y H Q => ∃ i j, x = .int i ∧ y = .int j ∧ Q (.int (i - j)) H) := in_sub
end
end Sq

set_option Elab.async false
set_option maxRecDepth 100000
set_option maxHeartbeats 4000000
set_option linter.all false
/-! x op= e by an own operator; what may raise, used where it does not. -/
namespace Sq
open PySem PySem.Spec PyProof.Rows L2

structure InOX (P : Program) (w : World) (K : PySem.W.Frag) (mg : Str → Option Value) (base : Heap) (k : Nat) (c : Str) (op : Operator) (sp : FSpX) : Prop where
  ex : ∃ (C g : Addr) (fd : FuncData) (ps : List Str), mg c = some (.ref C) ∧ PySem.W.selfFirst K C = true ∧ PySem.W.findIn K (.ref C) (PySem.dunderI op.info.2) = some (some (.ref g)) ∧ PySem.W.isFn K (.ref g) = true ∧ FnOk P w K mg base (L2.CX P w) k g fd ps (spOfX K mg 2 sp) ∧ Binds K fd ps []
def wAugO (Ψ : Xk) (c : Str) (sp : FSpX) (i : Nat) (we : WE) : WS := fun κ ρ S => onS (gt ρ i) fun d => we ρ S fun y S1 => (atts S1 c (res S d)).isSome = true ∧ sp [res S d, y] S1 (fun r S2 => κ.nx (st ρ i (some r)) S2) fun c fs S' => Ψ c fs ρ S'
theorem s_augO {X : Cx} {Γ : Gam} {k j : Nat} {c x : Str} {sp : FSpX} {op : Operator} {e : Expr} {te : TE} {we : WE} {pos pos' : Pos} (i : Nat) (hN : X.N.Nodup) (m : InOX X.prog X.w X.K X.mg X.base k c op sp) (hr : Room j X.A) (hk : k + 1 ≤ j) (tk : Takes X Γ.W) (he : SE X Γ e te we) (hi : X.N[i]? = some x := by rfl) (hx : Loc X.env.scope x := by first | exact Or.inl rfl | exact Or.inr rfl)
    (hf : X.fn x = true ∨ X.env.scope.names.lookup x = some .local := by first | exact .inl rfl | exact .inr rfl) : SS X Γ (.AugAssign (.Name x pos') op e pos) (tSem X (.AugAssign (.Name x pos') op e pos)) (wAugO Γ.Ψ c sp i we) := by
  obtain ⟨C, g, fd, ps, hC, sf, fi, fn, F, bi⟩ := m.ex
  refine ⟨ps_sem, fun Z lk σ ρ I μ S H E κ rs ok hw cv pins z J => ?_⟩
  obtain ⟨d, e0, hw⟩ := onS_iff hw
  obtain ⟨v, e1, r0⟩ := rs.get i d e0
  have r1 := res_rp ok r0
  obtain ⟨m0, hn, hl⟩ := J.loc
  have vis : Vis X.env.scope x := by rcases hx with k | k; exact .inl k; exact .inr (.inl k)
  obtain ⟨u, ru, l⟩ := hl i x v hi e1 vis
  refine wpAny_AugAssign_Name ?_
  have go : wpAny (model X.prog X.w) X.A (eval e X.env) (fun w s₂ => wpAny (model X.prog X.w) X.A (inplaceOp op u w) (fun r s₃ => wpAny (model X.prog X.w) X.A (storeName X.env x r) (fun _ => SP X pins E .next) X.xe s₃) X.xe s₂) X.xe z := by
    refine thn (run_d lk he J rs ok hw) fun w z1 ⟨v2, H1, y, I1, μ1, S1, J1, rv, e2, o1, r2, q1⟩ => ?_
    obtain ⟨y1, q1⟩ := q1
    obtain ⟨fs, y1⟩ := Option.isSome_iff_exists.mp y1
    have r1' := r1.ext e2
    obtain ⟨a, C1, dx, fv, rfl, hC1, h1, _⟩ := atts_ok o1 r1' y1
    rw [hC] at hC1
    cases hC1
    obtain rfl : u = Value.ref a := ru
    obtain ⟨mA, O, _⟩ := ins_get J1.hok h1
    obtain ⟨od, K1, _⟩ := O.look
    obtain ⟨mm, Fm⟩ := J1.fr
    refine PySem.W.ksp_inplace Fm J1.mod.kin K1 sf fi fn ?_
    refine thn (run_fx (vs := [.ref a, v2]) (us := [.ref a, w]) (Q := fun zv H2 => E.nx (σ.set i (some zv)) H2) (Φ := fun r S2 => κ.nx (st ρ i (some r)) S2) lk F (hr.mono (Nat.le_of_succ_le hk)) bi .nil tk J1 (rs.ext e2) o1 (.cons rfl (.cons rv .nil)) (.cons r1' (.cons r2 .nil)) rfl q1 fun zv d3 I3 μ3 S3 H3 e3 o3 r3 q3 => cv.nx _ _ I3 μ3 S3 H3 (e2.trans e3) (((rs.ext e2).ext e3).put r3 i) o3 q3) fun r s' y => ?_
    obtain ⟨zv, H2, J2, rz, q2⟩ := y
    exact rel_ni rz (store_ok J2 hN hi hx rz (fun s3 J3 => ⟨_, H2, J3, q2⟩) hf)
  rcases l with ⟨hk, hm⟩ | ⟨hk, c, hc, hcell⟩
  · exact wpAny_loadName_local J.ok.kind hk hn hm go
  · rcases hk with hk | hk
    · exact wpAny_loadName_cell J.ok.kind hk hc hcell go
    · rcases hx with k | k
      · have : X.env.scope.names.lookup x = some .free := hk
        rw [k] at this; cases this
      · have : X.env.scope.names.lookup x = some .free := hk
        rw [k] at this; cases this
structure DIO (K : PySem.W.Frag) (mg : Str → Option Value) (c m ql : Str) (op : Operator) (s : Stmt) (ps : List Str) : Prop where
  ex : ∃ (C f : Addr) (fd : FuncData), mg c = some (.ref C) ∧ PySem.W.selfFirst K C = true ∧ PySem.W.findIn K (.ref C) (PySem.dunderI op.info.2) = some (some (.ref f)) ∧ PySem.W.isFn K (.ref f) = true ∧ C8.Fun K m ql s f fd ∧ Binds K fd ps []
theorem DIO.of {K : PySem.W.Frag} {mg : Str → Option Value} {h : Heap} {c m ql : Str} {s : Stmt} {ps : List Str} {f C : Addr} {oc kV dc pm cd ct : Value} {od an : Option Addr} {sl : Array (Option Value)} {op : Operator} (X : K.In h) (G : h.Ns mainGlobals mg) (aC : PySem.W.nsIn K mainGlobals c = some (some (.ref C))) (sf : PySem.W.selfFirst K C = true)
    (a : PySem.W.findIn K (.ref C) (PySem.dunderI op.info.2) = some (some (.ref f))) (i : PySem.W.isFn K (.ref f) = true)
    (l : K.lookup f = some ⟨oc, od, .func (PySem.W.fnOf m ql (C8.fnArgs s) (C8.fnBody s) (C8.fnScope s) .none kV dc pm an cd ct), sl⟩) (hc : PySem.W.codeIn K cd ql = true) (b : Plain m ql s ps) : DIO K mg c m ql op s ps :=
  ⟨C, f, _, PySem.W.mg_of X G aC, sf, a, i, fun_of l hc, (fun_of l hc).binds rfl b⟩
section
variable {P : Program} {w : World} {K : PySem.W.Frag} {mg : Str → Option Value} {base : Heap} {c m x ql : Str} {s : Stmt} {ps N : List Str} {dvs : List V} {n k : Nat} {wb : Xk → WS} {sp : FSpX} {spn : FSp}
theorem DIO.inX {op : Operator} (d : DIO K mg c m ql op s ps) (h2 : ps.length = 2) (S : FnScope N ps (C8.fnScope s)) (b : BdX P w K mg base k N ql s wb) (law : LawX ps N wb sp) : InOX P w K mg base (k + 1) c op sp := by
  obtain ⟨C, f, fd, hC, sf, fi, isf, F, bi⟩ := d.ex
  exact ⟨C, f, fd, ps, hC, sf, fi, isf, h2 ▸ fn_dataX F S b law, bi⟩
theorem MDX.low (c' : MDX P w K mg base k c m n sp dvs) (h : ∀ ds S Q, spn ds S Q → sp ds S Q fun _ _ _ => False) : MD P w K mg base k c m n spn dvs := by
  obtain ⟨C, f, fd, ps, ds, hC, cl, me, F, bi, dv⟩ := c'.ex
  exact ⟨C, hC, f, fd, ps, ds, cl, me, fn_low F h, bi, dv⟩
theorem MkX.low (c' : MkX P w K mg base k c n sp dvs) (h : ∀ ds S Q, spn ds S Q → sp ds S Q fun _ _ _ => False) : MkD P w K mg base k c n spn dvs := by
  obtain ⟨C, f, fd, ps, ds, hC, M, F, bi, dv⟩ := c'.ex
  exact ⟨C, hC, f, fd, ps, ds, M, fn_low F h, hC, bi, dv⟩
theorem CalX.low (c' : CalX P w K mg base k x n sp dvs) (h : ∀ ds S Q, spn ds S Q → sp ds S Q fun _ _ _ => False) : C8.Cal P w K mg base k x (spOf K mg n spn) dvs := by
  obtain ⟨f, fd, ps, ds, F, hm, kp, b, dv⟩ := c'.ex
  exact ⟨f, fd, ps, ds, fn_low F h, hm, kp, b, dv⟩
theorem OpOX.low {op : Operator} (c' : OpOX P w K mg base k c op sp) (h : ∀ ds S Q, spn ds S Q → sp ds S Q fun _ _ _ => False) : OpO P w K mg base k c op spn := by
  obtain ⟨C, g, fd, ps, hC, sf, fi, fn, F, bi⟩ := c'.ex
  exact ⟨C, g, fd, ps, hC, sf, fi, fn, fn_low F h, bi⟩
end
end Sq

set_option Elab.async false
set_option maxRecDepth 100000
set_option maxHeartbeats 4000000
set_option linter.all false
/-! bool(x), also by an own __bool__; list(xs); a loop over a list that stays in the store. -/
namespace Sq
open PySem PySem.Spec PyProof.Rows L2

/-! ### bool(b) -/
def fBool : FSp := fun ds S Q => match ds with
  | [.int i] => Q (.bl (i != 0)) S
  | [.bl b] => Q (.bl b) S
  | _ => False
theorem cb_bool {K : PySem.W.Frag} {mg : Str → Option Value} {Z : Zt} : CbD K mg Z (fun xs H Q => (∃ i, xs = [.int i] ∧ Q (.bl (i != 0)) H) ∨ ∃ k, xs = [.bl k] ∧ Q (.bl k) H) fBool := by
  intro I μ S H vs ds Q Φ ok r h k
  unfold fBool at h
  split at h
  · cases r with
    | cons r t => cases t; cases r; exact .inl ⟨_, rfl, k _ _ I μ S H .refl ok .bl h⟩
  · cases r with
    | cons r t => cases t; cases r; exact .inr ⟨_, rfl, k _ _ I μ S H .refl ok .bl h⟩
  · exact h.elim
/-! ### bool(x) by an own __bool__ -/
section
variable {prog : Program} {w : World}
theorem truthy_own {A : Around} {E : Value → Shared → Prop} {s : Shared} {K : PySem.W.Frag} {x C f : Addr} {ox : Obj} {od : Option Obj} {Q : Bool → Shared → Prop} (X : K.In s.heap) (I : PySem.W.InstAt s.heap x ox C od) (hs : PySem.W.findIn K (.ref C) "__bool__" = some (some (.ref f)))
    (hf : PySem.W.typeIn K (.ref f) = some (.type "function")) (h : wpAny (model prog w) A (call (.ref f) [.ref x]) (fun v s' => ∃ b, v = .bool b ∧ Q b s') E s) : wpAny (model prog w) A (truthy (.ref x)) Q E s := by
  unfold truthy
  refine wpAny_bind (PySem.W.special_fn X I hs hf (wpAny_mono h (fun v s' y => ?_) fun _ _ y => y))
  obtain ⟨b, rfl, q⟩ := y
  exact wpAny_pure q
theorem meets_bool_own {K : PySem.W.Frag} {x C f : Addr} (hs : PySem.W.findIn K (.ref C) "__bool__" = some (some (.ref f))) (hf : PySem.W.typeIn K (.ref f) = some (.type "function")) :
    MeetsIn prog w (Builtin.«bool.__new__» ⟨[.type "bool", .ref x], []⟩) (fun A R s => (K.In s.heap ∧ ∃ ox od, PySem.W.InstAt s.heap x ox C od) ∧ codeAny (model prog w) A.in1 (.call (.ref f) ⟨[.ref x], []⟩) (fun r s' => match r with | .ok (.ret v) => ∃ b, v = .bool b ∧ R (.ok (.ret (.bool b))) s' | .ok _ => False | .error e => R (.error e) s') s) :=
  .of_wp fun A R s h => by
    obtain ⟨⟨X, ox, od, I⟩, run⟩ := h
    have f1 := PySem.F.conv_sub_bool
    unfold Builtin.«bool.__new__»
    repeat (any_goals (first | assumption | (with_reducible refine truthy_own X I hs hf ?_) | wp_step))
    refine codeAny_mono run fun r s' y => ?_
    cases r with
    | error e => exact y
    | ok fl =>
      cases fl with
      | ret v =>
        obtain ⟨b, e, q⟩ := y
        refine ⟨b, e, ?_⟩
        repeat (any_goals (first | assumption | wp_step))
        exact ⟨_, rfl, q⟩
      | next => exact y
      | brk => exact y
      | cont => exact y
end
structure BoO (P : Program) (w : World) (K : PySem.W.Frag) (mg : Str → Option Value) (base : Heap) (k : Nat) (c : Str) (sp : FSp) : Prop where
  ex : ∃ (C g : Addr) (fd : FuncData) (ps : List Str), mg c = some (.ref C) ∧ PySem.W.findIn K (.ref C) "__bool__" = some (some (.ref g)) ∧ PySem.W.typeIn K (.ref g) = some (.type "function") ∧ FnOk P w K mg base C8.CX0 k g fd ps (spOf K mg 1 sp) ∧ Binds K fd ps []
def rBoO (mg : Str → Option Value) (c : Str) (sp : Sp) : List V → Hp → VK → Prop := fun xs H Q => ∃ (C a dx : Addr) (fs : List (Str × V)), mg c = some (.ref C) ∧ xs = [.ref a] ∧ H a = some (.ins C dx fs) ∧ sp [.ref a] H (fun v H' => ∃ b, v = .bl b ∧ Q (.bl b) H') C8.E0
def fBoO (c : Str) (sp : FSp) : FSp := fun ds S Q => match ds with
  | [d] => (atts S c d).isSome = true ∧ sp [d] S fun r S1 => ∃ b, r = .bl b ∧ Q (.bl b) S1
  | _ => False
section
variable {X : Cx} {k j : Nat} {c : Str} {sp : FSp}
theorem call_boO (m : BoO X.prog X.w X.K X.mg X.base k c sp) (hr : Room j X.A) (hk : k + 2 ≤ j) : CallR X (.type "bool") (rBoO X.mg c (spOf X.K X.mg 1 sp)) := by
  obtain ⟨C, g, fd, ps, hC, fi, ty, F, bi⟩ := m.ex
  intro pins s σ H xs us Q I r h
  obtain ⟨C', a, dx, fs, hC', rfl, ha, q⟩ := h
  rw [hC] at hC'
  cases hC'
  obtain rfl := Vals.ref1 r
  obtain ⟨mA, O, _⟩ := ins_get I.hok ha
  obtain ⟨od, J, _⟩ := O.look
  refine callType_newIn PySem.F.called_bool PySem.F.newNe_bool (PySem.F.typeCall_bool_1 _) (PySem.F.newCall_bool_1 _) (fun obj => PySem.F.args_object_init_2 obj _) PySem.F.entry_bool_new (meets_bool_own fi ty) ⟨⟨I.kIn, _, _, J⟩, ?_⟩
  have hl := F.len _ _ _ _ q
  have e0 : Env0 X.prog X.w X.K X.mg X.base X.A.in1.in1 X.stack s H := by
    have e := I.env0
    exact ⟨e.frames, e.mod, e.bs, e.bsz, e.funs, e.frf, e.hok, e.bare⟩
  refine codeAny_mono (F.run X.A.in1.in1 X.stack s H ⟨[.ref a], []⟩ [.ref a] [.ref a] _ C8.E0 (hr.mono hk).in1.in1 e0 (by
    have := bi s [.ref a] I.kIn (by rw [List.append_nil]; exact hl)
    rw [List.append_nil] at this
    exact this) (.cons rfl .nil) q) fun r s' y => ?_
  cases r with
  | error e => exact y.elim
  | ok fl =>
    cases fl with
    | ret u =>
      obtain ⟨v, H', I', rv, b, rfl, q'⟩ := I.after y
      cases rv
      exact ⟨b, rfl, rfl, .bl b, H', I', rfl, q'⟩
    | next => exact y.elim
    | brk => exact y.elim
    | cont => exact y.elim
theorem cb_boO {P : Program} {w : World} {base : Heap} {K : PySem.W.Frag} {mg : Str → Option Value} {Z : Zt} (m : BoO P w K mg base k c sp) : CbD K mg Z (rBoO mg c (spOf K mg 1 sp)) (fBoO c sp) := by
  intro I μ S H vs ds Q Φ ok r h kp
  unfold fBoO at h
  split at h
  · rename_i d
    obtain ⟨y, q⟩ := h
    obtain ⟨fs, y⟩ := Option.isSome_iff_exists.mp y
    cases r with
    | cons r t =>
      cases t
      obtain ⟨a, C, dx, fv, rfl, hC, ha, _⟩ := atts_ok ok r y
      exact ⟨C, a, dx, fv, hC, rfl, ha, rfl, [d], Z, I, μ, S, _, .cons r .nil, ok, q, fun v d' I' μ' S' H' e o r' hq => by
        obtain ⟨b, rfl, hq⟩ := hq
        exact ⟨b, rp_bl r', kp _ _ I' μ' S' H' e o .bl hq⟩⟩
  · exact h.elim
end
structure DBo (K : PySem.W.Frag) (mg : Str → Option Value) (c ql : Str) (s : Stmt) (ps : List Str) : Prop where
  ex : ∃ (C f : Addr) (fd : FuncData), mg c = some (.ref C) ∧ PySem.W.findIn K (.ref C) "__bool__" = some (some (.ref f)) ∧ PySem.W.typeIn K (.ref f) = some (.type "function") ∧ C8.Fun K "__bool__" ql s f fd ∧ Binds K fd ps []
theorem DBo.of {K : PySem.W.Frag} {mg : Str → Option Value} {h : Heap} {c ql : Str} {s : Stmt} {ps : List Str} {f C : Addr} {oc kV dc pm cd ct : Value} {od an : Option Addr} {sl : Array (Option Value)} (X : K.In h) (G : h.Ns mainGlobals mg) (aC : PySem.W.nsIn K mainGlobals c = some (some (.ref C)))
    (a : PySem.W.findIn K (.ref C) "__bool__" = some (some (.ref f))) (t : PySem.W.typeIn K (.ref f) = some (.type "function"))
    (l : K.lookup f = some ⟨oc, od, .func (PySem.W.fnOf "__bool__" ql (C8.fnArgs s) (C8.fnBody s) (C8.fnScope s) .none kV dc pm an cd ct), sl⟩) (hc : PySem.W.codeIn K cd ql = true) (b : Plain "__bool__" ql s ps) : DBo K mg c ql s ps :=
  ⟨C, f, _, PySem.W.mg_of X G aC, a, t, fun_of l hc, (fun_of l hc).binds rfl b⟩
theorem DBo.bo {P : Program} {w : World} {K : PySem.W.Frag} {mg : Str → Option Value} {base : Heap} {c ql : Str} {s : Stmt} {ps N : List Str} {k : Nat} {wb : WS} {sp : FSp} (d : DBo K mg c ql s ps) (h1 : ps.length = 1) (S : FnScope N ps (C8.fnScope s)) (b : Bd P w K mg base k N ql s wb) (law : LawD ps N wb sp) : BoO P w K mg base (k + 1) c sp := by
  obtain ⟨C, f, fd, hC, fi, ty, F, bi⟩ := d.ex
  exact ⟨C, f, fd, ps, hC, fi, ty, h1 ▸ fn_data F S b law, bi⟩

/-! ### list(xs) -/
/-- a copy that may change -/
def fListM : FSp := fun ds S Q => match ds with
  | [d] => match view S d with
    | .lst xs => xs.length ≤ LIM ∧ Q (.h S.length) (S ++ [.lst xs])
    | .tup xs => xs.length ≤ LIM ∧ Q (.h S.length) (S ++ [.lst xs])
    | _ => False
  | _ => False
/-- a copy that does not -/
def fListF : FSp := fun ds S Q => match ds with
  | [d] => match view S d with
    | .lst xs => Q (.lst xs) S
    | .tup xs => Q (.lst xs) S
    | _ => False
  | _ => False
section
variable {K : PySem.W.Frag} {mg : Str → Option Value} {Z : Zt}
abbrev rListOf (K : PySem.W.Frag) : List V → Hp → VK → Prop := fun xs H Q => ∃ p ys, xs = [.ref p] ∧ (SqL K H p ys ∨ SqT K H p ys) ∧ ∀ l, H l = none → Q (.ref l) (upd H l (.lst ys))
theorem seq_of {I : Hp} {μ : List Addr} {S : Sto} {H : Hp} {v : V} {d : D} {xs : List D} (ok : Ok K mg Z I μ S H) (r : Rp K mg I μ v d) (e : view S d = .lst xs ∨ view S d = .tup xs) : ∃ p ys, v = .ref p ∧ (SqL K H p ys ∨ SqT K H p ys) ∧ RpL K mg I μ ys xs := by
  rcases e with e | e
  · obtain ⟨p, us, rfl, hh, t⟩ := view_lst ok r e
    exact ⟨p, us, rfl, .inl (SqL.of hh), t⟩
  · obtain ⟨p, us, rfl, _, hh, t⟩ := view_tup ok r e
    exact ⟨p, us, rfl, .inr hh, t⟩
theorem cb_listM : CbD K mg Z (rListOf K) fListM := by
  intro I μ S H vs ds Q Φ ok r h k
  have go : ∀ {v : V} {d : D} {xs : List D}, Rp K mg I μ v d → (view S d = .lst xs ∨ view S d = .tup xs) → Φ (.h S.length) (S ++ [.lst xs]) → ∃ p ys, [v] = [V.ref p] ∧ (SqL K H p ys ∨ SqT K H p ys) ∧ ∀ l, H l = none → Q (.ref l) (upd H l (.lst ys)) := fun {v d xs} r e q => by
    obtain ⟨p, ys, rfl, hh, t⟩ := seq_of ok r e
    refine ⟨p, ys, rfl, hh, fun l hl => ?_⟩
    have i := free_of ok.sub hl
    exact k _ _ _ _ _ _ Ext.push (ok.push (m := .lst xs) hl ⟨i, ys, upd_same, t.ext Ext.push⟩) (.h (mu_last ok l)) q
  unfold fListM at h
  split at h
  · cases r with
    | cons r t =>
      cases t
      split at h
      · rename_i xs e; exact go r (.inl e) h.2
      · rename_i xs e; exact go r (.inr e) h.2
      · exact h.elim
  · exact h.elim
theorem cb_listF : CbD K mg Z (rListOf K) fListF := by
  intro I μ S H vs ds Q Φ ok r h k
  have go : ∀ {v : V} {d : D} {xs : List D}, Rp K mg I μ v d → (view S d = .lst xs ∨ view S d = .tup xs) → Φ (.lst xs) S → ∃ p ys, [v] = [V.ref p] ∧ (SqL K H p ys ∨ SqT K H p ys) ∧ ∀ l, H l = none → Q (.ref l) (upd H l (.lst ys)) := fun {v d xs} r e q => by
    obtain ⟨p, ys, rfl, hh, t⟩ := seq_of ok r e
    refine ⟨p, ys, rfl, hh, fun l hl => ?_⟩
    have i := free_of ok.sub hl
    exact k _ _ _ μ S _ (Ext.new i) (ok.new hl) (.lst upd_same (t.ext (Ext.new i))) q
  unfold fListF at h
  split at h
  · cases r with
    | cons r t =>
      cases t
      split at h
      · rename_i xs e; exact go r (.inl e) h
      · rename_i xs e; exact go r (.inr e) h
      · exact h.elim
  · exact h.elim
end

/-! ### for x in xs: xs a list in the store, which stays as it is -/
def loopH (n : Nat) (all : List D) (g : WG) (w : WS) (κ : WK) : List D → Ro → Sto → Prop
  | [], ρ, S => S[n]? = some (.lst all) ∧ κ.nx ρ S
  | d :: ds, ρ, S => S[n]? = some (.lst all) ∧ g d ρ S fun ρ1 S1 => w { κ with nx := loopH n all g w κ ds, ct := loopH n all g w κ ds, bk := κ.nx } ρ1 S1
def wForH (we : WE) (g : WG) (w : WS) : WS := fun κ ρ S => we ρ S fun d S1 => match d with
  | .h n => onS (S1[n]?) fun m => match m with
    | .lst ds => loopH n ds g w κ ds ρ S1
    | _ => False
  | _ => False
section
variable {X : Cx} {Γ : Gam} {tg iter : Expr} {body : List Stmt} {te : TE} {we : WE} {g : TG} {wg : WG} {tb : TS} {wb : WS} {pos : Pos}
theorem s_forH (hp : PassesOwn (model X.prog X.w) X.A X.env X.xe) (hc : X.calm = true) (he : SE X Γ iter te we) (hg : SG X Γ tg g wg) (hb : SSs X Γ body tb wb) (hs : ∀ x, foldedSetIterable iter X.env x = pure x := by intro _; rfl) :
    SS X Γ (.For tg iter body [] pos) (tFor (iList X.K te) g tb) (wForH we wg wb) :=
  ⟨ps_for hp hc (pi_list he.pe) hg.pg hb.ps hs, fun Z lk σ ρ I μ S H E κ rs ok hw c => he.si Z lk σ ρ I μ S H _ _ rs ok hw fun v d I1 μ1 S1 H1 e1 o1 r1 q1 => by
    split at q1
    · rename_i n
      obtain ⟨m, hm, q1⟩ := onS_iff q1
      cases m with
      | lst all =>
        cases r1 with
        | h z =>
          rename_i a
          have look : ∀ {I' μ' S' H'}, Ext I1 μ1 I' μ' → Ok X.K X.mg Z I' μ' S' H' → S'[n]? = some (.lst all) → ∃ vs, H' a = some (.lst vs) ∧ RpL X.K X.mg I' μ' vs all := fun e o hS => by
            obtain ⟨_, vs, h, r⟩ := o.ob n a _ (e.mu _ _ z) hS
            exact ⟨vs, h, r⟩
          obtain ⟨vs1, hv1, rl1⟩ := look .refl o1 hm
          refine ⟨a, rfl, ⟨vs1, SqL.of hv1⟩, ?_⟩
          refine ⟨fun i m σ' H' => m = all.length - i ∧ i ≤ all.length ∧ ∃ ρ' I' μ' S', Ext I1 μ1 I' μ' ∧ RpS X.K X.mg I' μ' σ' ρ' ∧ Ok X.K X.mg Z I' μ' S' H' ∧ loopH n all wg wb κ (all.drop i) ρ' S',
            ⟨all.length, by simp, Nat.zero_le _, ρ, I1, μ1, S1, .refl, rs.ext e1, o1, by simpa using q1⟩, ?_⟩
          rintro i m σ' H' ⟨rfl, hi, ρ', I', μ', S', e', rs', o', q'⟩
          by_cases hlt : i < all.length
          · rw [List.drop_eq_getElem_cons hlt] at q'
            obtain ⟨hS, q'⟩ := q'
            obtain ⟨vs, hv, rl⟩ := look e' o' hS
            have hlen := rl.length
            refine .inr ⟨⟨vs, vs[i]'(by omega), SqL.of hv, List.getElem?_eq_getElem _⟩, fun σ2 H2 => ∃ ρ2 I2 μ2 S2, Ext I1 μ1 I2 μ2 ∧ RpS X.K X.mg I2 μ2 σ2 ρ2 ∧ Ok X.K X.mg Z I2 μ2 S2 H2 ∧ loopH n all wg wb κ (all.drop (i + 1)) ρ2 S2, fun σ2 H2 y => ⟨all.length - (i + 1), by omega, rfl, hlt, y⟩, fun x H2 y => ?_⟩
            obtain ⟨rfl, y⟩ := y
            have yx := y vs (SqL.of hv)
            obtain ⟨d', ed, rd⟩ := rl.getV yx
            rw [List.getElem?_eq_getElem hlt] at ed
            cases ed
            refine hg.si Z lk x _ σ' ρ' I' μ' S' H2 _ _ rd rs' o' q' fun σ3 ρ3 I3 μ3 S3 H3 e3 rs3 o3 q3 => ?_
            have e13 := e'.trans e3
            exact hb.si Z lk σ3 ρ3 I3 μ3 S3 H3 _ _ rs3 o3 q3 ⟨fun σ4 ρ4 I4 μ4 S4 H4 e4 rs4 o4 q4 => ⟨ρ4, I4, μ4, S4, e13.trans e4, rs4, o4, q4⟩, c.rt.ext (e1.trans e13), fun σ4 ρ4 I4 μ4 S4 H4 e4 rs4 o4 q4 => c.nx σ4 ρ4 I4 μ4 S4 H4 ((e1.trans e13).trans e4) rs4 o4 q4,
              fun σ4 ρ4 I4 μ4 S4 H4 e4 rs4 o4 q4 => ⟨ρ4, I4, μ4, S4, e13.trans e4, rs4, o4, q4⟩⟩
          · have hi' : i = all.length := by omega
            subst hi'
            rw [List.drop_length] at q'
            obtain ⟨vs, hv, rl⟩ := look e' o' q'.1
            exact .inl ⟨⟨vs, SqL.of hv, by rw [rl.length]; exact Nat.le_refl _⟩, c.nx σ' ρ' I' μ' S' H' (e1.trans e') rs' o' q'.2⟩
      | frz _ => exact q1.elim
      | bag => exact q1.elim
      | dct _ => exact q1.elim
      | lck _ _ => exact q1.elim
      | ins _ _ => exact q1.elim
    · exact q1.elim⟩
end
end Sq

set_option Elab.async false
set_option maxRecDepth 100000
set_option maxHeartbeats 4000000
set_option linter.all false
/-! Texts, told of data: their signs, in, order, ord, join, str; all, any. -/
namespace Sq
open PySem PySem.Spec PyProof.Rows L2
/-- a text of one sign -/
def sg (c : Nat) : Str := ⟨#[c]⟩
def sgn (s : Str) : Option Nat := match s.cps.toList with
  | [c] => some c
  | _ => none
theorem sgn_sg (c : Nat) : sgn (sg c) = some c := rfl
theorem sgn_eq {s : Str} {c : Nat} (h : sgn s = some c) : s = ⟨#[c]⟩ := by
  unfold sgn at h
  split at h
  · rename_i e
    cases h
    obtain ⟨a⟩ := s
    have : a = #[c] := by
      apply Array.toList_inj.mp
      exact e
    rw [this]
  · cases h
section
variable {K : PySem.W.Frag} {mg : Str → Option Value} {Z : Zt} {X : Cx}
/-- a sign in a text -/
def fInSg (neg : Bool) : F2 := fun S x y Q => match view S x, view S y with
  | .str w, .str z => onS (sgn w) fun c => Q (.bl (if neg then !decide (c ∈ z.cps.toList) else decide (c ∈ z.cps.toList))) S
  | _, _ => False
def rInSg (neg : Bool) : R2 := fun x y H Q => ∃ (c : Nat) (z : Str), x = .str ⟨#[c]⟩ ∧ y = .str z ∧ Q (.bl (if neg then !decide (c ∈ z.cps.toList) else decide (c ∈ z.cps.toList))) H
theorem opd_inSg {neg : Bool} : OpD K mg Z (rInSg neg) (fInSg neg) := by
  intro I μ S H x y a b Q Φ ok ra rb q k
  unfold fInSg at q
  split at q
  · rename_i w z e1 e2
    obtain ⟨c, e, q⟩ := onS_iff q
    have := sgn_eq e
    subst this
    exact ⟨c, z, view_str ok ra e1, view_str ok rb e2, k _ _ I μ S H .refl ok .bl q⟩
  · exact q.elim
theorem cm_insg : CmpR X .In (rInSg false) (fInSg false) := ⟨fun pins s σ H x y v u Q I rx ry h => op_in_sign pins s σ H x y v u Q I rx ry h, fun _ => opd_inSg⟩
theorem cm_notInsg : CmpR X .NotIn (rInSg true) (fInSg true) := ⟨fun pins s σ H x y v u Q I rx ry h => op_notIn_sign pins s σ H x y v u Q I rx ry h, fun _ => opd_inSg⟩
/-- order of texts -/
def fStrB (g : List Nat → List Nat → Bool) : F2 := fun S x y Q => match view S x, view S y with
  | .str w, .str z => Q (.bl (g w.cps.toList z.cps.toList)) S
  | _, _ => False
theorem opd_strB {g : List Nat → List Nat → Bool} {r : R2} (h : ∀ i j H Q, Q (.bl (g i.cps.toList j.cps.toList)) H → r (.str i) (.str j) H Q) : OpD K mg Z r (fStrB g) := by
  intro I μ S H x y a b Q Φ ok ra rb q k
  unfold fStrB at q
  split at q
  · rename_i w z e1 e2
    rw [view_str ok ra e1, view_str ok rb e2]
    exact h _ _ _ _ (k _ _ I μ S H .refl ok .bl q)
  · exact q.elim
theorem cm_leS : CmpR X .LtE (fun x y H Q => ∃ i j, x = .str i ∧ y = .str j ∧ Q (.bl (!decide (j.cps.toList < i.cps.toList))) H) (fStrB fun i j => !decide (j < i)) := ⟨op_le_str, fun _ => opd_strB fun i j _ _ q => ⟨i, j, rfl, rfl, q⟩⟩
/-- ord(sign) -/
def fOrd : FSp := fun ds S Q => match ds with
  | [.str s] => onS (sgn s) fun c => Q (.int (c : Nat)) S
  | _ => False
theorem cb_ord : CbD K mg Z (fun xs H Q => ∃ x, xs = [.str x] ∧ x.length = 1 ∧ Q (.int (x.cps.getD 0 0 : Nat)) H) fOrd := by
  intro I μ S H vs ds Q Φ ok r h k
  unfold fOrd at h
  split at h
  · obtain ⟨c, e, h⟩ := onS_iff h
    cases r with
    | cons r t =>
      cases t
      cases r
      have := sgn_eq e
      subst this
      exact ⟨_, rfl, rfl, k _ _ I μ S H .refl ok .int h⟩
  · exact h.elim
/-- str(n), str(text) -/
def fStr : FSp := fun ds S Q => match ds with
  | [.int i] => i.natAbs.log2 < 1920 ∧ Q (.str (toString i)) S
  | [.str s] => Q (.str s) S
  | _ => False
theorem cb_str : CbD K mg Z (fun xs H Q => (∃ i, xs = [.int i] ∧ i.natAbs.log2 < 1920 ∧ Q (.str (toString i)) H) ∨ ∃ a, xs = [.str a] ∧ Q (.str a) H) fStr := by
  intro I μ S H vs ds Q Φ ok r h k
  unfold fStr at h
  split at h
  · cases r with
    | cons r t => cases t; cases r; exact .inl ⟨_, rfl, h.1, k _ _ I μ S H .refl ok .str h.2⟩
  · cases r with
    | cons r t => cases t; cases r; exact .inr ⟨_, rfl, k _ _ I μ S H .refl ok .str h⟩
  · exact h.elim
/-- all, any of a list of truths -/
def blsD : List D → Option (List Bool)
  | [] => some []
  | .bl b :: ds => (blsD ds).map (b :: ·)
  | _ => none
theorem blsD_rp {I : Hp} {μ : List Addr} : ∀ {vs : List V} {ds : List D} {bs : List Bool}, RpL K mg I μ vs ds → blsD ds = some bs → vs = bs.map V.bl
  | _, [], _, .nil, e => by cases e; rfl
  | _, d :: ds, bs, .cons h r, e => by
    cases d with
    | bl b =>
      unfold blsD at e
      cases q : blsD ds with
      | none => rw [q] at e; cases e
      | some bs' => rw [q] at e; cases e; cases h; rw [blsD_rp r q]; rfl
    | _ => cases e
theorem blsD_map (bs : List Bool) : blsD (bs.map D.bl) = some bs := by
  induction bs with
  | nil => rfl
  | cons b bs ih => simp [blsD, ih]
def fAllB (g : List Bool → Bool) : FSp := fun ds S Q => match ds with
  | [d] => match view S d with
    | .lst xs => onS (blsD xs) fun bs => Q (.bl (g bs)) S
    | _ => False
  | _ => False
theorem cb_allB {g : List Bool → Bool} {r : List V → Hp → VK → Prop} (h : ∀ a bs H Q, SqL K H a (bs.map V.bl) → Q (.bl (g bs)) H → r [.ref a] H Q) : CbD K mg Z r (fAllB g) := by
  intro I μ S H vs ds Q Φ ok rr hh k
  unfold fAllB at hh
  split at hh
  · cases rr with
    | cons rr t =>
      cases t
      split at hh
      · rename_i xs e
        obtain ⟨p, ws, rfl, hp, rl⟩ := view_lst ok rr e
        obtain ⟨bs, eb, hh⟩ := onS_iff hh
        have := blsD_rp rl eb
        subst this
        exact h p bs H Q (SqL.of hp) (k _ _ I μ S H .refl ok .bl hh)
      · exact hh.elim
  · exact hh.elim
def fAll : FSp := fAllB fun bs => bs.all id
def fAny : FSp := fAllB fun bs => bs.any id
theorem cb_all : CbD K mg Z (rAll K) fAll := cb_allB fun a bs H Q h q => ⟨a, bs, rfl, h, q⟩
theorem cb_any : CbD K mg Z (rAny K) fAny := cb_allB fun a bs H Q h q => ⟨a, bs, rfl, h, q⟩
/-- the signs of a text, one after another -/
def sgs (s : Str) : List D := s.cps.toList.map fun c => D.str (sg c)
theorem drw_str {I : Hp} {μ : List Addr} {x : Str} : Drw K mg (Its x) I μ (sgs x) where
  go := fun Z i I' μ' S H e o hi => by
    have : i < x.cps.toList.length := by simpa [sgs] using hi
    show i < x.cps.size
    simpa using this
  yld := fun Z i d I' μ' S H v H' e o hd y => by
    obtain ⟨rfl, c, hc, rfl⟩ := y
    unfold sgs at hd
    rw [List.getElem?_map] at hd
    have : x.cps.toList[i]? = some c := by rw [Array.getElem?_toList]; exact hc
    rw [this] at hd
    cases hd
    exact ⟨I', .refl, o, .str⟩
  stop := fun Z I' μ' S H e o => by
    show x.cps.size ≤ (sgs x).length
    simp [sgs]
end
def wItS (we : WE) : WA := fun ρ S Q => we ρ S fun d S1 => match view S1 d with
  | .str s => Q (sgs s) S1
  | _ => False
section
variable {X : Cx} {Γ : Gam} {tg e o : Expr} {te to : TE} {we wo : WE} {pos p : Pos}
theorem si_str (h : SE X Γ e te we) : SI X Γ tg e (iStr te) (wItS we) :=
  ⟨pi_str h.pe, fun Z lk σ ρ I μ S H R Φ rs ok hw k => h.si Z lk σ ρ I μ S H _ _ rs ok hw fun v d I1 μ1 S1 H1 e1 o1 r1 q1 => by
    split at q1
    · rename_i s q
      exact ⟨s, view_str o1 r1 q, k _ _ I1 μ1 S1 H1 e1 o1 drw_str q1⟩
    · exact q1.elim⟩
/-- texts of a list -/
def strsD : List D → Option (List Str)
  | [] => some []
  | .str b :: ds => (strsD ds).map (b :: ·)
  | _ => none
theorem strsD_rp {K : PySem.W.Frag} {mg : Str → Option Value} {I : Hp} {μ : List Addr} : ∀ {vs : List V} {ds : List D} {bs : List Str}, RpL K mg I μ vs ds → strsD ds = some bs → vs = bs.map V.str
  | _, [], _, .nil, e => by cases e; rfl
  | _, d :: ds, bs, .cons h r, e => by
    cases d with
    | str b =>
      unfold strsD at e
      cases q : strsD ds with
      | none => rw [q] at e; cases e
      | some bs' => rw [q] at e; cases e; cases h; rw [strsD_rp r q]; rfl
    | _ => cases e
theorem strsD_map (bs : List Str) : strsD (bs.map D.str) = some bs := by
  induction bs with
  | nil => rfl
  | cons b bs ih => simp [strsD, ih]
/-- o.join(list of texts) -/
def wJoin (wo we : WE) : WE := fun ρ S Q => wo ρ S fun x S1 => match x with
  | .str a => we ρ S1 fun y S2 => match view S2 y with
    | .lst ds => onS (strsD ds) fun ys => (ys.map (·.length)).sum + ys.length * a.length ≤ 10000000 ∧ Q (.str (Txt.join a ys)) S2
    | _ => False
  | _ => False
def tJoin (K : PySem.W.Frag) (to te : TE) : TE := tM1 (fun x xs H Q => ∃ a p, ∃ ys : List Str, x = .str a ∧ xs = [.ref p] ∧ (SqL K H p (ys.map V.str) ∨ SqT K H p (ys.map V.str)) ∧ (ys.map (·.length)).sum + ys.length * a.length ≤ 16777216 ∧ Q (.str (Txt.join a ys)) H) to te
theorem se_join {apos pos : Pos} (ho : SE X Γ o to wo) (he : SE X Γ e te we) (hs : starEach [e] X.env = [(false, eval e X.env)] := by rfl) (hbase : attributeBase o "join" X.env (eval o X.env) = eval o X.env := by rfl) (hline : (apos.endLine == pos.line) = true := by rfl) :
    SE X Γ (.Call (.Attribute o "join" apos) [e] [] pos) (tJoin X.K to te) (wJoin wo we) :=
  ⟨pe_join ho.pe he.pe hs hbase hline, fun Z lk σ ρ I μ S H Q Φ rs ok hw k => by
    unfold tJoin tM1
    refine ho.si Z lk σ ρ I μ S H _ _ rs ok hw fun v d I1 μ1 S1 H1 e1 o1 r1 q1 => ?_
    split at q1
    · rename_i a
      cases r1
      refine ⟨⟨a, rfl⟩, he.si Z lk σ ρ I1 μ1 S1 H1 _ _ (rs.ext e1) o1 q1 fun v2 d2 I2 μ2 S2 H2 e2 o2 r2 q2 => ?_⟩
      split at q2
      · rename_i ds ev
        obtain ⟨p, ws, rfl, hp, rl⟩ := view_lst o2 r2 ev
        obtain ⟨ys, ey, hl, q2⟩ := onS_iff q2
        have := strsD_rp rl ey
        subst this
        exact ⟨a, p, ys, rfl, rfl, .inl (SqL.of hp), Nat.le_trans hl (by decide), k _ _ I2 μ2 S2 H2 (e1.trans e2) o2 .str q2⟩
      · exact q2.elim
    · exact q1.elim⟩
end
end Sq

set_option Elab.async false
set_option maxRecDepth 100000
set_option maxHeartbeats 4000000
set_option linter.all false
/-! Dicts told of data: held fast, locked for a while; their keys, values, pairs. -/
namespace Sq
open PySem PySem.Spec PyProof.Rows L2
/-! ### dicts are held fast from now on -/
inductive Lks (Q : Hp → Prop) : Hp → Prop
  | done {H : Hp} : Q H → Lks Q H
  | lock {H : Hp} {d : Addr} {kvs : List (Key × V)} : H d = some (.dK kvs) → (∀ o, Lks Q (upd H d (.frz o (.dK kvs)))) → Lks Q H
def tLks (te : TE) : TE := fun σ H Q => te σ H fun v H1 => Lks (Q v) H1
theorem lks_run {X : Cx} {pins : List (Addr × Obj)} {σ : L2.St} {s : Shared} {Q : Hp → Prop} {H : Hp} (h : Lks Q H) (I : Inv X pins σ H s) : ∃ H', Inv X pins σ H' s ∧ Q H' := by
  induction h with
  | done q => exact ⟨_, I, q⟩
  | lock e _ ih =>
    obtain ⟨od, I1⟩ := I.lock e trivial
    exact ih od I1
theorem pe_lks {X : Cx} {e : Expr} {te : TE} (h : PE X e te) : PE X e (tLks te) := by
  refine ⟨fun pins s σ H Q I hw => ?_⟩
  refine thn (h.run pins s σ H _ I hw) fun v s1 ⟨x, H1, I1, rx, q⟩ => ?_
  obtain ⟨H2, I2, q2⟩ := lks_run q I1
  exact ⟨x, H2, I2, rx, q2⟩
mutual
/-- a thing in the store, with the things of the store that a dict leads to, held fast: it is plain data then -/
def frz : Nat → D → Sto → (D → Sto → Prop) → Prop
  | 0, _, _, _ => False
  | f + 1, d, S, Q => match d with
    | .h k => match S[k]? with
      | some (.frz d') => Q d' S
      | some (.dct kd) => frzK f kd (S.set k (.frz (.dct kd))) fun kd' S' => Q (.dct kd') (S'.set k (.frz (.dct kd')))
      | some (.lst ds) => Q (.lst ds) (S.set k (.frz (.lst ds)))
      | _ => False
    | d => Q d S
def frzK : Nat → List (Key × D) → Sto → (List (Key × D) → Sto → Prop) → Prop
  | 0, _, _, _ => False
  | _ + 1, [], S, Q => Q [] S
  | f + 1, (k, d) :: r, S, Q => frz f d S fun d' S' => frzK f r S' fun r' S'' => Q ((k, d') :: r') S''
end
section
variable {K : PySem.W.Frag} {mg : Str → Option Value} {Z : Zt}
/-- a thing in the store stands for other data that are held fast -/
theorem Ok.as {I : Hp} {μ : List Addr} {S : Sto} {H : Hp} {a : Addr} {n : Nat} {d : D} (o : Ok K mg Z I μ S H) (h : μ[n]? = some a) (r : Rp K mg I μ (.ref a) d) : Ok K mg Z I μ (S.set n (.frz d)) H := by
  have ha := o.there h
  refine ⟨o.fra, o.gnd, o.sub, by simp [o.len], o.nd, fun j b m hb hm => ?_⟩
  by_cases e : j = n
  · subst e
    rw [h] at hb
    cases hb
    rw [List.getElem?_set_self (by rw [← o.len]; exact (List.getElem?_eq_some_iff.mp h).1)] at hm
    cases hm
    exact ⟨ha, r⟩
  · rw [List.getElem?_set_ne (fun z => e z.symm)] at hm
    exact o.ob j b m hb hm
/-- a dict in the store is held fast from now on -/
theorem Ok.freezeD {I : Hp} {μ : List Addr} {S : Sto} {H : Hp} {a : Addr} {n : Nat} {kd : List (Key × D)} {kv : List (Key × V)} (k : Ok K mg Z I μ S H) (ha : μ[n]? = some a) (hi : I a = none) (hv : H a = some (.dK kv)) (r : RpK K mg I μ kv kd) (o : Obj) :
    Ext I μ (upd I a (.frz o (.dK kv))) μ ∧ Ok K mg Z (upd I a (.frz o (.dK kv))) μ (S.set n (.frz (.dct kd))) (upd H a (.frz o (.dK kv))) := by
  have e : Ext I μ (upd I a (.frz o (.dK kv))) μ := Ext.new hi
  refine ⟨e, ⟨fun b u q => let ⟨x, y, z⟩ := k.fra b u q; ?_, Z.cl _ _ _ _ e k.gnd, fun b u q => ?_, by simp [k.len], k.nd, fun j b m hb hm => ?_⟩⟩
  · have nb : b ≠ a := fun q => z (by rw [q]; exact List.mem_of_getElem? ha)
    exact ⟨by rw [upd_ne nb]; exact x, by rw [upd_ne nb]; exact y, z⟩
  · by_cases z : b = a
    · subst z; rw [upd_same] at q ⊢; exact q
    · rw [upd_ne z] at q ⊢; exact k.sub b u q
  · by_cases z : j = n
    · subst z
      rw [ha] at hb
      cases hb
      rw [List.getElem?_set_self (by rw [← k.len]; exact (List.getElem?_eq_some_iff.mp ha).1)] at hm
      cases hm
      exact ⟨by rw [upd_same]; simp, .dct upd_same (r.ext e)⟩
    · rw [List.getElem?_set_ne (fun q => z q.symm)] at hm
      have q : b ≠ a := fun x => by
        subst x
        have h1 := List.getElem?_eq_some_iff.mp hb
        have h2 := List.getElem?_eq_some_iff.mp ha
        exact z ((List.getElem_inj k.nd).mp (h1.2.trans h2.2.symm))
      exact (k.ob j b m hb hm).ext e (upd_ne q) fun _ i => by rw [upd_ne q]; exact i
mutual
theorem frz_ok : ∀ (f : Nat) {I : Hp} {μ : List Addr} {S : Sto} {H : Hp} {v : V} {d : D} {Φ : D → Sto → Prop} {Q : Hp → Prop}, Ok K mg Z I μ S H → Rp K mg I μ v d → frz f d S Φ →
    (∀ (d' : D) (I' : Hp) (S' : Sto) (H' : Hp), Ext I μ I' μ → Ok K mg Z I' μ S' H' → Rp K mg I' μ v d' → Φ d' S' → Lks Q H') → Lks Q H
  | 0, _, _, _, _, _, _, _, _, _, _, h, _ => by unfold frz at h; exact h.elim
  | f + 1, I, μ, S, H, v, d, Φ, Q, o, r, h, k => by
    unfold frz at h
    split at h
    · rename_i n
      cases r with
      | h hn =>
        rename_i a
        split at h
        · rename_i d' e
          exact k d' I S H .refl o (o.ob n a _ hn e).2 h
        · rename_i kd e
          obtain ⟨hi, kv, hv, rk⟩ := o.ob n a _ hn e
          refine .lock hv fun ob => ?_
          obtain ⟨e1, o1⟩ := o.freezeD hn hi hv rk ob
          refine frzK_ok f o1 (rk.ext e1) h fun kd' I' S' H' e' o' r' q' => ?_
          have ra : Rp K mg I' μ (.ref a) (.dct kd') := .dct (e'.hp _ _ upd_same) r'
          exact k _ I' _ H' (e1.trans e') (o'.as hn ra) ra q'
        · rename_i ds e
          obtain ⟨a', I1, ha, e1, o1, r1⟩ := o.freeze e
          rw [hn] at ha
          cases ha
          exact k _ I1 _ H e1 o1 r1 h
        · exact h.elim
    · exact k _ I S H .refl o r h
theorem frzK_ok : ∀ (f : Nat) {I : Hp} {μ : List Addr} {S : Sto} {H : Hp} {v : List (Key × V)} {d : List (Key × D)} {Φ : List (Key × D) → Sto → Prop} {Q : Hp → Prop}, Ok K mg Z I μ S H → RpK K mg I μ v d → frzK f d S Φ →
    (∀ (d' : List (Key × D)) (I' : Hp) (S' : Sto) (H' : Hp), Ext I μ I' μ → Ok K mg Z I' μ S' H' → RpK K mg I' μ v d' → Φ d' S' → Lks Q H') → Lks Q H
  | 0, _, _, _, _, _, _, _, _, _, _, h, _ => by unfold frzK at h; exact h.elim
  | f + 1, I, μ, S, H, _, [], Φ, Q, o, r, h, k => by
    unfold frzK at h
    exact k [] I S H .refl o r h
  | f + 1, I, μ, S, H, _, (key, d) :: ds, Φ, Q, o, .cons r rs, h, k => by
    unfold frzK at h
    refine frz_ok f o r h fun d' I1 S1 H1 e1 o1 r1 q1 => ?_
    refine frzK_ok f o1 (rs.ext e1) q1 fun ds' I2 S2 H2 e2 o2 r2 q2 => ?_
    exact k _ I2 S2 H2 (e1.trans e2) o2 (.cons (r1.ext e2) r2) q2
end
end
/-- no thing of the store -/
def noH : D → Prop
  | .h _ => False
  | _ => True
theorem frz_noH {f : Nat} {d : D} {S : Sto} {Q : D → Sto → Prop} (h : noH d) (q : Q d S) : frz (f + 1) d S Q := by
  unfold frz
  cases d <;> first | exact q | exact h.elim
theorem frzK_noH : ∀ {f : Nat} {kd : List (Key × D)} {S : Sto} {Q : List (Key × D) → Sto → Prop}, (∀ e, e ∈ kd → noH e.2) → kd.length < f → Q kd S → frzK f kd S Q
  | 0, _, _, _, _, hl, _ => by omega
  | f + 1, [], S, Q, _, _, q => by unfold frzK; exact q
  | f + 1, (k, d) :: r, S, Q, h, hl, q => by
    rw [List.length_cons] at hl
    unfold frzK
    obtain ⟨g, rfl⟩ : ∃ g, f = g + 1 := ⟨f - 1, by omega⟩
    exact frz_noH (h (k, d) (by simp)) (frzK_noH (fun e he => h e (by simp [he])) (by omega) q)
def wFrz (f : Nat) (we : WE) : WE := fun ρ S Q => we ρ S fun d S1 => frz f d S1 Q
theorem se_frz {X : Cx} {Γ : Gam} {e : Expr} {te : TE} {we : WE} (f : Nat) (h : SE X Γ e te we) : SE X Γ e (tLks te) (wFrz f we) :=
  ⟨pe_lks h.pe, fun Z lk σ ρ I μ S H Q Φ rs ok hw k => h.si Z lk σ ρ I μ S H _ _ rs ok hw fun v d I1 μ1 S1 H1 e1 o1 r1 q1 =>
    frz_ok f o1 r1 q1 fun d' I2 S2 H2 e2 o2 r2 q2 => .done (k v d' I2 μ1 S2 H2 (e1.trans e2) o2 r2 q2)⟩
/-- one dict alone is held fast; what stands in it may change -/
def wFrz1 (we : WE) : WE := fun ρ S Q => we ρ S fun d S1 => match d with
  | .h k => match S1[k]? with
    | some (.frz d') => Q d' S1
    | some (.dct kd) => Q (.dct kd) (S1.set k (.frz (.dct kd)))
    | _ => False
  | d => Q d S1
theorem se_frz1 {X : Cx} {Γ : Gam} {e : Expr} {te : TE} {we : WE} (h : SE X Γ e te we) : SE X Γ e (tLks te) (wFrz1 we) :=
  ⟨pe_lks h.pe, fun Z lk σ ρ I μ S H Q Φ rs ok hw k => h.si Z lk σ ρ I μ S H _ _ rs ok hw fun v d I1 μ1 S1 H1 e1 o1 r1 q1 => by
    split at q1
    · rename_i n
      cases r1 with
      | h hn =>
        rename_i a
        split at q1
        · rename_i d' e
          exact .done (k _ _ I1 μ1 S1 H1 e1 o1 (o1.ob n a _ hn e).2 q1)
        · rename_i kd e
          obtain ⟨hi, kv, hv, rk⟩ := o1.ob n a _ hn e
          refine .lock hv fun ob => ?_
          obtain ⟨e2, o2⟩ := o1.freezeD hn hi hv rk ob
          exact .done (k _ _ _ μ1 _ _ (e1.trans e2) o2 (.dct upd_same (rk.ext e2)) q1)
        · exact q1.elim
    · exact .done (k _ _ I1 μ1 S1 H1 e1 o1 r1 q1)⟩
/-! ### keys, values, pairs of a dict that is held fast -/
def kD : Key → D
  | .inl i => .int i
  | .inr s => .str s
theorem kD_rp {K : PySem.W.Frag} {mg : Str → Option Value} {I : Hp} {μ : List Addr} (k : Key) : Rp K mg I μ (kV k) (kD k) := by
  cases k with
  | inl i => exact .int
  | inr s => exact .str
theorem RpK.getV {K : PySem.W.Frag} {mg : Str → Option Value} {I : Hp} {μ : List Addr} : ∀ {kv : List (Key × V)} {kd : List (Key × D)}, RpK K mg I μ kv kd → ∀ {i : Nat} {k : Key} {v : V}, kv[i]? = some (k, v) → ∃ d, kd[i]? = some (k, d) ∧ Rp K mg I μ v d
  | _, _, .nil, _, _, _, h => by simp at h
  | _, _, .cons r _, 0, _, _, h => by simp at h; obtain ⟨rfl, rfl⟩ := h; exact ⟨_, rfl, r⟩
  | _, _, .cons _ t, i + 1, k, v, h => by
    obtain ⟨d, e, r⟩ := RpK.getV t (i := i) (k := k) (v := v) (by simpa using h)
    exact ⟨d, by simpa using e, r⟩
section
variable {K : PySem.W.Frag} {mg : Str → Option Value} {I : Hp} {μ : List Addr} {a : Addr} {o : Obj} {kv : List (Key × V)} {kd : List (Key × D)}
def keysD (kd : List (Key × D)) : List D := kd.map fun p => kD p.1
def valsD (kd : List (Key × D)) : List D := kd.map (·.2)
def itemsD (kd : List (Key × D)) : List D := kd.map fun p => D.tup [kD p.1, p.2]
theorem drw_keys (h : I a = some (.frz o (.dK kv))) (r : RpK K mg I μ kv kd) : Drw K mg (Itk a o kv) I μ (keysD kd) where
  go := fun Z i I' μ' S H e ok hi => ⟨ok.sub _ _ (e.hp _ _ h), by have := r.len; simp [keysD] at hi; omega⟩
  yld := fun Z i d I' μ' S H x H' e ok hd y => by
    obtain ⟨rfl, k, v, hk, rfl⟩ := y
    obtain ⟨d', e1, _⟩ := r.getV hk
    unfold keysD at hd
    rw [List.getElem?_map, e1] at hd
    cases hd
    exact ⟨I', .refl, ok, kD_rp k⟩
  stop := fun Z I' μ' S H e ok => ⟨ok.sub _ _ (e.hp _ _ h), by have := r.len; simp [keysD]; omega⟩
theorem drw_vals (h : I a = some (.frz o (.dK kv))) (r : RpK K mg I μ kv kd) : Drw K mg (Itd a o kv) I μ (valsD kd) where
  go := fun Z i I' μ' S H e ok hi => ⟨ok.sub _ _ (e.hp _ _ h), by have := r.len; simp [valsD] at hi; omega⟩
  yld := fun Z i d I' μ' S H x H' e ok hd y => by
    obtain ⟨rfl, k, hk⟩ := y
    obtain ⟨d', e1, r1⟩ := r.getV hk
    unfold valsD at hd
    rw [List.getElem?_map, e1] at hd
    cases hd
    exact ⟨I', .refl, ok, r1.ext e⟩
  stop := fun Z I' μ' S H e ok => ⟨ok.sub _ _ (e.hp _ _ h), by have := r.len; simp [valsD]; omega⟩
theorem drw_items (h : I a = some (.frz o (.dK kv))) (r : RpK K mg I μ kv kd) : Drw K mg (Iti a o kv) I μ (itemsD kd) where
  go := fun Z i I' μ' S H e ok hi => ⟨ok.sub _ _ (e.hp _ _ h), by have := r.len; simp [itemsD] at hi; omega⟩
  yld := fun Z i d I' μ' S H x H' e ok hd y => by
    obtain ⟨T, k, v, hk, rfl, hT, rfl⟩ := y
    obtain ⟨d', e1, r1⟩ := r.getV hk
    unfold itemsD at hd
    rw [List.getElem?_map, e1] at hd
    cases hd
    have hi := free_of ok.sub hT
    exact ⟨_, Ext.new hi, ok.new hT, .tup (SqT.of upd_same) (.cons (kD_rp k) (.cons ((r1.ext e).ext (Ext.new hi)) .nil))⟩
  stop := fun Z I' μ' S H e ok => ⟨ok.sub _ _ (e.hp _ _ h), by have := r.len; simp [itemsD]; omega⟩
end
/-- the dict that a thing is, held fast -/
def dfix (S : Sto) : D → Option (List (Key × D))
  | .dct kd => some kd
  | .h n => match S[n]? with
    | some (.frz (.dct kd)) => some kd
    | _ => none
  | _ => none
theorem dfix_rp {K : PySem.W.Frag} {mg : Str → Option Value} {Z : Zt} {I : Hp} {μ : List Addr} {S : Sto} {H : Hp} {v : V} {d : D} {kd : List (Key × D)} (ok : Ok K mg Z I μ S H) (r : Rp K mg I μ v d) (e : dfix S d = some kd) : ∃ a o kv, v = .ref a ∧ I a = some (.frz o (.dK kv)) ∧ RpK K mg I μ kv kd := by
  have base : ∀ {v : V} {kd : List (Key × D)}, Rp K mg I μ v (.dct kd) → ∃ a o kv, v = .ref a ∧ I a = some (.frz o (.dK kv)) ∧ RpK K mg I μ kv kd := fun r => by
    cases r with | dct h q => exact ⟨_, _, _, rfl, h, q⟩
  unfold dfix at e
  split at e
  · cases e; exact base r
  · split at e
    · rename_i n _ kd' c
      cases e
      cases r with
      | h q => exact base (ok.ob n _ _ q c).2
    · cases e
  · cases e
def wItK (we : WE) : WA := fun ρ S Q => we ρ S fun d S1 => onS (dfix S1 d) fun kd => Q (keysD kd) S1
def wItV (we : WE) : WA := fun ρ S Q => we ρ S fun d S1 => onS (dfix S1 d) fun kd => Q (valsD kd) S1
def wItI (we : WE) : WA := fun ρ S Q => we ρ S fun d S1 => onS (dfix S1 d) fun kd => Q (itemsD kd) S1
section
variable {X : Cx} {Γ : Gam} {tg e : Expr} {te : TE} {we : WE} {apos cpos p pos tpos : Pos} {elts : List Expr} {kk : Nat}
theorem si_keys (h : SE X Γ e te we) : SI X Γ tg e (iKeys te) (wItK we) :=
  ⟨pi_keys h.pe, fun Z lk σ ρ I μ S H R Φ rs ok hw k => h.si Z lk σ ρ I μ S H _ _ rs ok hw fun v d I1 μ1 S1 H1 e1 o1 r1 q1 => by
    obtain ⟨kd, hd, q1⟩ := onS_iff q1
    obtain ⟨a, o, kv, rfl, ha, rk⟩ := dfix_rp o1 r1 hd
    exact ⟨a, o, rfl, .inl ⟨kv, o1.sub _ _ ha, k _ _ I1 μ1 S1 H1 e1 o1 (drw_keys ha rk) q1⟩⟩⟩
theorem si_vals (h : SE X Γ e te we) (hbase : attributeBase e "values" X.env (eval e X.env) = eval e X.env := by rfl) (hline : (apos.endLine == cpos.line) = true := by rfl) :
    SI X Γ tg (.Call (.Attribute e "values" apos) [] [] cpos) (iVals te) (wItV we) :=
  ⟨pi_values h.pe hbase hline, fun Z lk σ ρ I μ S H R Φ rs ok hw k => h.si Z lk σ ρ I μ S H _ _ rs ok hw fun v d I1 μ1 S1 H1 e1 o1 r1 q1 => by
    obtain ⟨kd, hd, q1⟩ := onS_iff q1
    obtain ⟨a, o, kv, rfl, ha, rk⟩ := dfix_rp o1 r1 hd
    exact ⟨a, o, kv, rfl, o1.sub _ _ ha, k _ _ I1 μ1 S1 H1 e1 o1 (drw_vals ha rk) q1⟩⟩
theorem si_items (h : SE X Γ e te we) (hbase : attributeBase e "items" X.env (eval e X.env) = eval e X.env := by rfl) (hline : (apos.endLine == cpos.line) = true := by rfl) :
    SI X Γ (.Tuple elts kk tpos) (.Call (.Attribute e "items" apos) [] [] cpos) (iItems te) (wItI we) :=
  ⟨pi_items h.pe hbase hline, fun Z lk σ ρ I μ S H R Φ rs ok hw k => h.si Z lk σ ρ I μ S H _ _ rs ok hw fun v d I1 μ1 S1 H1 e1 o1 r1 q1 => by
    obtain ⟨kd, hd, q1⟩ := onS_iff q1
    obtain ⟨a, o, kv, rfl, ha, rk⟩ := dfix_rp o1 r1 hd
    exact ⟨a, o, kv, rfl, o1.sub _ _ ha, k _ _ I1 μ1 S1 H1 e1 o1 (drw_items ha rk) q1⟩⟩
end
end Sq

set_option Elab.async false
set_option maxRecDepth 100000
set_option maxHeartbeats 4000000
set_option linter.all false
/-! Lists of keys, sorted texts, methods of lists, split, zip, stars, or. -/
namespace Sq
open PySem PySem.Spec PyProof.Rows L2
section
variable {X : Cx}
/-- list(d), d held fast or not -/
def rListR : List V → Hp → VK → Prop := fun zs G Q => ∃ b kvs, zs = [.ref b] ∧ Rd G b (.dK kvs) ∧ ∀ l, G l = none → Q (.ref l) (upd G l (.lst (kvs.map fun e => kV e.1)))
theorem call_listR (calm : X.calm = true) : CallR X (.type "list") rListR := by
  intro pn s0 σ G zs us Q J rv hw
  obtain ⟨b, kvs, e0, hb, fin⟩ := hw
  subst e0
  obtain ⟨u, eu, ru⟩ := vals1 rv
  subst eu
  obtain rfl : u = Value.ref b := ru
  obtain ⟨sz, low, ws, rk, dd⟩ := dk_rd J.hok hb
  obtain ⟨epo, atd⟩ := dd.dictAt
  have len : kvs.length = ws.length := Paired.length rk
  refine PySem.W.kdl_call (PySem.W.kdl_dict (knd := mixKind X.prog X.w) (kvs := ws) (ep := epo) low) (J.ok.hd calm) atd (by rw [← len]; exact sz) fun h2 tk2 got cap keep laidL told => ?_
  refine ⟨.ref s0.heap.objs.size, upd G s0.heap.objs.size (.lst (kvs.map fun e => kV e.1)), J.laid keep (Nat.le_refl _) (show ObjOk X.prog X.w _ _ _ (.lst (kvs.map fun e => kV e.1)) from ⟨?_, got.toList, cap, ?_, ?_⟩), rfl, fin _ (J.hok.fresh (Nat.le_refl _))⟩
  · rw [List.length_map]; exact sz
  · have eg : got.toList.length = got.size := Array.length_toList
    refine vals_of_at (by rw [List.length_map, eg, told.1, len]) fun j x w q1 q2 => ?_
    obtain ⟨key, y, ky, is⟩ := told.2 j w (by rw [← Array.getElem?_toList]; exact q2)
    have f1 : (kvs.map (·.1))[j]? = some key := by
      rw [KV.keys rk, List.getElem?_map, ky]; rfl
    have f2 : (kvs.map fun e => kV e.1)[j]? = some (kV key) := by
      have f3 : (kvs.map fun e => kV e.1) = (kvs.map (·.1)).map kV := by rw [List.map_map]; rfl
      rw [f3, List.getElem?_map, f1]; rfl
    rw [f2] at q1
    cases q1
    exact keyIs_rel is
  · rw [Array.toArray_toList]; exact laidL
end
section
variable {K : PySem.W.Frag} {mg : Str → Option Value} {Z : Zt}
theorem RpK.keys {I : Hp} {μ : List Addr} : ∀ {kv : List (Key × V)} {kd : List (Key × D)}, RpK K mg I μ kv kd → RpL K mg I μ (kv.map fun e => kV e.1) (keysD kd)
  | _, _, .nil => .nil
  | _, _, .cons (k := k) _ t => .cons (kD_rp k) (RpK.keys t)
theorem RpK.names {I : Hp} {μ : List Addr} : ∀ {kv : List (Key × V)} {kd : List (Key × D)}, RpK K mg I μ kv kd → kv.map (·.1) = kd.map (·.1)
  | _, _, .nil => rfl
  | _, _, .cons _ t => by simp [RpK.names t]
/-- list(dict): its keys -/
def fListK : FSp := fun ds S Q => match ds with
  | [d] => onS (dctD (view S d)) fun kd => Q (.lst (keysD kd)) S
  | _ => False
def fListKM : FSp := fun ds S Q => match ds with
  | [d] => onS (dctD (view S d)) fun kd => Q (.h S.length) (S ++ [.lst (keysD kd)])
  | _ => False
theorem cb_listK : CbD K mg Z rListR fListK := by
  intro I μ S H vs ds Q Φ ok r h k
  unfold fListK at h
  split at h
  · cases r with
    | cons r t =>
      cases t
      obtain ⟨kd, e, h⟩ := onS_iff h
      obtain ⟨p, kv, rfl, hr, rk⟩ := view_dct ok r (dctD_eq e)
      refine ⟨p, kv, rfl, hr, fun l hl => ?_⟩
      have i := free_of ok.sub hl
      exact k _ _ _ μ S _ (Ext.new i) (ok.new hl) (.lst upd_same (rk.keys.ext (Ext.new i))) h
  · exact h.elim
theorem cb_listKM : CbD K mg Z rListR fListKM := by
  intro I μ S H vs ds Q Φ ok r h k
  unfold fListKM at h
  split at h
  · cases r with
    | cons r t =>
      cases t
      obtain ⟨kd, e, h⟩ := onS_iff h
      obtain ⟨p, kv, rfl, hr, rk⟩ := view_dct ok r (dctD_eq e)
      refine ⟨p, kv, rfl, hr, fun l hl => ?_⟩
      have i := free_of ok.sub hl
      exact k _ _ _ _ _ _ Ext.push (ok.push (m := .lst (keysD kd)) hl ⟨i, _, upd_same, rk.keys.ext Ext.push⟩) (.h (mu_last ok l)) h
  · exact h.elim
/-- len of a dict -/
def fLenK : FSp := fun ds S Q => match ds with
  | [d] => onS (dctD (view S d)) fun kd => Q (.int kd.length) S
  | _ => False
theorem call_lenR {X : Cx} : CallR X (.builtin "len") (fun xs H Q => ∃ a kvs, xs = [V.ref a] ∧ Rd H a (.dK kvs) ∧ Q (.int kvs.length) H) := by
  intro pins s σ H xs us Q I r h
  obtain ⟨a, kvs, e0, hd, q⟩ := h
  subst e0
  obtain ⟨u, eu, ru⟩ := vals1 r
  subst eu
  obtain rfl : u = Value.ref a := ru
  exact d_len I hd fun t s' I' => ⟨.int kvs.length, H, I', ⟨t, rfl⟩, q⟩
theorem cb_lenK : CbD K mg Z (fun xs H Q => ∃ a kvs, xs = [V.ref a] ∧ Rd H a (.dK kvs) ∧ Q (.int kvs.length) H) fLenK := by
  intro I μ S H vs ds Q Φ ok r h k
  unfold fLenK at h
  split at h
  · cases r with
    | cons r t =>
      cases t
      obtain ⟨kd, e, h⟩ := onS_iff h
      obtain ⟨p, kv, rfl, hr, rk⟩ := view_dct ok r (dctD_eq e)
      refine ⟨p, kv, rfl, hr, ?_⟩
      rw [rk.len]
      exact k _ _ I μ S H .refl ok .int h
  · exact h.elim
/-- names of a dict -/
def strK : List (Key × D) → Option (List Str)
  | [] => some []
  | (.inr s, _) :: r => (strK r).map (s :: ·)
  | _ => none
theorem strK_keys : ∀ {kd : List (Key × D)} {ks : List Str}, strK kd = some ks → kd.map (·.1) = ks.map Sum.inr
  | [], _, e => by cases e; rfl
  | (.inr s, _) :: r, ks, e => by
    unfold strK at e
    cases q : strK r with
    | none => rw [q] at e; cases e
    | some k' => rw [q] at e; cases e; simp [strK_keys q]
  | (.inl _, _) :: r, ks, e => by cases e
/-- sorted(texts), sorted(a dict whose keys are texts) -/
def fSortS : FSp := fun ds S Q => match ds with
  | [d] => match view S d with
    | .lst xs => onS (strsD xs) fun ks => ks.length < 64 ∧ ∀ ys : List Str, ys.Perm ks → sortedS ys = true → Q (.lst (ys.map D.str)) S
    | .dct kd => onS (strK kd) fun ks => ks.length < 64 ∧ ∀ ys : List Str, ys.Perm ks → sortedS ys = true → Q (.lst (ys.map D.str)) S
    | _ => False
  | _ => False
theorem RpL.strs {I : Hp} {μ : List Addr} (ys : List Str) : RpL K mg I μ (ys.map V.str) (ys.map D.str) := by
  induction ys with
  | nil => exact .nil
  | cons y ys ih => exact .cons .str ih
def rSortA (K : PySem.W.Frag) : List V → Hp → VK → Prop := fun xs H Q => rSortedS K xs H Q ∨ ∃ (a : Addr) (kvs : List (Key × V)) (ks : List Str), xs = [.ref a] ∧ Rd H a (.dK kvs) ∧ kvs.map (·.1) = ks.map Sum.inr ∧ ks.length < 64 ∧
    ∀ ys p, ys.Perm ks → sortedS ys = true → H p = none → Q (.ref p) (upd H p (.lst (ys.map V.str)))
theorem call_sortA {X : Cx} (calm : X.calm = true) : CallR X (.builtin "sorted") (rSortA X.K) := cr_sortedS.or (call_sortedD calm)
theorem cb_sortA : CbD K mg Z (rSortA K) fSortS := by
  intro I μ S H vs ds Q Φ ok r h k
  unfold fSortS at h
  split at h
  · cases r with
    | cons r t =>
      cases t
      split at h
      · rename_i xs e
        obtain ⟨ks, e2, hl, h⟩ := onS_iff h
        obtain ⟨p, ws, rfl, hp, rl⟩ := view_lst ok r e
        have := strsD_rp rl e2
        subst this
        refine .inl ⟨p, ks, rfl, SqL.of hp, hl, fun ys l hy hs hl => ?_⟩
        have i := free_of ok.sub hl
        exact k _ _ _ μ S _ (Ext.new i) (ok.new hl) (.lst upd_same (RpL.strs ys)) (h ys hy hs)
      · rename_i kd e
        obtain ⟨ks, e2, hl, h⟩ := onS_iff h
        obtain ⟨p, kv, rfl, hr, rk⟩ := view_dct ok r e
        refine .inr ⟨p, kv, ks, rfl, hr, by rw [rk.names]; exact strK_keys e2, hl, fun ys l hy hs hl => ?_⟩
        have i := free_of ok.sub hl
        exact k _ _ _ μ S _ (Ext.new i) (ok.new hl) (.lst upd_same (RpL.strs ys)) (h ys hy hs)
      · exact h.elim
  · exact h.elim
end
/-! ### methods of a list in the store -/
/-- what a method does: of the list and its arguments what it returns, and the list then -/
structure Lm (X : Cx) (id : String) (r : V → List V → Hp → VK → Prop) (f : List D → List D → Option (D × List D)) : Prop where
  mt : MtR X id r
  ok : ∀ (I : Hp) (μ : List Addr) (H : Hp) (a : Addr) (vs xs : List V) (ds as : List D) (d : D) (ds' : List D) (Q : VK), RpL X.K X.mg I μ vs ds → RpL X.K X.mg I μ xs as → H a = some (.lst vs) → f ds as = some (d, ds') →
    (∀ v vs', Rp X.K X.mg I μ v d → RpL X.K X.mg I μ vs' ds' → Q v (upd H a (.lst vs'))) → r (.ref a) xs H Q
def wLm (f : List D → List D → Option (D × List D)) (wo : WE) (wa : WA) : WE := fun ρ S Q => wo ρ S fun x S1 => match x with
  | .h n => (match S1[n]? with | some (.lst _) => True | _ => False) ∧ wa ρ S1 fun as S2 => match S2[n]? with
    | some (.lst ds) => onS (f ds as) fun p => Q p.1 (S2.set n (.lst p.2))
    | _ => False
  | _ => False
section
variable {X : Cx} {Γ : Gam} {o e : Expr} {es : List Expr} {to te : TE} {wo we : WE} {t : TA} {wa : WA} {apos cpos p pos : Pos} {name : Str} {id : String} {r : V → List V → Hp → VK → Prop} {f : List D → List D → Option (D × List D)}
theorem se_lm (lm : Lm X id r f) (slot : Slot "list" name id) (hty : typeOf (.builtin id) = pure (.type "method_descriptor")) (ho : SE X Γ o to wo) (ha : SA X Γ (e :: es) t wa)
    (hbase : attributeBase o name X.env (eval o X.env) = eval o X.env := by rfl)
    (hfew : ((backTo cpos (starEach (e :: es) X.env)).all (fun x => !x.1) && (backToKw cpos (keywordEach [] X.env)).all (fun x => x.1.isSome) && decide ((e :: es).length + ([] : List Keyword).length + (if ([] : List Keyword).isEmpty then 0 else 1) < 30)) = true := by rfl)
    (hline : (apos.endLine == cpos.line) = true := by rfl) (hs : starEach (e :: es) X.env = (false, eval e X.env) :: starEach es X.env := by rfl) (hplain : (backTo cpos (starEach es X.env)).any (·.1) = false := by rfl) :
    SE X Γ (.Call (.Attribute o name apos) (e :: es) [] cpos) (tBM X.K "list" r to t) (wLm f wo wa) := by
  refine ⟨pe_bm PySem.F.plainAttrs_list slot hty lm.mt ho.pe ha.pa hbase hfew hline hs hplain, fun Z lk σ ρ I μ S H Q Φ rs ok hw k => ?_⟩
  refine ho.si Z lk σ ρ I μ S H _ _ rs ok hw fun v x I1 μ1 S1 H1 e1 o1 r1 q1 => ?_
  split at q1
  · rename_i n
    obtain ⟨q0, q1⟩ := q1
    split at q0
    · rename_i ds z
      cases r1 with
      | h hn =>
        obtain ⟨hi, vs, hH, rl⟩ := o1.ob _ _ _ hn z
        refine ⟨.inl ⟨rfl, _, SqL.of hH⟩, ?_⟩
        refine ha.si Z lk σ ρ I1 μ1 S1 H1 _ _ (rs.ext e1) o1 q1 fun us as I2 μ2 S2 H2 e2 o2 r2 q2 => ?_
        split at q2
        · rename_i ds2 z2
          obtain ⟨⟨d, ds'⟩, ef, q2⟩ := onS_iff q2
          obtain ⟨hi2, ws, hH2, rl2⟩ := o2.ob _ _ _ (e2.mu _ _ hn) z2
          exact lm.ok I2 μ2 H2 _ ws us ds2 as d ds' Q rl2 r2 hH2 ef fun v vs' rv rl' =>
            k v d I2 μ2 _ _ (e1.trans e2) (o2.put (m := .lst ds') (e2.mu _ _ hn) hi2 ⟨hi2, _, upd_same, rl'⟩) rv q2
        · exact q2.elim
    · exact q0.elim
  · exact q1.elim
theorem se_lm0 (lm : Lm X id r f) (slot : Slot "list" name id) (hty : typeOf (.builtin id) = pure (.type "method_descriptor")) (ho : SE X Γ o to wo) (hbase : attributeBase o name X.env (eval o X.env) = eval o X.env := by rfl) (hline : (apos.endLine == cpos.line) = true := by rfl) :
    SE X Γ (.Call (.Attribute o name apos) [] [] cpos) (tBM0 X.K "list" r to) (wLm f wo wNil) := by
  refine ⟨pe_bm0 PySem.F.plainAttrs_list slot hty lm.mt ho.pe hbase hline, fun Z lk σ ρ I μ S H Q Φ rs ok hw k => ?_⟩
  refine ho.si Z lk σ ρ I μ S H _ _ rs ok hw fun v x I1 μ1 S1 H1 e1 o1 r1 q1 => ?_
  split at q1
  · rename_i n
    obtain ⟨q0, q1⟩ := q1
    unfold wNil at q1
    dsimp only at q1
    split at q1
    · rename_i ds2 z2
      obtain ⟨⟨d, ds'⟩, ef, q2⟩ := onS_iff q1
      cases r1 with
      | h hn =>
        obtain ⟨hi2, ws, hH2, rl2⟩ := o1.ob _ _ _ hn z2
        refine ⟨.inl ⟨rfl, _, SqL.of hH2⟩, ?_⟩
        exact lm.ok I1 μ1 H1 _ ws [] ds2 [] d ds' Q rl2 .nil hH2 ef fun v vs' rv rl' =>
          k v d I1 μ1 _ _ e1 (o1.put (m := .lst ds') hn hi2 ⟨hi2, _, upd_same, rl'⟩) rv q2
    · exact q1.elim
  · exact q1.elim
def gInsert : List D → List D → Option (D × List D)
  | ds, [.int i, d] => if ds.length < LIM ∧ 0 ≤ i ∧ i < 2 ^ 62 then some (.non, ds.take i.toNat ++ [d] ++ ds.drop i.toNat) else none
  | _, _ => none
def gReverse : List D → List D → Option (D × List D)
  | ds, [] => some (.non, ds.reverse)
  | _, _ => none
def gClear : List D → List D → Option (D × List D)
  | ds, [] => some (.non, [])
  | _, _ => none
def gPop : List D → List D → Option (D × List D)
  | ds, [] => (ds[ds.length - 1]?).map fun d => (d, ds.dropLast)
  | _, _ => none
theorem RpL.reverse {K : PySem.W.Frag} {mg : Str → Option Value} {I : Hp} {μ : List Addr} {vs : List V} {ds : List D} (r : RpL K mg I μ vs ds) : RpL K mg I μ vs.reverse ds.reverse := by
  induction ds generalizing vs with
  | nil => cases r; exact .nil
  | cons d ds ih => cases r with | cons h t => rw [List.reverse_cons, List.reverse_cons]; exact (ih t).append (.cons h .nil)
theorem lm_insert : Lm X "list.insert" (fun x vs H Q => ∃ (l : Addr) (xs : List V) (i : Int) (y : V), x = .ref l ∧ vs = [.int i, y] ∧ H l = some (.lst xs) ∧ xs.length < sizeLine ∧ 0 ≤ i ∧ i < 2 ^ 63 ∧ Q .non (upd H l (.lst (xs.take i.toNat ++ [y] ++ xs.drop i.toNat)))) gInsert := by
  refine ⟨mt_insert, fun I μ H a vs xs ds as d ds' Q rl ra hH ef q => ?_⟩
  unfold gInsert at ef
  split at ef
  · split at ef
    · rename_i c
      cases ef
      cases ra with
      | cons r0 t =>
        cases t with
        | cons r1 t =>
          cases t
          cases r0
          refine ⟨a, vs, _, _, rfl, rfl, hH, lim_lt (by rw [rl.length]; exact c.1), c.2.1, by have := c.2.2; omega, q _ _ .non (((rl.take _).append (.cons r1 .nil)).append (rl.drop _))⟩
    · cases ef
  · cases ef
theorem lm_reverse : Lm X "list.reverse" rReverse gReverse := by
  refine ⟨mt_reverse, fun I μ H a vs xs ds as d ds' Q rl ra hH ef q => ?_⟩
  unfold gReverse at ef
  split at ef
  · cases ef
    cases ra
    exact ⟨a, vs, rfl, rfl, hH, q _ _ .non rl.reverse⟩
  · cases ef
theorem lm_clear : Lm X "list.clear" rClear gClear := by
  refine ⟨mt_clear, fun I μ H a vs xs ds as d ds' Q rl ra hH ef q => ?_⟩
  unfold gClear at ef
  split at ef
  · cases ef
    cases ra
    exact ⟨a, vs, rfl, rfl, hH, q _ _ .non .nil⟩
  · cases ef
theorem RpL.dropLast {K : PySem.W.Frag} {mg : Str → Option Value} {I : Hp} {μ : List Addr} {vs : List V} {ds : List D} (r : RpL K mg I μ vs ds) : RpL K mg I μ vs.dropLast ds.dropLast := by
  rw [List.dropLast_eq_take, List.dropLast_eq_take, r.length]
  exact r.take _
theorem lm_pop : Lm X "list.pop" rPop gPop := by
  refine ⟨mt_pop, fun I μ H a vs xs ds as d ds' Q rl ra hH ef q => ?_⟩
  unfold gPop at ef
  split at ef
  · cases e : ds[ds.length - 1]? with
    | none => rw [e] at ef; cases ef
    | some x =>
      rw [e] at ef
      cases ef
      cases ra
      obtain ⟨y, ey, ry⟩ := rl.get e
      exact ⟨a, vs, y, rfl, rfl, hH, by rw [rl.length]; exact ey, q _ _ ry rl.dropLast⟩
  · cases ef
/-! ### split -/
def wSplit (wo we : WE) : WE := fun ρ S Q => wo ρ S fun x S1 => match x with
  | .str a => we ρ S1 fun y S2 => match y with
    | .str b => (b.length == 0) = false ∧ a.length + 2 ≤ LIM ∧ Q (.lst ((Txt.split a b).map D.str)) S2
    | _ => False
  | _ => False
def tSplit (to te : TE) : TE := tM1 (fun x xs H Q => ∃ a b, x = .str a ∧ xs = [.str b] ∧ (b.length == 0) = false ∧ a.length + 2 ≤ sizeLine ∧ rNewStrs (Txt.split a b) H Q) to te
theorem se_split (ho : SE X Γ o to wo) (he : SE X Γ e te we) (hs : starEach [e] X.env = [(false, eval e X.env)] := by rfl) (hbase : attributeBase o "split" X.env (eval o X.env) = eval o X.env := by rfl) (hline : (apos.endLine == pos.line) = true := by rfl) :
    SE X Γ (.Call (.Attribute o "split" apos) [e] [] pos) (tSplit to te) (wSplit wo we) :=
  ⟨pe_split ho.pe he.pe hs hbase hline, fun Z lk σ ρ I μ S H Q Φ rs ok hw k => by
    unfold tSplit tM1
    refine ho.si Z lk σ ρ I μ S H _ _ rs ok hw fun v d I1 μ1 S1 H1 e1 o1 r1 q1 => ?_
    split at q1
    · rename_i a
      cases r1
      refine ⟨⟨a, rfl⟩, he.si Z lk σ ρ I1 μ1 S1 H1 _ _ (rs.ext e1) o1 q1 fun v2 d2 I2 μ2 S2 H2 e2 o2 r2 q2 => ?_⟩
      split at q2
      · rename_i b
        cases r2
        refine ⟨a, b, rfl, rfl, q2.1, lim q2.2.1, fun l hl => ?_⟩
        have i := free_of o2.sub hl
        exact k _ _ _ μ2 S2 _ ((e1.trans e2).trans (Ext.new i)) (o2.new hl) (.lst upd_same (RpL.strs _)) q2.2.2
      · exact q2.elim
    · exact q1.elim⟩
/-! ### or, of things: the first one if it is true -/
def wOrA (wa wb : WE) : WE := fun ρ S Q => wa ρ S fun d S1 => match d with
  | .int i => if (i != 0) = true then Q (.int i) S1 else wb ρ S1 Q
  | .non => wb ρ S1 Q
  | .bl b => if b = true then Q (.bl true) S1 else wb ρ S1 Q
  | _ => False
theorem se_orA {a b : Expr} {rest : List Expr} {ta tb : TE} {wa wb : WE} (h : SE X Γ a ta wa) (hb : SE X Γ (.BoolOp .Or (b :: rest) pos) tb wb) : SE X Γ (.BoolOp .Or (a :: b :: rest) pos) (tOrT X.K ta tb) (wOrA wa wb) :=
  ⟨pe_orT h.pe hb.pe, fun Z lk σ ρ I μ S H Q Φ rs ok hw k => h.si Z lk σ ρ I μ S H _ _ rs ok hw fun v d I1 μ1 S1 H1 e1 o1 r1 q1 => by
    split at q1
    · rename_i i
      cases r1
      refine ⟨i != 0, rfl, ?_⟩
      cases z : (i != 0) with
      | true => rw [z] at q1; simp only [if_true] at q1 ⊢; exact k _ _ I1 μ1 S1 H1 e1 o1 .int q1
      | false => rw [z] at q1; simp only [Bool.false_eq_true, if_false] at q1 ⊢; exact hb.si Z lk σ ρ I1 μ1 S1 H1 _ _ (rs.ext e1) o1 q1 (k.ext e1)
    · cases r1
      exact ⟨false, rfl, hb.si Z lk σ ρ I1 μ1 S1 H1 _ _ (rs.ext e1) o1 q1 (k.ext e1)⟩
    · rename_i c
      cases r1
      refine ⟨c, rfl, ?_⟩
      cases c with
      | true => exact k _ _ I1 μ1 S1 H1 e1 o1 .bl q1
      | false => exact hb.si Z lk σ ρ I1 μ1 S1 H1 _ _ (rs.ext e1) o1 q1 (k.ext e1)
    · exact q1.elim⟩
/-! ### stars in a display -/
def wStar (we : WE) (wr : WA) : WA := fun ρ S Q => we ρ S fun x S1 => match view S1 x with
  | .lst ds => wr ρ S1 fun xs S2 => Q (ds ++ xs) S2
  | .tup ds => wr ρ S1 fun xs S2 => Q (ds ++ xs) S2
  | _ => False
theorem sa_star (he : SE X Γ e te we) (hr : SA X Γ es t wa) (hs : starEach (.Starred e p :: es) X.env = (true, eval e X.env) :: starEach es X.env := by rfl) : SA X Γ (.Starred e p :: es) (StX.tStar X.K te t) (wStar we wa) :=
  ⟨StX.pa_star he.pe hr.pa hs, fun Z lk σ ρ I μ S H Q Φ rs ok h k => he.si Z lk σ ρ I μ S H _ _ rs ok h fun x a I1 μ1 S1 H1 e1 o1 r1 q1 => by
    split at q1
    · rename_i ds ev
      obtain ⟨q, vs, rfl, hq, rl⟩ := view_lst o1 r1 ev
      exact ⟨q, vs, rfl, .inr (SqL.of hq), hr.si Z lk σ ρ I1 μ1 S1 H1 _ _ (rs.ext e1) o1 q1 fun y b I2 μ2 S2 H2 e2 o2 r2 q2 => k _ _ I2 μ2 S2 H2 (e1.trans e2) o2 ((rl.ext e2).append r2) q2⟩
    · rename_i ds ev
      obtain ⟨q, vs, rfl, _, hq, rl⟩ := view_tup o1 r1 ev
      exact ⟨q, vs, rfl, .inl hq, hr.si Z lk σ ρ I1 μ1 S1 H1 _ _ (rs.ext e1) o1 q1 fun y b I2 μ2 S2 H2 e2 o2 r2 q2 => k _ _ I2 μ2 S2 H2 (e1.trans e2) o2 ((rl.ext e2).append r2) q2⟩
    · exact q1.elim⟩
end
end Sq

set_option Elab.async false
set_option maxRecDepth 100000
set_option maxHeartbeats 4000000
set_option linter.all false
/-! Own in, own subscripts; dicts made by comprehensions and displays; counts; zips; locks. -/
namespace Sq
open PySem PySem.Spec PyProof.Rows L2
/-! ### x in o, o an instance of an own class -/
structure CtO (P : Program) (w : World) (K : PySem.W.Frag) (mg : Str → Option Value) (base : Heap) (k : Nat) (c : Str) (sp : FSp) : Prop where
  ex : ∃ (C g : Addr) (fd : FuncData) (ps : List Str), mg c = some (.ref C) ∧ PySem.W.findIn K (.ref C) "__contains__" = some (some (.ref g)) ∧ PySem.W.isFn K (.ref g) = true ∧ FnOk P w K mg base C8.CX0 k g fd ps (spOf K mg 2 sp) ∧ Binds K fd ps []
def rCtO (mg : Str → Option Value) (c : Str) (sp : Sp) (g : Bool → Bool) : R2 := fun y x H Q => ∃ (C a dx : Addr) (fs : List (Str × V)), mg c = some (.ref C) ∧ x = .ref a ∧ H a = some (.ins C dx fs) ∧ sp [x, y] H (fun v H' => ∃ b, v = .bl b ∧ Q (.bl (g b)) H') C8.E0
def fCtO (c : Str) (sp : FSp) (g : Bool → Bool) : F2 := fun S y x Q => (atts S c x).isSome = true ∧ sp [x, y] S fun r S1 => ∃ b, r = .bl b ∧ Q (.bl (g b)) S1
section
variable {X : Cx} {k j : Nat} {c : Str} {sp : FSp}
theorem or_ctO (m : CtO X.prog X.w X.K X.mg X.base k c sp) (hr : Room j X.A) (hk : k + 1 ≤ j) : OpR X (compareOp .In) (rCtO X.mg c (spOf X.K X.mg 2 sp) id) := by
  obtain ⟨C, g, fd, ps, hC, fe, fn, F, b⟩ := m.ex
  intro pins s σ H y x u v Q I ry rx h
  obtain ⟨C', a, dx, fs, hC', rfl, ha, q⟩ := h
  rw [hC] at hC'
  cases hC'
  obtain rfl : v = Value.ref a := rx
  obtain ⟨mA, O, _⟩ := ins_get I.hok ha
  obtain ⟨od, J, _⟩ := O.look
  obtain ⟨mm, Fm⟩ := I.fr
  refine PySem.W.in_K Fm I.ok.mod.kin J fe fn ?_
  refine wpAny_mono (run_fnAt (us := [.ref a, u]) (vs := [.ref a, y]) F (hr.mono (Nat.le_of_succ_le hk)) rfl b C8.pass0 I (.cons rfl (.cons ry .nil)) q) (fun r s' z => ?_) fun _ _ z => z
  obtain ⟨w, H', I', rw', bb, rfl, q'⟩ := z
  cases rw'
  exact wpAny_pure ⟨.bl bb, H', I', rfl, q'⟩
theorem or_nctO (m : CtO X.prog X.w X.K X.mg X.base k c sp) (hr : Room j X.A) (hk : k + 1 ≤ j) : OpR X (compareOp .NotIn) (rCtO X.mg c (spOf X.K X.mg 2 sp) not) := by
  obtain ⟨C, g, fd, ps, hC, fe, fn, F, b⟩ := m.ex
  intro pins s σ H y x u v Q I ry rx h
  obtain ⟨C', a, dx, fs, hC', rfl, ha, q⟩ := h
  rw [hC] at hC'
  cases hC'
  obtain rfl : v = Value.ref a := rx
  obtain ⟨mA, O, _⟩ := ins_get I.hok ha
  obtain ⟨od, J, _⟩ := O.look
  obtain ⟨mm, Fm⟩ := I.fr
  refine PySem.W.notIn_K Fm I.ok.mod.kin J fe fn ?_
  refine wpAny_mono (run_fnAt (us := [.ref a, u]) (vs := [.ref a, y]) F (hr.mono (Nat.le_of_succ_le hk)) rfl b C8.pass0 I (.cons rfl (.cons ry .nil)) q) (fun r s' z => ?_) fun _ _ z => z
  obtain ⟨w, H', I', rw', bb, rfl, q'⟩ := z
  cases rw'
  exact wpAny_pure ⟨.bl (!bb), H', I', rfl, q'⟩
theorem opd_ctO {K : PySem.W.Frag} {mg : Str → Option Value} {Z : Zt} {g : Bool → Bool} : OpD K mg Z (rCtO mg c (spOf K mg 2 sp) g) (fCtO c sp g) := by
  intro I μ S H y x a b Q Φ ok ra rb q kp
  obtain ⟨q1, q⟩ := q
  obtain ⟨fs, q1⟩ := Option.isSome_iff_exists.mp q1
  obtain ⟨p1, C', dx, fv, rfl, hC', h1, _⟩ := atts_ok ok rb q1
  exact ⟨C', p1, dx, fv, hC', rfl, h1, rfl, [b, a], Z, I, μ, S, _, .cons rb (.cons ra .nil), ok, q, fun v d I' μ' S' H' e o r hq => by
    obtain ⟨bb, rfl, hq⟩ := hq
    exact ⟨bb, rp_bl r, kp _ _ I' μ' S' H' e o .bl hq⟩⟩
theorem cm_ctO (m : CtO X.prog X.w X.K X.mg X.base k c sp) (hr : Room j X.A) (hk : k + 1 ≤ j) : CmpR X .In (rCtO X.mg c (spOf X.K X.mg 2 sp) id) (fCtO c sp id) := ⟨or_ctO m hr hk, fun _ => opd_ctO⟩
theorem cm_nctO (m : CtO X.prog X.w X.K X.mg X.base k c sp) (hr : Room j X.A) (hk : k + 1 ≤ j) : CmpR X .NotIn (rCtO X.mg c (spOf X.K X.mg 2 sp) not) (fCtO c sp not) := ⟨or_nctO m hr hk, fun _ => opd_ctO⟩
end
structure DCt (K : PySem.W.Frag) (mg : Str → Option Value) (c ql : Str) (s : Stmt) (ps : List Str) : Prop where
  ex : ∃ (C f : Addr) (fd : FuncData), mg c = some (.ref C) ∧ PySem.W.findIn K (.ref C) "__contains__" = some (some (.ref f)) ∧ PySem.W.isFn K (.ref f) = true ∧ C8.Fun K "__contains__" ql s f fd ∧ Binds K fd ps []
theorem DCt.ct {P : Program} {w : World} {K : PySem.W.Frag} {mg : Str → Option Value} {base : Heap} {c ql : Str} {s : Stmt} {ps N : List Str} {k : Nat} {wb : WS} {sp : FSp} (d : DCt K mg c ql s ps) (h2 : ps.length = 2) (S : FnScope N ps (C8.fnScope s)) (b : Bd P w K mg base k N ql s wb) (law : LawD ps N wb sp) : CtO P w K mg base (k + 1) c sp := by
  obtain ⟨C, f, fd, hC, fe, fn, F, bi⟩ := d.ex
  exact ⟨C, f, fd, ps, hC, fe, fn, h2 ▸ fn_data F S b law, bi⟩
theorem DCt.of {K : PySem.W.Frag} {mg : Str → Option Value} {h : Heap} {c ql : Str} {s : Stmt} {ps : List Str} {f C : Addr} {oc kV dc pm cd ct : Value} {od an : Option Addr} {sl : Array (Option Value)} (X : K.In h) (G : h.Ns mainGlobals mg) (aC : PySem.W.nsIn K mainGlobals c = some (some (.ref C))) (a : PySem.W.findIn K (.ref C) "__contains__" = some (some (.ref f))) (i : PySem.W.isFn K (.ref f) = true)
    (l : K.lookup f = some ⟨oc, od, .func (PySem.W.fnOf "__contains__" ql (C8.fnArgs s) (C8.fnBody s) (C8.fnScope s) .none kV dc pm an cd ct), sl⟩) (hc : PySem.W.codeIn K cd ql = true) (b : Plain "__contains__" ql s ps) : DCt K mg c ql s ps :=
  ⟨C, f, _, PySem.W.mg_of X G aC, a, i, fun_of l hc, (fun_of l hc).binds rfl b⟩
/-! ### o[x], o an instance of an own class -/
structure GtX (P : Program) (w : World) (K : PySem.W.Frag) (mg : Str → Option Value) (base : Heap) (k : Nat) (c : Str) (sp : FSpX) : Prop where
  ex : ∃ (C g : Addr) (fd : FuncData) (ps : List Str), mg c = some (.ref C) ∧ PySem.W.fnIn K g = true ∧ PySem.W.findIn K (.ref C) "__getitem__" = some (some (.ref g)) ∧ PySem.W.isFn K (.ref g) = true ∧ FnOk P w K mg base (L2.CX P w) k g fd ps (spOfX K mg 2 sp) ∧ Binds K fd ps []
def wGtX (Ψ : Xk) (c : Str) (sp : FSpX) (wa wb : WE) : WE := fun ρ S Q => wa ρ S fun x S1 => wb ρ S1 fun y S2 => (atts S2 c x).isSome = true ∧ sp [x, y] S2 Q fun c fs S' => Ψ c fs ρ S'
theorem run_fnAtS {X : Cx} {k : Nat} {CX : CXT} {f : Addr} {fd : FuncData} {ps : List Str} {sp : Sp} {E : XK} {pins : List (Addr × Obj)} {σ : L2.St} {H : Hp} {s : Shared} {Q : VK} {us : List Value} {vs : List V} {A : Around} (F : FnOk X.prog X.w X.K X.mg X.base CX k f fd ps sp) (hr : Room k A) (fr : A.frames = X.A.frames)
    (hb : Binds X.K fd ps []) (hx : PassesAt CX X σ E) (I : Inv X pins σ H s) (r : Vals vs us) (h : sp vs H Q E) : wpAny (model X.prog X.w) A (call (.ref f) us) (EP X pins σ Q) X.xe s := by
  have hl := F.len _ _ _ _ h
  have e0 : Env0 X.prog X.w X.K X.mg X.base A X.stack s H := by
    have e := I.env0
    exact ⟨by rw [fr]; exact e.frames, e.mod, e.bs, e.bsz, e.funs, e.frf, e.hok, e.bare⟩
  refine wpAny_call (codeAny_mono (F.run A X.stack s H ⟨us, []⟩ us vs Q E hr e0 (by
    have := hb s us I.kIn (by rw [List.append_nil, ← r.length]; exact hl)
    rw [List.append_nil] at this
    exact this) r h) fun r s' hq => ?_)
  cases r with
  | error e => exact hx pins H s e s' I hq
  | ok fl =>
    cases fl with
    | ret u => exact I.after hq
    | next => exact False.elim hq
    | brk => exact False.elim hq
    | cont => exact False.elim hq
theorem se_gtX {X : Cx} {Γ : Gam} {k j : Nat} {c : Str} {sp : FSpX} {a b : Expr} {ta tb : TE} {wa wb : WE} {pos : Pos} (m : GtX X.prog X.w X.K X.mg X.base k c sp) (hr : Room j X.A) (hk : k + 1 ≤ j) (tk : Takes X Γ.W) (ha : SE X Γ a ta wa) (hb : SE X Γ b tb wb) (hs : ∀ o i, subscripted b true o i = runValue (.builtin "lifetime.subscript" ⟨[o, i], []⟩) := by intros; rfl) :
    SE X Γ (.Subscript a b pos) (tSemE X (.Subscript a b pos)) (wGtX Γ.Ψ c sp wa wb) := by
  obtain ⟨C, g, fd, ps, hC, ns, fi, fn, F, bi⟩ := m.ex
  refine ⟨pe_sem, fun Z lk σ ρ I μ S H Q Φ rs ok hw kp pins z J => ?_⟩
  refine Subscript_ (thn (run_d lk ha J rs ok hw) fun u z1 ⟨v, H1, d, I1, μ1, S1, J1, rv, e1, o1, r1, q1⟩ => thn (run_d lk hb J1 (rs.ext e1) o1 q1) fun u2 z2 ⟨v2, H2, d2, I2, μ2, S2, J2, rv2, e2, o2, r2, q2⟩ => ?_)
  obtain ⟨y1, q2⟩ := q2
  obtain ⟨fs, y1⟩ := Option.isSome_iff_exists.mp y1
  have r1' := r1.ext e2
  obtain ⟨p1, C1, dx, fv, rfl, hC1, h1, _⟩ := atts_ok o2 r1' y1
  rw [hC] at hC1
  cases hC1
  obtain rfl : u = Value.ref p1 := rv
  obtain ⟨mA, O, _⟩ := ins_get J2.hok h1
  obtain ⟨od, K1, _⟩ := O.look
  obtain ⟨mm, Fm⟩ := J2.fr
  refine PySem.W.sub_K Fm J2.ok.mod.kin K1 fi ns fn ?_ (hs _ _)
  refine run_fnAtS (A := X.A.in1) (E := L2.WE Γ.W σ) (us := [.ref p1, u2]) (vs := [.ref p1, v2]) F (hr.mono hk).in1 rfl bi (passAt tk σ) J2 (.cons rfl (.cons rv2 .nil)) ?_
  exact ⟨rfl, [d, d2], Z, I2, μ2, S2, Φ, _, .cons r1' (.cons r2 .nil), o2, q2, kp.ext (e1.trans e2), kx_of lk ((rs.ext e1).ext e2)⟩
structure DGt (K : PySem.W.Frag) (mg : Str → Option Value) (c ql : Str) (s : Stmt) (ps : List Str) : Prop where
  ex : ∃ (C f : Addr) (fd : FuncData), mg c = some (.ref C) ∧ PySem.W.fnIn K f = true ∧ PySem.W.findIn K (.ref C) "__getitem__" = some (some (.ref f)) ∧ PySem.W.isFn K (.ref f) = true ∧ C8.Fun K "__getitem__" ql s f fd ∧ Binds K fd ps []
theorem DGt.gtX {P : Program} {w : World} {K : PySem.W.Frag} {mg : Str → Option Value} {base : Heap} {c ql : Str} {s : Stmt} {ps N : List Str} {k : Nat} {wb : Xk → WS} {sp : FSpX} (d : DGt K mg c ql s ps) (h2 : ps.length = 2) (S : FnScope N ps (C8.fnScope s)) (b : BdX P w K mg base k N ql s wb) (law : LawX ps N wb sp) : GtX P w K mg base (k + 1) c sp := by
  obtain ⟨C, f, fd, hC, ns, fe, fn, F, bi⟩ := d.ex
  exact ⟨C, f, fd, ps, hC, ns, fe, fn, h2 ▸ fn_dataX F S b law, bi⟩
theorem DGt.of {K : PySem.W.Frag} {mg : Str → Option Value} {h : Heap} {c ql : Str} {s : Stmt} {ps : List Str} {f C : Addr} {oc kV dc pm cd ct : Value} {od an : Option Addr} {sl : Array (Option Value)} (X : K.In h) (G : h.Ns mainGlobals mg) (aC : PySem.W.nsIn K mainGlobals c = some (some (.ref C))) (ns : PySem.W.fnIn K f = true) (a : PySem.W.findIn K (.ref C) "__getitem__" = some (some (.ref f))) (i : PySem.W.isFn K (.ref f) = true)
    (l : K.lookup f = some ⟨oc, od, .func (PySem.W.fnOf "__getitem__" ql (C8.fnArgs s) (C8.fnBody s) (C8.fnScope s) .none kV dc pm an cd ct), sl⟩) (hc : PySem.W.codeIn K cd ql = true) (b : Plain "__getitem__" ql s ps) : DGt K mg c ql s ps :=
  ⟨C, f, _, PySem.W.mg_of X G aC, ns, a, i, fun_of l hc, (fun_of l hc).binds rfl b⟩
/-! ### xs.count(text) -/
def fCnt (S : Sto) (x : D) (as : List D) (Q : D → Sto → Prop) : Prop := match view S x, as with
  | .lst ds, [.str s] => onS (strsD ds) fun ys => Q (.int (ys.countP (· = s) : Nat)) S
  | _, _ => False
end Sq

set_option Elab.async false
set_option maxRecDepth 100000
set_option maxHeartbeats 4000000
set_option linter.all false
/-! Dicts made by comprehensions and displays; counts; zips; locks. -/
namespace Sq
open PySem PySem.Spec PyProof.Rows L2
/-- what stood beside is in the store from now on -/
theorem Ok.beside_into {K : PySem.W.Frag} {mg : Str → Option Value} {Z : Zt} {I : Hp} {μ : List Addr} {S : Sto} {H : Hp} {p : Addr} {u : HO} {m : M} (o : Ok K mg (Z.up p u) I μ S H) (hz : Z.z p = none) (hm : MOk K mg I (μ ++ [p]) H p m) : Ok K mg Z I (μ ++ [p]) (S ++ [m]) H := by
  obtain ⟨hp, hi, hmu⟩ := o.fra p u upd_same
  have inv : ∀ b x, Z.z b = some x → b ≠ p := fun b x e => ne_of_none e hz
  refine ⟨fun b x e => ?_, Z.cl _ _ _ _ Ext.push o.gnd, o.sub, by simp [o.len], ?_, fun n b m' hb hm' => ?_⟩
  · obtain ⟨x1, x2, x3⟩ := o.fra b x (by show upd Z.z p _ b = some x; rw [upd_ne (inv b x e)]; exact e)
    refine ⟨x1, x2, fun z => ?_⟩
    rcases List.mem_append.mp z with z | z
    · exact x3 z
    · simp at z; exact inv b x e z
  · refine List.nodup_append.mpr ⟨o.nd, by simp, fun b hb c hc z => ?_⟩
    simp at hc
    subst hc z
    exact hmu hb
  · by_cases hn : n < μ.length
    · rw [List.getElem?_append_left hn] at hb
      rw [List.getElem?_append_left (by rw [← o.len]; exact hn)] at hm'
      exact (o.ob n b m' hb hm').ext Ext.push rfl fun _ i => i
    · have hl : n < (μ ++ [p]).length := (List.getElem?_eq_some_iff.mp hb).1
      have e : n = μ.length := by simp at hl; omega
      subst e
      rw [List.getElem?_append_right (Nat.le_refl _)] at hb
      rw [List.getElem?_append_right (by rw [o.len]; exact Nat.le_refl _)] at hm'
      simp [o.len] at hb hm'
      subst hb hm'
      exact hm
/-! ### {k: v for x in it} -/
def compK (g : WG) (wt : WT) (wk wv : WE) (ρ : Ro) (Q : List (Key × D) → Sto → Prop) : List D → List (Key × D) → Sto → Prop
  | [], acc, S => Q acc S
  | d :: ds, acc, S => g d ρ S fun ρ1 S1 => wt ρ1 S1 fun b S2 => if b = true then wk ρ1 S2 fun y S3 => wv ρ1 S3 fun z S4 => onS (keyD y) fun k => acc.length < LIM ∧ compK g wt wk wv ρ Q ds (putD acc k z) S4
    else compK g wt wk wv ρ Q ds acc S2
def wDc (wi : WA) (g : WG) (wt : WT) (wk wv : WE) (vs : List Nat) : WE := fun ρ S Q => wi ρ S fun ds S1 => compK g wt wk wv (wp ρ vs) (fun acc S2 => Q (.h S2.length) (S2 ++ [.dct acc])) ds [] S1
section
variable {X : Cx} {Γ : Gam} {kx vx tg iter : Expr} {ifs : List Expr} {scope : Scope} {own : List (Str × Nat)} {pos : Pos} {wi : TI} {wa : WA} {g : TG} {wg : WG} {tt : TT} {wt : WT} {tk tv : TE} {wk wv : WE}
theorem sim_dc {K : PySem.W.Frag} {mg : Str → Option Value} {vs : List Nat}
    {Z : Zt} (hi : ∀ (σ : L2.St) (ρ : Ro) (I : Hp) (μ : List Addr) (S : Sto) (H : Hp) (R : It → Hp → Prop) (Φ : List D → Sto → Prop), RpS K mg I μ σ ρ → Ok K mg Z I μ S H → wa ρ S Φ → Kd K mg Z I μ Φ R → wi σ H R)
    (hg : ∀ Z, SimW K mg Z vs g wg) (ht : ∀ Z, SimT K mg Z tt wt) (hk : ∀ Z, Sim K mg Z tk wk) (hv : ∀ Z, Sim K mg Z tv wv) : Sim K mg Z (tDc wi g tt tk tv vs) (wDc wa wg wt wk wv vs) := by
  intro σ ρ I μ S H Q Φ rs ok h k
  refine hi σ ρ I μ S H _ _ rs ok h fun J ds I1 μ1 S1 H1 e1 o1 dr q1 => ?_
  intro D hD
  have hZD : Z.z D = none := by
    cases q : Z.z D with
    | none => rfl
    | some u => have := (o1.fra D u q).1; rw [hD] at this; cases this
  have rsw : RpS K mg I1 μ1 (wipe σ vs) (wp ρ vs) := rps_wipe (rs.ext e1) vs
  refine ⟨fun i m H' => m = ds.length - i ∧ i ≤ ds.length ∧ ∃ accV accD I' μ' S', Ext I1 μ1 I' μ' ∧ Ok K mg (Z.up D (.dK accV)) I' μ' S' H' ∧ RpK K mg I' μ' accV accD ∧
      compK wg wt wk wv (wp ρ vs) (fun acc S2 => Φ (.h S2.length) (S2 ++ [.dct acc])) (ds.drop i) accD S',
    ⟨ds.length, by simp, Nat.zero_le _, [], [], I1, μ1, S1, .refl, o1.beside hD, .nil, by simpa using q1⟩, ?_⟩
  rintro i m H' ⟨rfl, hil, accV, accD, I', μ', S', e', o', ra, q'⟩
  by_cases hlt : i < ds.length
  · have hd : ds[i]? = some ds[i] := List.getElem?_eq_getElem hlt
    rw [List.drop_eq_getElem_cons hlt] at q'
    refine .inr ⟨dr.go _ i I' μ' S' H' e' o' hlt, fun H2 => ∃ accV accD I2 μ2 S2, Ext I1 μ1 I2 μ2 ∧ Ok K mg (Z.up D (.dK accV)) I2 μ2 S2 H2 ∧ RpK K mg I2 μ2 accV accD ∧
      compK wg wt wk wv (wp ρ vs) (fun acc S2 => Φ (.h S2.length) (S2 ++ [.dct acc])) (ds.drop (i + 1)) accD S2, fun H2 y => ⟨ds.length - (i + 1), by omega, rfl, hlt, y⟩, fun x H2 y => ?_⟩
    obtain ⟨I2, e2, o2, r2⟩ := dr.yld _ i _ I' μ' S' H' x H2 e' o' hd y
    refine hg _ x _ (wipe σ vs) σ (wp ρ vs) I2 μ' S' H2 _ _ r2 (wipe_twice σ vs) (rsw.ext (e'.trans e2)) o2 q' fun σ3 ρ3 I3 μ3 S3 H3 e3 rs3 o3 q3 => ?_
    refine ht _ σ3 ρ3 I3 μ3 S3 H3 _ _ rs3 o3 q3 fun b I4 μ4 S4 H4 e4 o4 q4 => ?_
    have e14 : Ext I1 μ1 I4 μ4 := ((e'.trans e2).trans e3).trans e4
    cases b with
    | true =>
      rw [if_pos rfl] at q4 ⊢
      refine hk _ σ3 ρ3 I4 μ4 S4 H4 _ _ (rs3.ext e4) o4 q4 fun y d I5 μ5 S5 H5 e5 o5 r5 q5 => ?_
      refine hv _ σ3 ρ3 I5 μ5 S5 H5 _ _ ((rs3.ext e4).ext e5) o5 q5 fun w d2 I6 μ6 S6 H6 e6 o6 r6 q6 => ?_
      obtain ⟨key, ek, q6⟩ := onS_iff q6
      have ra6 : RpK K mg I6 μ6 accV accD := ra.ext ((((e2.trans e3).trans e4).trans e5).trans e6)
      exact ⟨accV, key, keyD_rp r5 ek, (o6.fra D _ upd_same).1, lim_lt (by rw [ra6.len]; exact q6.1), putK accV key w, putD accD key d2, I6, μ6, S6, (e14.trans e5).trans e6, o6.beside_put, RpK.put r6 ra6, q6.2⟩
    | false =>
      rw [if_neg Bool.false_ne_true] at q4 ⊢
      exact ⟨accV, accD, I4, μ4, S4, e14, o4, ra.ext ((e2.trans e3).trans e4), q4⟩
  · have hi' : i = ds.length := by omega
    subst hi'
    rw [List.drop_length] at q'
    refine .inl ⟨dr.stop _ I' μ' S' H' e' o', ?_⟩
    obtain ⟨hp, hi2, hmu⟩ := o'.fra D _ upd_same
    exact k (.ref D) (.h S'.length) I' (μ' ++ [D]) (S' ++ [M.dct accD]) H' ((e1.trans e').trans Ext.push) (o'.beside_into hZD ⟨hi2, accV, hp, ra.ext Ext.push⟩) (.h (mu_last o' D)) (by simpa [compK] using q')
theorem se_dc (hc : X.calm = true) (hN : X.N.Nodup) (hi : SI X Γ tg iter wi wa) (ok : BlkOk X.N X.env.scope scope own) (hg : SB X scope (own.map (·.2)) tg g wg) (ht : SF X scope ifs tt wt) (hk : SX X scope kx tk wk) (hv : SX X scope vx tv wv) (hs : ∀ x, foldedSetIterable iter X.env x = pure x := by intro _; rfl) :
    SE X Γ (.DictComp kx vx [⟨tg, iter, ifs, 0⟩] scope pos) (tDc wi g tt tk tv (own.map (·.2))) (wDc wa wg wt wk wv (own.map (·.2))) :=
  ⟨pe_dc hc hN hi.pi ok hg.pg ht.pt hk.pe hv.pe hs, fun Z lk => sim_dc (hi.si Z lk) hg.si ht.si hk.si hv.si⟩
end
/-! ### {k: v, ..} -/
def wPairs : List (WE × WE) → Ro → Sto → (List (D × D) → Sto → Prop) → Prop
  | [], _, S, Q => Q [] S
  | (wk, wv) :: r, ρ, S, Q => wk ρ S fun x S1 => wv ρ S1 fun y S2 => wPairs r ρ S2 fun ps S3 => Q ((x, y) :: ps) S3
def keyed : List (D × D) → Option (List (Key × D))
  | [] => some []
  | (x, y) :: r => match keyD x, keyed r with
    | some k, some t => some ((k, y) :: t)
    | _, _ => none
def mergeD (kd more : List (Key × D)) : List (Key × D) := more.foldl (fun acc e => putD acc e.1 e.2) kd
def wDisp (ps : List (WE × WE)) : WE := fun ρ S Q => wPairs ps ρ S fun l S1 => onS (keyed l) fun kd => kd.length ≤ 15 ∧ Q (.h S1.length) (S1 ++ [.dct (mergeD [] kd)])
inductive RpP (K : PySem.W.Frag) (mg : Str → Option Value) (I : Hp) (μ : List Addr) : List (V × V) → List (D × D) → Prop
  | nil : RpP K mg I μ [] []
  | cons {x y : V} {a b : D} {l : List (V × V)} {m : List (D × D)} : Rp K mg I μ x a → Rp K mg I μ y b → RpP K mg I μ l m → RpP K mg I μ ((x, y) :: l) ((a, b) :: m)
section
variable {K : PySem.W.Frag} {mg : Str → Option Value} {I I' : Hp} {μ μ' : List Addr}
theorem RpP.ext {l : List (V × V)} {m : List (D × D)} (h : RpP K mg I μ l m) (e : Ext I μ I' μ') : RpP K mg I' μ' l m := by
  induction h with
  | nil => exact .nil
  | cons a b _ ih => exact .cons (a.ext e) (b.ext e) ih
theorem RpP.keyed {l : List (V × V)} {m : List (D × D)} (h : RpP K mg I μ l m) : ∀ {kd : List (Key × D)}, Sq.keyed m = some kd → ∃ kv, l = kv.map (fun e => (kV e.1, e.2)) ∧ RpK K mg I μ kv kd := by
  induction h with
  | nil => intro kd e; cases e; exact ⟨[], rfl, .nil⟩
  | cons a b _ ih =>
    intro kd e
    unfold Sq.keyed at e
    split at e
    · rename_i k t e1 e2
      cases e
      obtain ⟨kv, rfl, r⟩ := ih e2
      refine ⟨(k, _) :: kv, ?_, .cons b r⟩
      rw [List.map_cons, keyD_rp a e1]
    · cases e
theorem RpK.merge {kv kv' : List (Key × V)} {kd kd' : List (Key × D)} (r : RpK K mg I μ kv kd) (r' : RpK K mg I μ kv' kd') : RpK K mg I μ (mergeK kv kv') (mergeD kd kd') := by
  induction kd' generalizing kv kd kv' with
  | nil => cases r'; exact r
  | cons e kd' ih =>
    cases r' with
    | @cons key v d vs ds h t =>
      show RpK K mg I μ (mergeK (putK kv key v) vs) (mergeD (putD kd key d) kd')
      exact ih (RpK.put h r) t
end
structure SPs (X : Cx) (Γ : Gam) (pos : Pos) (keys : List (Option Expr)) (values : List Expr) (trs : List (TE × TE)) (ws : List (WE × WE)) : Prop where
  pp : PPs X pos keys values trs
  si : ∀ Z : Zt, Lk X Γ Z → ∀ (σ : L2.St) (ρ : Ro) (I : Hp) (μ : List Addr) (S : Sto) (H : Hp) (Q : List (V × V) → Hp → Prop) (Φ : List (D × D) → Sto → Prop), RpS X.K X.mg I μ σ ρ → Ok X.K X.mg Z I μ S H → wPairs ws ρ S Φ →
    (∀ l m I' μ' S' H', Ext I μ I' μ' → Ok X.K X.mg Z I' μ' S' H' → RpP X.K X.mg I' μ' l m → Φ m S' → Q l H') → tPairs trs σ H Q
section
variable {X : Cx} {Γ : Gam} {pos : Pos} {k v : Expr} {ks : List (Option Expr)} {vs : List Expr} {tk tv : TE} {wk wv : WE} {trs : List (TE × TE)} {ws : List (WE × WE)}
theorem sps_nil : SPs X Γ pos [] [] [] [] := ⟨pps_nil, fun Z lk σ ρ I μ S H Q Φ rs ok h k => k [] [] I μ S H .refl ok .nil h⟩
theorem sps_cons (hk : SE X Γ k tk wk) (hv : SE X Γ v tv wv) (hr : SPs X Γ pos ks vs trs ws) : SPs X Γ pos (some k :: ks) (v :: vs) ((tk, tv) :: trs) ((wk, wv) :: ws) :=
  ⟨pps_cons hk.pe hv.pe hr.pp, fun Z lk σ ρ I μ S H Q Φ rs ok h k => hk.si Z lk σ ρ I μ S H _ _ rs ok h fun x a I1 μ1 S1 H1 e1 o1 r1 q1 => hv.si Z lk σ ρ I1 μ1 S1 H1 _ _ (rs.ext e1) o1 q1 fun y b I2 μ2 S2 H2 e2 o2 r2 q2 =>
    hr.si Z lk σ ρ I2 μ2 S2 H2 _ _ ((rs.ext e1).ext e2) o2 q2 fun l m I3 μ3 S3 H3 e3 o3 r3 q3 => k _ _ I3 μ3 S3 H3 ((e1.trans e2).trans e3) o3 (.cons (r1.ext (e2.trans e3)) (r2.ext e3) r3) q3⟩
theorem se_disp (h : SPs X Γ pos ks vs trs ws) (hall : ks.all (·.isSome) = true := by rfl) (hl : ks.length = vs.length := by rfl) (h0 : ks ≠ [] := by exact fun z => nomatch z) (h15 : ks.length ≤ 15 := by decide) : SE X Γ (.Dict ks vs pos) (tDisp trs) (wDisp ws) :=
  ⟨pe_disp h.pp hall hl h0 h15, fun Z lk σ ρ I μ S H Q Φ rs ok hw k => by
    unfold tDisp
    intro p hp
    have hZ : Z.z p = none := by
      cases q : Z.z p with
      | none => rfl
      | some u => have := (ok.fra p u q).1; rw [hp] at this; cases this
    have o0 : Ok X.K X.mg (Z.up p (.dK [])) I μ S (upd H p (.dK [])) := ok.beside hp
    have lk' : Lk X Γ (Z.up p (.dK [])) := fun c fs cls d σ ρ I μ S H o => lk c fs cls d σ ρ I μ S H (o.drop hZ)
    refine h.si _ lk' σ ρ I μ S _ _ _ rs o0 hw fun l m I1 μ1 S1 H1 e1 o1 r1 q1 => ?_
    obtain ⟨kd, ek, hl, q1⟩ := onS_iff q1
    obtain ⟨kv, rfl, rk⟩ := r1.keyed ek
    obtain ⟨hp1, hi, hmu⟩ := o1.fra p _ upd_same
    refine ⟨hp1, kv, rfl, by rw [rk.len]; exact hl, ?_⟩
    have o2 : Ok X.K X.mg (Z.up p (.dK (mergeK [] kv))) I1 μ1 S1 (upd H1 p (.dK (mergeK [] kv))) := o1.beside_put
    have rm : RpK X.K X.mg I1 μ1 (mergeK [] kv) (mergeD [] kd) := RpK.merge .nil rk
    exact k (.ref p) (.h S1.length) I1 (μ1 ++ [p]) (S1 ++ [M.dct (mergeD [] kd)]) _ (e1.trans Ext.push) (o2.beside_into hZ ⟨hi, _, upd_same, rm.ext Ext.push⟩) (.h (mu_last o1 p)) q1⟩
end
end Sq

set_option Elab.async false
set_option maxRecDepth 100000
set_option maxHeartbeats 4000000
set_option linter.all false
/-! Counts; zips; locks. -/
namespace Sq
open PySem PySem.Spec PyProof.Rows L2
/-! ### zip -/
def zipD (xs ys : List D) : List D := List.zipWith (fun a b => D.tup [a, b]) xs ys
theorem zipD_get {xs ys : List D} {i : Nat} {d : D} (h : (zipD xs ys)[i]? = some d) : ∃ a b, xs[i]? = some a ∧ ys[i]? = some b ∧ d = .tup [a, b] := by
  unfold zipD at h
  rw [List.getElem?_zipWith] at h
  cases e1 : xs[i]? with
  | none => rw [e1] at h; simp at h
  | some a =>
    cases e2 : ys[i]? with
    | none => rw [e1, e2] at h; simp at h
    | some b => rw [e1, e2] at h; simp at h; exact ⟨a, b, rfl, rfl, h.symm⟩
section
variable {K : PySem.W.Frag} {mg : Str → Option Value} {I : Hp} {μ : List Addr} {a b : Addr} {vs ws : List V} {xs ys : List D}
theorem drw_zipL (ha : I a = some (.lst vs)) (hb : I b = some (.lst ws)) (ra : RpL K mg I μ vs xs) (rb : RpL K mg I μ ws ys) : Drw K mg (Itz K a b) I μ (zipD xs ys) where
  go := fun Z i I' μ' S H e o hi => by
    have l1 := ra.length
    have l2 := rb.length
    simp [zipD] at hi
    exact ⟨vs, ws, vs[i]'(by omega), ws[i]'(by omega), SqL.of (o.sub _ _ (e.hp _ _ ha)), SqL.of (o.sub _ _ (e.hp _ _ hb)), List.getElem?_eq_getElem _, List.getElem?_eq_getElem _⟩
  yld := fun Z i d I' μ' S H x H' e o hd y => by
    obtain ⟨T, x1, y1, rfl, hT, rfl, f1, f2⟩ := y
    obtain ⟨d1, d2, e1, e2, rfl⟩ := zipD_get hd
    obtain ⟨d1', g1, r1⟩ := ra.getV (f1 vs (SqL.of (o.sub _ _ (e.hp _ _ ha))))
    obtain ⟨d2', g2, r2⟩ := rb.getV (f2 ws (SqL.of (o.sub _ _ (e.hp _ _ hb))))
    rw [e1] at g1
    rw [e2] at g2
    cases g1
    cases g2
    have hi := free_of o.sub hT
    exact ⟨_, Ext.new hi, o.new hT, .tup (SqT.of upd_same) (.cons ((r1.ext e).ext (Ext.new hi)) (.cons ((r2.ext e).ext (Ext.new hi)) .nil))⟩
  stop := fun Z I' μ' S H e o => by
    have l1 := ra.length
    have l2 := rb.length
    refine ⟨vs, ws, SqL.of (o.sub _ _ (e.hp _ _ ha)), SqL.of (o.sub _ _ (e.hp _ _ hb)), ?_⟩
    simp only [zipD, List.length_zipWith]
    omega
theorem drw_zipT (ha : SqT K I a vs) (hb : SqT K I b ws) (ra : RpL K mg I μ vs xs) (rb : RpL K mg I μ ws ys) : Drw K mg (RZ.ItzT K a b) I μ (zipD xs ys) where
  go := fun Z i I' μ' S H e o hi => by
    have l1 := ra.length
    have l2 := rb.length
    simp [zipD] at hi
    exact ⟨vs, ws, vs[i]'(by omega), ws[i]'(by omega), same_t o.sub (same_t e.hp ha), same_t o.sub (same_t e.hp hb), List.getElem?_eq_getElem _, List.getElem?_eq_getElem _⟩
  yld := fun Z i d I' μ' S H x H' e o hd y => by
    obtain ⟨T, x1, y1, rfl, hT, rfl, f1, f2⟩ := y
    obtain ⟨d1, d2, e1, e2, rfl⟩ := zipD_get hd
    obtain ⟨d1', g1, r1⟩ := ra.getV (f1 vs (same_t o.sub (same_t e.hp ha)))
    obtain ⟨d2', g2, r2⟩ := rb.getV (f2 ws (same_t o.sub (same_t e.hp hb)))
    rw [e1] at g1
    rw [e2] at g2
    cases g1
    cases g2
    have hi := free_of o.sub hT
    exact ⟨_, Ext.new hi, o.new hT, .tup (SqT.of upd_same) (.cons ((r1.ext e).ext (Ext.new hi)) (.cons ((r2.ext e).ext (Ext.new hi)) .nil))⟩
  stop := fun Z I' μ' S H e o => by
    have l1 := ra.length
    have l2 := rb.length
    refine ⟨vs, ws, same_t o.sub (same_t e.hp ha), same_t o.sub (same_t e.hp hb), ?_⟩
    simp only [zipD, List.length_zipWith]
    omega
end
def wZip (wa : WA) : WA := fun ρ S Q => wa ρ S fun ds S1 => match ds with
  | [.lst xs, .lst ys] => Q (zipD xs ys) S1
  | [.tup xs, .tup ys] => Q (zipD xs ys) S1
  | _ => False
theorem si_zip {X : Cx} {Γ : Gam} {e e2 : Expr} {ta : TA} {wa : WA} {p pos tpos : Pos} {elts : List Expr} {kk : Nat} (hm : X.mg "zip" = none) (ha : SA X Γ [e, e2] ta wa) (hg : Gl X "zip" := by rfl)
    (hs : starEach [e, e2] X.env = (false, eval e X.env) :: starEach [e2] X.env := by rfl) (hpl : (backTo pos (starEach [e2] X.env)).any (·.1) = false := by rfl) :
    SI X Γ (.Tuple elts kk tpos) (.Call (.Name "zip" p) [e, e2] [] pos) (RZ.iZipA X.K ta) (wZip wa) :=
  ⟨RZ.pi_zipA hg hm ha.pa hs hpl, fun Z lk σ ρ I μ S H R Φ rs ok hw k => ha.si Z lk σ ρ I μ S H _ _ rs ok hw fun vs ds I1 μ1 S1 H1 e1 o1 r1 q1 => by
    split at q1
    · rename_i xs ys
      cases r1 with
      | cons ra t =>
        cases t with
        | cons rb t =>
          cases t
          cases ra with
          | lst h1 l1 =>
            cases rb with
            | lst h2 l2 => exact ⟨_, _, _, _, rfl, .inl ⟨SqL.of (o1.sub _ _ h1), SqL.of (o1.sub _ _ h2), k _ _ I1 μ1 S1 H1 e1 o1 (drw_zipL h1 h2 l1 l2) q1⟩⟩
    · rename_i xs ys
      cases r1 with
      | cons ra t =>
        cases t with
        | cons rb t =>
          cases t
          cases ra with
          | tup h1 l1 =>
            cases rb with
            | tup h2 l2 => exact ⟨_, _, _, _, rfl, .inr ⟨same_t o1.sub h1, same_t o1.sub h2, k _ _ I1 μ1 S1 H1 e1 o1 (drw_zipT h1 h2 l1 l2) q1⟩⟩
    · exact q1.elim⟩
/-! ### a dict in the store is locked while an expression runs -/
def wLock (w : WE) : WE := fun ρ S Q => ∃ n kd, S[n]? = some (.dct kd) ∧ ∀ o, w ρ (S.set n (.lck o kd)) fun d S2 => S2[n]? = some (.lck o kd) ∧ Q d (S2.set n (.dct kd))
theorem se_lock {X : Cx} {Γ : Gam} {e : Expr} {te : TE} {w : WE} (h : SE X G0 e te w) : SE X Γ e (tLockE te) (wLock w) :=
  ⟨pe_lock h.pe, fun Z lk σ ρ I μ S H Q Φ rs ok hw k => by
    obtain ⟨n, kd, hS, hw⟩ := hw
    obtain ⟨a, ha, hi, kv, hv, rk⟩ := ok.at hS
    refine ⟨a, .dK kv, hv, trivial, fun od => ?_⟩
    have o1 : Ok X.K X.mg Z I μ (S.set n (.lck (.frz od (.dK kv)) kd)) (upd H a (.frz od (.dK kv))) := ok.put ha hi ⟨hi, upd_same, od, kv, rfl, rk⟩
    refine h.si Z Lk.zero σ ρ I μ _ _ _ _ rs o1 (hw (.frz od (.dK kv))) fun v d I1 μ1 S1 H1 e1 o2 r1 q1 => ?_
    obtain ⟨hS1, q1⟩ := q1
    obtain ⟨a', ha', hi', hH', od', kv', e0, rk'⟩ := o2.at hS1
    rw [e1.mu _ _ ha] at ha'
    cases ha'
    cases e0
    exact ⟨hH', k v d I1 μ1 _ _ e1 (o2.put (m := .dct kd) (e1.mu _ _ ha) hi' ⟨hi', kv, upd_same, rk'⟩) r1 q1⟩⟩
/-- a comprehension over a dict that is locked -/
def compL (n : Nat) (o : HO) (kd : List (Key × D)) (g : WG) (wt : WT) (we : WE) (ρ : Ro) (Q : List D → Sto → Prop) : List D → List D → Sto → Prop
  | [], acc, S => S[n]? = some (.lck o kd) ∧ Q acc S
  | d :: ds, acc, S => S[n]? = some (.lck o kd) ∧ g d ρ S fun ρ1 S1 => wt ρ1 S1 fun b S2 => if b = true then we ρ1 S2 fun y S3 => acc.length < LIM ∧ compL n o kd g wt we ρ Q ds (acc ++ [y]) S3 else compL n o kd g wt we ρ Q ds acc S2
def wLcK (wd : WE) (g : WG) (wt : WT) (we : WE) (vs : List Nat) : WE := fun ρ S Q => wd ρ S fun d S1 => match d with
  | .h n => match S1[n]? with
    | some (.lck o kd) => compL n o kd g wt we (wp ρ vs) (fun acc S2 => Q (.lst acc) S2) (keysD kd) [] S1
    | _ => False
  | _ => False
section
variable {X : Cx} {Γ : Gam} {elt tg iter : Expr} {ifs : List Expr} {scope : Scope} {own : List (Str × Nat)} {pos : Pos} {td : TE} {wd : WE} {g : TG} {wg : WG} {tt : TT} {wt : WT} {te : TE} {we : WE}
theorem sim_lcK {K : PySem.W.Frag} {mg : Str → Option Value} {vs : List Nat} {Z : Zt} (hd : Sim K mg Z td wd) (hg : ∀ Z, SimW K mg Z vs g wg) (ht : ∀ Z, SimT K mg Z tt wt) (he : ∀ Z, Sim K mg Z te we) : Sim K mg Z (tLc (iKeys td) g tt te vs) (wLcK wd wg wt we vs) := by
  intro σ ρ I μ S H Q Φ rs ok h k
  refine hd σ ρ I μ S H _ _ rs ok h fun v d I1 μ1 S1 H1 e1 o1 r1 q1 => ?_
  split at q1
  · rename_i n
    split at q1
    · rename_i o kd hS
      cases r1 with
      | h hn =>
        rename_i a
        obtain ⟨hi, hH, od, kv, rfl, rk⟩ := o1.ob n a _ hn hS
        refine ⟨a, od, rfl, .inl ⟨kv, hH, ?_⟩⟩
        have hl := rk.len
        have lk : (keysD kd).length = kv.length := by simp [keysD, hl]
        have look : ∀ {Z : Zt} {I' μ' S' H'}, Ext I1 μ1 I' μ' → Ok K mg Z I' μ' S' H' → S'[n]? = some (.lck (.frz od (.dK kv)) kd) → H' a = some (.frz od (.dK kv)) := fun e o hS => (o.ob n a _ (e.mu _ _ hn) hS).2.1
        intro D hD
        have hZD : Z.z D = none := by
          cases q : Z.z D with
          | none => rfl
          | some u => have := (o1.fra D u q).1; rw [hD] at this; cases this
        have rsw : RpS K mg I1 μ1 (wipe σ vs) (wp ρ vs) := rps_wipe (rs.ext e1) vs
        refine ⟨fun i m H' => m = (keysD kd).length - i ∧ i ≤ (keysD kd).length ∧ ∃ accV accD I' μ' S', Ext I1 μ1 I' μ' ∧ Ok K mg (Z.up D (.lst accV)) I' μ' S' H' ∧ RpL K mg I' μ' accV accD ∧
            compL n (.frz od (.dK kv)) kd wg wt we (wp ρ vs) (fun acc S2 => Φ (.lst acc) S2) ((keysD kd).drop i) accD S',
          ⟨(keysD kd).length, by simp, Nat.zero_le _, [], [], I1, μ1, S1, .refl, o1.beside hD, .nil, by simpa using q1⟩, ?_⟩
        rintro i m H' ⟨rfl, hil, accV, accD, I', μ', S', e', o', ra, q'⟩
        by_cases hlt : i < (keysD kd).length
        · have hd : (keysD kd)[i]? = some (keysD kd)[i] := List.getElem?_eq_getElem hlt
          rw [List.drop_eq_getElem_cons hlt] at q'
          obtain ⟨hS', q'⟩ := q'
          refine .inr ⟨⟨look e' o' hS', by omega⟩, fun H2 => ∃ accV accD I2 μ2 S2, Ext I1 μ1 I2 μ2 ∧ Ok K mg (Z.up D (.lst accV)) I2 μ2 S2 H2 ∧ RpL K mg I2 μ2 accV accD ∧
            compL n (.frz od (.dK kv)) kd wg wt we (wp ρ vs) (fun acc S2 => Φ (.lst acc) S2) ((keysD kd).drop (i + 1)) accD S2, fun H2 y => ⟨(keysD kd).length - (i + 1), by omega, rfl, hlt, y⟩, fun x H2 y => ?_⟩
          obtain ⟨rfl, key, w, hk, rfl⟩ := y
          obtain ⟨d', e2, _⟩ := rk.getV hk
          have ek : (keysD kd)[i] = kD key := by
            have : (keysD kd)[i]? = some (kD key) := by unfold keysD; rw [List.getElem?_map, e2]; rfl
            rw [hd] at this
            exact Option.some.inj this
          rw [ek] at q'
          refine hg _ _ _ (wipe σ vs) σ (wp ρ vs) I' μ' S' _ _ _ (kD_rp key) (wipe_twice σ vs) (rsw.ext e') o' q' fun σ3 ρ3 I3 μ3 S3 H3 e3 rs3 o3 q3 => ?_
          refine ht _ σ3 ρ3 I3 μ3 S3 H3 _ _ rs3 o3 q3 fun b I4 μ4 S4 H4 e4 o4 q4 => ?_
          have e14 : Ext I1 μ1 I4 μ4 := (e'.trans e3).trans e4
          cases b with
          | true =>
            rw [if_pos rfl] at q4 ⊢
            refine he _ σ3 ρ3 I4 μ4 S4 H4 _ _ (rs3.ext e4) o4 q4 fun w d I5 μ5 S5 H5 e5 o5 r5 q5 => ?_
            have ra5 : RpL K mg I5 μ5 accV accD := ra.ext ((e3.trans e4).trans e5)
            exact ⟨accV, (o5.fra D _ upd_same).1, lim_lt (by rw [ra5.length]; exact q5.1), accV ++ [w], accD ++ [d], I5, μ5, S5, e14.trans e5, o5.beside_put, ra5.append (.cons r5 .nil), q5.2⟩
          | false =>
            rw [if_neg Bool.false_ne_true] at q4 ⊢
            exact ⟨accV, accD, I4, μ4, S4, e14, o4, ra.ext (e3.trans e4), q4⟩
        · have hi' : i = (keysD kd).length := by omega
          subst hi'
          rw [List.drop_length] at q'
          obtain ⟨hS', q'⟩ := q'
          refine .inl ⟨⟨look e' o' hS', by omega⟩, ?_⟩
          have hi2 := (o'.fra D _ upd_same).2.1
          exact k _ _ (upd I' D (.lst accV)) μ' S' H' ((e1.trans e').trans (Ext.new hi2)) (o'.beside_new hZD) (.lst upd_same (ra.ext (Ext.new hi2))) q'
    · exact q1.elim
  · exact q1.elim
theorem se_lcK (hc : X.calm = true) (hN : X.N.Nodup) (hd : SE X Γ iter td wd) (ok : BlkOk X.N X.env.scope scope own) (hg : SB X scope (own.map (·.2)) tg g wg) (ht : SF X scope ifs tt wt) (he : SX X scope elt te we) (hs : ∀ x, foldedSetIterable iter X.env x = pure x := by intro _; rfl) :
    SE X Γ (.ListComp elt [⟨tg, iter, ifs, 0⟩] scope pos) (tLc (iKeys td) g tt te (own.map (·.2))) (wLcK wd wg wt we (own.map (·.2))) :=
  ⟨pe_lc hc hN (pi_keys hd.pe) ok hg.pg ht.pt he.pe hs, fun Z lk => sim_lcK (hd.si Z lk) hg.si ht.si he.si⟩
end
end Sq

set_option Elab.async false
set_option maxRecDepth 100000
set_option maxHeartbeats 4000000
set_option linter.all false
/-! Counts of texts; statements under a lock. -/
namespace Sq
open PySem PySem.Spec PyProof.Rows L2
section
variable {X : Cx} {Γ : Gam} {o e : Expr} {es : List Expr} {to te : TE} {wo we : WE} {apos cpos : Pos}
def rCntS (K : PySem.W.Frag) : V → List V → Hp → VK → Prop := fun x xs H Q => ∃ (p : Addr) (ys : List Str) (k : Str), x = .ref p ∧ xs = [.str k] ∧ SqL K H p (ys.map V.str) ∧ Q (.int (countIn (.str k) (ys.map PyData.str))) H
theorem mt_scount : MtR X "list.count" (rCntS X.K) := by
  intro pn s0 σ G x zs v us Q J rx rzs hw
  obtain ⟨b, ys, key, rfl, rfl, hb, fin⟩ := hw
  cases rx
  obtain ⟨u, rfl, ru⟩ := rzs.one
  obtain ⟨t, rfl⟩ := ru
  obtain ⟨its, rv, pl, hz⟩ := J.list hb
  exact PyProof.Rows.count_list_strs (vs := its) pl.isList (strs_of_vals rv) ⟨.int (countIn (.str key) (ys.map PyData.str)), G, J.tok _, ⟨_, rfl⟩, fin⟩
/-- xs.count(text) -/
def wCnt (wo we : WE) : WE := fun ρ S Q => wo ρ S fun x S1 => match x with
  | .lst ds => we ρ S1 fun y S2 => match y with
    | .str s => onS (strsD ds) fun ys => Q (.int (countIn (.str s) (ys.map PyData.str))) S2
    | _ => False
  | _ => False
theorem se_cnt (ho : SE X Γ o to wo) (he : SE X Γ e te we)
    (h1 : attributeBase o "count" X.env (eval o X.env) = eval o X.env := by rfl)
    (h2 : ((backTo cpos (starEach [e] X.env)).all (fun x => !x.1) && (backToKw cpos (keywordEach [] X.env)).all (fun x => x.1.isSome) && decide ([e].length + ([] : List Keyword).length + (if ([] : List Keyword).isEmpty then 0 else 1) < 30)) = true := by rfl)
    (h3 : (apos.endLine == cpos.line) = true := by rfl) (h4 : starEach [e] X.env = (false, eval e X.env) :: starEach [] X.env := by rfl) (h5 : (backTo cpos (starEach [] X.env)).any (·.1) = false := by rfl) :
    SE X Γ (.Call (.Attribute o "count" apos) [e] [] cpos) (tBM X.K "list" (rCntS X.K) to (tCons te tNil)) (wCnt wo we) :=
  ⟨pe_bm PySem.F.plainAttrs_list PySem.F.slot_list_count PySem.F.type_list_count mt_scount ho.pe (pa_cons he.pe pa_nil h4) h1 h2 h3 h4 h5, fun Z lk σ ρ I μ S H Q Φ rs ok hw kp => by
    refine ho.si Z lk σ ρ I μ S H _ _ rs ok hw fun v x I1 μ1 S1 H1 e1 o1 r1 q1 => ?_
    split at q1
    · rename_i ds
      cases r1 with
      | lst hl rl =>
        refine ⟨.inl ⟨rfl, _, SqL.of (o1.sub _ _ hl)⟩, ?_⟩
        refine he.si Z lk σ ρ I1 μ1 S1 H1 _ _ (rs.ext e1) o1 q1 fun u d I2 μ2 S2 H2 e2 o2 r2 q2 => ?_
        split at q2
        · rename_i s
          cases r2
          obtain ⟨ys, ey, q2⟩ := onS_iff q2
          have := strsD_rp rl ey
          subst this
          exact ⟨_, ys, s, rfl, rfl, SqL.of (o2.sub _ _ (e2.hp _ _ hl)), kp _ _ I2 μ2 S2 H2 (e1.trans e2) o2 .int q2⟩
        · exact q2.elim
    · exact q1.elim⟩
end
/-- a dict in the store is locked while a statement runs -/
def wLockS (w : WS) : WS := fun κ ρ S => ∃ n kd, S[n]? = some (.dct kd) ∧ ∀ o, w { nx := fun ρ' S' => S'[n]? = some (.lck o kd) ∧ κ.nx ρ' (S'.set n (.dct kd)), rt := fun _ _ => False } ρ (S.set n (.lck o kd))
theorem s_lock {X : Cx} {Γ : Gam} {s : Stmt} {ts : TS} {w : WS} (h : SS X G0 s ts w) : SS X Γ s (tLock ts) (wLockS w) :=
  ⟨ps_lock h.ps, fun Z lk σ ρ I μ S H E κ rs ok hw c => by
    obtain ⟨n, kd, hS, hw⟩ := hw
    obtain ⟨a, ha, hi, kv, hv, rk⟩ := ok.at hS
    refine ⟨a, .dK kv, hv, trivial, fun od => ?_⟩
    have o1 : Ok X.K X.mg Z I μ (S.set n (.lck (.frz od (.dK kv)) kd)) (upd H a (.frz od (.dK kv))) := ok.put ha hi ⟨hi, upd_same, od, kv, rfl, rk⟩
    refine h.si Z Lk.zero σ ρ I μ _ _ _ _ rs o1 (hw (.frz od (.dK kv))) ⟨fun σ1 ρ1 I1 μ1 S1 H1 e1 rs1 o2 q1 => ?_, fun v d I1 μ1 S1 H1 e1 o2 r1 q1 => q1.elim, fun σ1 ρ1 I1 μ1 S1 H1 e1 rs1 o2 q1 => q1.elim, fun σ1 ρ1 I1 μ1 S1 H1 e1 rs1 o2 q1 => q1.elim⟩
    obtain ⟨hS1, q1⟩ := q1
    obtain ⟨a', ha', hi', hH', od', kv', e0, rk'⟩ := o2.at hS1
    rw [e1.mu _ _ ha] at ha'
    cases ha'
    cases e0
    exact ⟨hH', c.nx σ1 ρ1 I1 μ1 _ _ e1 rs1 (o2.put (m := .dct kd) (e1.mu _ _ ha) hi' ⟨hi', kv, upd_same, rk'⟩) q1⟩⟩
section
variable {X : Cx} {Γ : Gam} {elt tg iter : Expr} {ifs : List Expr} {scope : Scope} {own : List (Str × Nat)} {pos : Pos} {td : TE} {wd : WE} {g : TG} {wg : WG} {tt : TT} {wt : WT} {te : TE} {we : WE}
theorem s_setLcK (i : Nat) {y : Str} {py spos : Pos} (hc : X.calm = true) (hN : X.N.Nodup) (hd : SE X Γ iter td wd) (ok : BlkOk X.N X.env.scope scope own) (hg : SB X scope (own.map (·.2)) tg g wg) (ht : SF X scope ifs tt wt) (he : SX X scope elt te we)
    (hsw : swapsWith (.ListComp elt [⟨tg, iter, ifs, 0⟩] scope pos) (some (.Name y py)) spos.line X.env = pure true) (hy : X.N[i]? = some y := by rfl) (hyl : X.env.scope.names.lookup y = some .local := by rfl) (hs : ∀ x, foldedSetIterable iter X.env x = pure x := by intro _; rfl) :
    SS X Γ (.Assign [.Name y py] (.ListComp elt [⟨tg, iter, ifs, 0⟩] scope pos) spos) (tAsg (tLc (iKeys td) g tt te (own.map (·.2))) (gName i)) (wAsg (wLcK wd wg wt we (own.map (·.2))) (wName i)) :=
  ⟨ps_setLc hc hN hy hyl hsw (pi_keys hd.pe) ok hg.pg ht.pt he.pe hs, fun Z lk σ ρ I μ S H E κ rs ok h c => sim_lcK (hd.si Z lk) hg.si ht.si he.si σ ρ I μ S H _ _ rs ok h fun v d I1 μ1 S1 H1 e1 o1 r1 q1 =>
    c.nx _ _ I1 μ1 S1 H1 e1 ((rs.ext e1).put r1 i) o1 q1⟩
end
end Sq

set_option Elab.async false
set_option maxRecDepth 100000
set_option maxHeartbeats 4000000
set_option linter.all false
/-! Sets of lists: sorted(set(ints)), len(set(texts)). -/
namespace Sq
open PySem PySem.Spec PyProof.Rows L2
section
variable {P : Program} {w : World} {A : Around} {E : Value → Shared → Prop} {s : Shared}
/-- a set that was just made -/
def bareSet (w : World) : Obj := { cls := .type "set", dict := none, data := .set #[] 0 (.fresh 0 0 (!w.params.followText "set-order")) }
/-- what comes of a set when the members of a list are put into it -/
def Fills (P : Program) (w : World) (l S : Addr) (items : Array Value) (SP : Heap → Prop) : Prop :=
  ∀ (A' : Around) (I : Addr) (s1 : Shared) (R : Result → Shared → Prop), A'.handled = none → l ≠ I → S ≠ I → S ≠ l → s1.heap.IsListIter I l 0 → s1.heap.IsList l items → s1.heap.get? S = some (bareSet w) →
    (∀ s', Moved [S, I] (fun a b => b = a) s1 s' → SP s'.heap → R (.ok (.ret .none)) s') → codeAny (model P w) A' (.builtin "set.update.loop" ⟨[.ref S, .ref I], []⟩) R s1
set_option maxHeartbeats 8000000 in
theorem set_of_list {l : Addr} {items : Array Value} {SP : Heap → Prop} {Q : Value → Shared → Prop} (hh : A.handled = none) (hl : s.heap.IsList l items) (fills : Fills P w l s.heap.objs.size items SP)
    (fin : ∀ (h' : Heap) (tk : Nat), SP h' → (∀ b o, s.heap.get? b = some o → h'.get? b = some o) → Q (.ref s.heap.objs.size) { s with heap := h', toks := tk }) :
    wpAny (model P w) A (call (.type "set") [.ref l]) Q E s := by
  obtain ⟨c, tl, hmro⟩ := PySem.F.called_set.mro
  have hmade := PySem.F.called_set.made
  have hsub := PySem.F.called_set.sub
  refine wpAny_call (codeAny_of_tree ?_)
  show wpAny _ _ (callAny (.type "set") _) _ _ _
  refine wpAny_pure ⟨Code.quiet_builtin _ (by decide +kernel), codeAny_builtin PySem.F.entry_type_call ?_⟩
  rw [Around.under_plain (weight_type_call_type "set" [.ref l] []) rfl]
  have n1 := PySem.F.called_set.notType
  have n2 := PySem.F.called_set.canCreate
  have n3 := PySem.F.typeCall_set_1 (.ref l)
  repeat (any_goals (first | assumption | wp_step))
  refine codeAny_mono (code_set_led1 (.ref l) (E := E) (Q₁ := fun x s₁ => x = .ref s.heap.objs.size ∧ s₁ = { s with heap := s.heap.push (bareSet w) }) ⟨rfl, rfl⟩) fun r s₁ hr => ?_
  rcases r with e | f
  · exact hr
  rcases f with x | _ | _ | _
  any_goals exact hr.elim
  obtain ⟨rfl, rfl⟩ := hr
  have gS : (s.heap.push (bareSet w)).get? s.heap.objs.size = some (bareSet w) := Heap.get?_push_size _ rfl
  have tS : Shared.TypeIs { s with heap := s.heap.push (bareSet w) } (.ref s.heap.objs.size) "set" := ⟨_, gS, rfl⟩
  have li := PySem.F.called_set.init.lookup
  have bi := PySem.F.called_set.init.bind (.ref s.heap.objs.size)
  repeat (any_goals (first | assumption | wp_step))
  refine codeAny_mono (codeAny_call_builtin (R := wants (fun r s₂ => r = .none ∧ ∃ h' tk, s₂ = { s with heap := h', toks := tk } ∧ SP h' ∧ (∀ b o, s.heap.get? b = some o → h'.get? b = some o)) E)
    PySem.F.called_set.init.plain PySem.F.entry_set_init (check_set_init_1 tS ?_)) fun r₂ s₂ hr₂ => ?_
  · obtain ⟨⟨oc, od, odt, osl⟩, ho, c1, nl, c2⟩ := hl
    simp only at c1 c2
    subst c1; subst c2
    have ho' : (s.heap.push (bareSet w)).get? l = some { cls := .type "list", dict := od, data := .seq items nl, slots := osl } := Heap.get?_push_of_some _ ho
    have u1 := PySem.F.sub_list_set
    have u2 := PySem.F.sub_list_frozenset
    have u3 : (Value.type "list" == Value.type "dict") = false := by decide
    have hl' : (s.heap.push (bareSet w)).IsList l items := ⟨_, ho', rfl, nl, rfl⟩
    unfold bareSet at gS ho' hl' tS
    unfold bareSet
    unfold Builtin.«set.__init__» noKeywords Builtin.Frozenset.updateFrom
    generalize hPI : pyIter = PI
    wp_walk
    subst hPI
    refine wpAny_pyIter_list hl' ?_
    refine wpAny_bind (wpAny_runValue ?_)
    have lo : l < s.heap.objs.size := Heap.lt_size ho
    have q3 : A.in1.in1.in1.handled = none := by simp [hh]
    have q2 : A.in1.in1.handled = none := by simp [hh]
    refine fills _ _ _ _ (by first | exact q2 | exact q3 | simp [hh]) (by rw [Heap.size_push]; exact Nat.ne_of_lt (Nat.lt_succ_of_lt lo)) (by rw [Heap.size_push]; exact Nat.ne_of_lt (Nat.lt_succ_self _)) (Nat.ne_of_gt lo)
      ⟨_, Heap.get?_push_size _ rfl, rfl, rfl⟩ (hl'.push _) (Heap.get?_push_of_some _ gS) fun s' hm hS => ?_
    obtain ⟨h', g2, d', tk', os'⟩ := s'
    have eg : g2 = s.gens := hm.gens
    have ed : d' = s.drawn := hm.drawn
    have eo : os' = s.os := hm.os
    subst eg; subst ed; subst eo
    show wpAny _ _ _ _ _ _
    refine wpAny_pure ?_
    show wpAny _ _ (ret Value.none) _ _ _
    refine wpAny_pure ⟨rfl, h', tk', rfl, hS, fun b o e => ?_⟩
    have hb0 : b < s.heap.objs.size := Heap.lt_size e
    refine hm.heap b o ?_ (Heap.get?_push_of_some _ (Heap.get?_push_of_some _ e))
    rw [Heap.size_push]
    simp only [List.mem_cons, List.not_mem_nil, or_false, not_or]
    exact ⟨Nat.ne_of_lt hb0, Nat.ne_of_lt (Nat.lt_succ_of_lt hb0)⟩
  · rcases r₂ with e | f
    · exact hr₂
    rcases f with x | _ | _ | _
    any_goals exact hr₂.elim
    obtain ⟨rfl, h', tk, rfl, hS, hk⟩ := hr₂
    repeat (any_goals (first | assumption | wp_step))
    exact fin _ _ hS hk
theorem fills_ints {l S : Addr} {items : Array Value} {ns : List Int} (hit : IntsAre items.toList ns) (hb : ns.length + 1 < scanBound) : Fills P w l S items (fun h => ∃ c, c ≤ ns.length ∧ SetR w h S (fun j => decide (j ∈ ns)) c) := by
  intro A' I s1 R hh n1 n2 n3 it hl hS hR
  have sz : items.size = ns.length := by
    have q := IntsAre.length hit
    rw [Array.length_toList] at q
    exact q
  have hh2 : A'.in1.handled = none := by simp [hh]
  refine set_update_ints (A := A') ((Walks.list (A := A'.in1) hh2 I l n1 items).toS) S (by simp only [List.mem_cons, List.not_mem_nil, or_false, not_or]; exact ⟨n2, n3⟩) ns sz hb (fun i v hv => ?_) (items.size - 0) 0 s1 (by omega) (Nat.zero_le _) ⟨it, hl⟩ ⟨0, Nat.le_refl 0, setR_new_at hS⟩ fun s' c hm hc R' => hR s' hm ⟨c, by omega, R'⟩
  have hi : i < ns.length := by rw [← sz]; exact (Array.getElem?_eq_some_iff.mp hv).1
  obtain ⟨t, e⟩ := PyProof.Rows.IntsAre.int_at hit i v (by rw [Array.getElem?_toList]; exact hv)
  refine ⟨ns[i], t, List.getElem?_eq_getElem hi, ?_⟩
  rw [e, List.getD_eq_getElem?_getD, List.getElem?_eq_getElem hi] <;> rfl
def memK (ks : List Key) (j : Key) : Bool := ks.any fun x => decide (x = j)
theorem memK_iff {ks : List Key} {j : Key} : memK ks j = true ↔ j ∈ ks := by
  unfold memK
  rw [List.any_eq_true]
  exact ⟨fun ⟨x, h, e⟩ => (of_decide_eq_true e) ▸ h, fun h => ⟨j, h, decide_eq_true rfl⟩⟩
/-- how many unlike ones a list holds beside those seen -/
def unlike : List Key → List Key → Nat
  | _, [] => 0
  | seen, k :: r => (if memK seen k = true then 0 else 1) + unlike (seen ++ [k]) r
theorem unlike_cons (seen : List Key) (k : Key) (r : List Key) : unlike seen (k :: r) = (if memK seen k = true then 0 else 1) + unlike (seen ++ [k]) r := rfl
theorem unlike_le : ∀ (r seen : List Key), unlike seen r ≤ r.length
  | [], _ => Nat.le_refl _
  | k :: r, seen => by
    have := unlike_le r (seen ++ [k])
    unfold unlike
    simp only [List.length_cons]
    split <;> omega
theorem unlike_all : ∀ (r seen : List Key), unlike seen r = r.length ↔ r.Nodup ∧ ∀ k ∈ r, k ∉ seen
  | [], _ => by simp [unlike]
  | k :: r, seen => by
    have h := unlike_all r (seen ++ [k])
    have hl := unlike_le r (seen ++ [k])
    unfold unlike
    simp only [List.length_cons, List.nodup_cons]
    split
    · rename_i m
      rw [memK_iff] at m
      constructor
      · intro e; omega
      · intro e; exact absurd m (e.2 k (by simp))
    · rename_i m
      rw [memK_iff] at m
      constructor
      · intro e
        obtain ⟨h1, h2⟩ := h.mp (by omega)
        exact ⟨⟨fun hk => h2 k hk (by simp), h1⟩, fun x hx => by
          rcases List.mem_cons.mp hx with rfl | hx
          · exact m
          · exact fun hs => h2 x hx (by simp [hs])⟩
      · rintro ⟨⟨h1, h2⟩, h3⟩
        have := h.mpr ⟨h2, fun x hx hs => by
          rcases List.mem_append.mp hs with hs | hs
          · exact h3 x (by simp [hx]) hs
          · rw [List.mem_singleton] at hs; subst hs; exact h1 hx⟩
        omega
theorem fills_keys {l S : Addr} {items : Array Value} {ks : List Key} (hit : Vals (ks.map kV) items.toList) (hb : ks.length + 1 < scanBound) : Fills P w l S items (fun h => h.SetOf (mixKind P w) S (memK ks) (unlike [] ks)) := by
  intro A' I s1 R hh n1 n2 n3 it hl hS hR
  have sz : items.size = ks.length := by
    have q := Vals.length hit
    simp only [Array.length_toList, List.length_map] at q
    exact q.symm
  have hh2 : A'.in1.handled = none := by simp [hh]
  have W := (Walks.list (prog := P) (w := w) (A := A'.in1) hh2 I l n1 items).toS
  have hSf : S ∉ [I, l] := by simp only [List.mem_cons, List.not_mem_nil, or_false, not_or]; exact ⟨n2, n3⟩
  have hSw : S ∉ [I] := by simp only [List.mem_cons, List.not_mem_nil, or_false]; exact n2
  have up : ∀ b ∈ [I], b ∈ [S, I] := fun b hb => List.mem_cons_of_mem _ hb
  have turn : ∀ (k i : Nat) (s : Shared), items.size - i = k → i ≤ items.size → (s.heap.IsListIter I l i ∧ s.heap.IsList l items) →
      (∃ c, c + unlike (ks.take i) (ks.drop i) = unlike [] ks ∧ c ≤ i ∧ s.heap.SetOf (mixKind P w) S (memK (ks.take i)) c) →
      (∀ s', Moved [S, I] (fun a b => b = a) s s' → s'.heap.SetOf (mixKind P w) S (memK ks) (unlike [] ks) → R (.ok (.ret .none)) s') →
      codeAny (model P w) A' (.builtin "set.update.loop" ⟨[.ref S, .ref I], []⟩) R s := by
    intro k
    induction k with
    | zero =>
      intro i s hk hi st ⟨c, hc, _, hS⟩ hR
      have e : i = items.size := by omega
      subst e
      refine codeAny_builtin PyProof.Rows.F.entry_set_update_loop ?_
      rw [Around.under_plainId PyProof.Rows.F.plain_set_update_loop _]
      show wpAny _ A'.in1 (pyNext (.ref I) >>= _) _ _ s
      refine wpAny_bind (W.done s _ _ st fun s' hm => ?_)
      show wpAny _ A'.in1 (ret Value.none) _ _ s'
      have e1 : ks.take items.size = ks := List.take_of_length_le (by omega)
      have e2 : ks.drop items.size = [] := List.drop_of_length_le (by omega)
      rw [e1, e2] at hc
      rw [e1] at hS
      have ec : c = unlike [] ks := hc
      rw [ec] at hS
      exact wpAny_pure (hR s' (hm.mono up) (setOf_at hS fun o e => hm.heap S o hSw e))
    | succ k ih =>
      intro i s hk hi st ⟨c, hc, hci, hS⟩ hR
      have lt : i < items.size := by omega
      have ltk : i < ks.length := by omega
      refine codeAny_builtin PyProof.Rows.F.entry_set_update_loop ?_
      rw [Around.under_plainId PyProof.Rows.F.plain_set_update_loop _]
      show wpAny _ A'.in1 (pyNext (.ref I) >>= _) _ _ s
      refine wpAny_bind (W.item i s _ _ lt st fun v s' hv st' hm => ?_)
      have rv : RelV (kV ks[i]) v := by
        have q1 : (ks.map kV)[i]? = some (kV ks[i]) := by rw [List.getElem?_map, List.getElem?_eq_getElem ltk]; rfl
        have q2 : items.toList[i]? = some v := by rw [Array.getElem?_toList]; exact hv
        obtain ⟨u, e1, e2⟩ := Vals.get hit q1
        rw [q2] at e1
        cases e1
        exact e2
      have hS' : s'.heap.SetOf (mixKind P w) S (memK (ks.take i)) c := setOf_at hS fun o e => hm.heap S o hSw e
      show wpAny _ A'.in1 (holding [v] (setAdd S v) >>= _) _ _ s'
      refine wpAny_bind (wpAny_holding ?_)
      unfold setAdd
      refine wpAny_holding ?_
      refine wpAny_bind ((mixKind P w).pyHash (k := ks[i]) (kV_is rv) ?_)
      refine wpAny_setAddHashed_of (knd := mixKind P w) (s := { s' with toks := s'.toks + 1 }) (kV_is rv) (key_scan rv) hS' (by omega) fun h' hsb hS2 => ?_
      have ef : (fun j => memK (ks.take i) j || decide (j = ks[i])) = memK (ks.take (i + 1)) := by
        funext j
        rw [List.take_add_one, List.getElem?_eq_getElem ltk]
        unfold memK
        rw [List.any_append]
        simp [eq_comm]
      rw [ef] at hS2
      have ed : ks.drop i = ks[i] :: ks.drop (i + 1) := List.drop_eq_getElem_cons ltk
      have et : ks.take i ++ [ks[i]] = ks.take (i + 1) := by rw [List.take_add_one, List.getElem?_eq_getElem ltk]; rfl
      rw [ed, unlike_cons, et] at hc
      refine wpAny_pure ⟨plainId_quiet PyProof.Rows.F.plain_set_update_loop _, ih (i + 1) _ (by omega) lt (W.frame _ s' _ _ st' (Nat.le_succ _) fun b hb o e => ?_) ⟨_, ?_, ?_, hS2⟩ fun s'' hm'' hS'' => ?_⟩
      · rw [hsb.2 b (fun h : b = S => hSf (by rw [← h]; exact hb))]; exact e
      · split <;> rename_i q
        · rw [if_pos q] at hc; omega
        · rw [if_neg q] at hc; omega
      · split <;> omega
      · refine hR s'' (Moved.trans W.gtrans ((hm.mono up).then_heap (Nat.le_succ _) fun b o hb e => ?_) hm'') hS''
        rw [hsb.2 b (fun h : b = S => hb (by rw [h]; exact List.mem_cons_self))]; exact e
  refine turn (items.size - 0) 0 s1 (by omega) (Nat.zero_le _) ⟨it, hl⟩ ⟨0, by simp, Nat.le_refl _, ?_⟩ hR
  exact ⟨bareSet w, #[], 0, _, hS, ⟨rfl, rfl, rfl⟩, rfl, (fun e he => by simp at he), (fun k => by simp [memK]), (by decide), (by rfl), rfl⟩
end
section
variable {X : Cx}
/-- set(ints) -/
def rSetI (K : PySem.W.Frag) (w : World) : List V → Hp → VK → Prop := fun vs H Q => ∃ (a : Addr) (ns : List Int), vs = [V.ref a] ∧ SqL K H a (ns.map V.int) ∧ ns.length < 4000 ∧
  ∀ (p : Addr) (c : Nat), c ≤ ns.length → H p = none → Q (.ref p) (upd H p (SetO w p (fun j => decide (j ∈ ns)) c))
theorem cr_setI (hc : X.calm = true) : CallR X (.type "set") (rSetI X.K X.w) := by
  intro pins s σ H vs us Q I r h
  obtain ⟨a, ns, rfl, hs, hb, q⟩ := h
  obtain ⟨its, rv, hl, hz⟩ := I.list hs
  rw [Vals.ref1 r]
  refine set_of_list (I.ok.hd hc) hl.isList (fills_ints (by simpa using rv.ints) (bound10k hb)) fun h' tk ⟨c, hcn, R⟩ hk => ?_
  exact ⟨.ref _, upd H s.heap.objs.size (SetO X.w s.heap.objs.size (fun j => decide (j ∈ ns)) c), I.laid hk (Nat.le_refl _) (setO_new R), rfl, q _ c hcn (I.hok.fresh (Nat.le_refl _))⟩
/-- set(texts) -/
def rSetK (K : PySem.W.Frag) (P : Program) (w : World) : List V → Hp → VK → Prop := fun vs H Q => ∃ (a : Addr) (ks : List Key), vs = [V.ref a] ∧ SqL K H a (ks.map kV) ∧ ks.length < 4000 ∧
  ∀ (p : Addr), H p = none → Q (.ref p) (upd H p (SetK P w p (memK ks) (unlike [] ks)))
theorem cr_setK (hc : X.calm = true) : CallR X (.type "set") (rSetK X.K X.prog X.w) := by
  intro pins s σ H vs us Q I r h
  obtain ⟨a, ks, rfl, hs, hb, q⟩ := h
  obtain ⟨its, rv, hl, hz⟩ := I.list hs
  rw [Vals.ref1 r]
  refine set_of_list (I.ok.hd hc) hl.isList (fills_keys (by simpa using rv) (bound10k hb)) fun h' tk R hk => ?_
  exact ⟨.ref _, upd H s.heap.objs.size (SetK X.prog X.w s.heap.objs.size (memK ks) (unlike [] ks)), I.laid hk (Nat.le_refl _) (setK_new R), rfl, q _ (I.hok.fresh (Nat.le_refl _))⟩
/-- len of a set of texts -/
def rLenSK (P : Program) (w : World) : List V → Hp → VK → Prop := fun vs H Q => ∃ (a : Addr) (S : Key → Bool) (n : Nat), vs = [V.ref a] ∧ H a = some (SetK P w a S n) ∧ n < 4096 ∧ Q (.int n) H
theorem cr_lenSK : CallR X (.builtin "len") (rLenSK X.prog X.w) := by
  intro pins s σ H vs us Q I r h
  obtain ⟨a, S, n, rfl, ha, hn, q⟩ := h
  have R := setK_get I ha
  rw [Vals.ref1 r]
  obtain ⟨o, es, ep, t, ho, hex, hd, _, _, _, hf, hn'⟩ := R
  exact call_len_set ho hex hd hf (by rw [hn'] <;> omega) ⟨.int n, H, I.tok _, ⟨_, by rw [hn']⟩, q⟩
/-- sorted(set of ints), any number of them -/
def rSortSB (w : World) : List V → Hp → VK → Prop := fun vs H Q => ∃ (a : Addr) (S : Int → Bool) (n : Nat), vs = [V.ref a] ∧ H a = some (SetO w a S n) ∧
  ∀ (ns : List Int) (p : Addr), ns.Pairwise (· < ·) → (∀ k : Int, k ∈ ns ↔ S k = true) → H p = none → Q (.ref p) (upd H p (.lst (ns.map V.int)))
theorem cr_sortSB (hc : X.calm = true) : CallR X (.builtin "sorted") (rSortSB X.w) := by
  intro pins s σ H vs us Q I r h
  obtain ⟨a, S, n, rfl, ha, q⟩ := h
  obtain ⟨o, es, ep, t, ho, hex, hd, g, nd, hm, hb, hf, hn, hr, hl⟩ := setO_get I ha
  rw [Vals.ref1 r]
  refine Calls.call_function_entry kind_sorted plain_sorted entry_sorted (args_sorted1 _) ?_
  unfold Builtin.«sorted»
  refine wpAny_bind (m := checkCount "sorted" 1 1 _) (wpAny_pure ?_)
  refine wpAny_bind (collect_set (A := X.A.in1) (by simpa using I.ok.hd hc) ⟨o, ho, hex.1, hd⟩ hf hb hr hl fun s1 vs k1 hz g1 o1 pm => ?_)
  have hvl : vs.length = es.size := by rw [pm.length_eq, List.length_map, Array.length_toList]
  have hI : IntsAre vs (vs.map Builtin.Re.reRawOf) := ints_of vs fun v hv => by
    obtain ⟨e, he, q⟩ := List.mem_map.mp (pm.mem_iff.mp hv)
    obtain ⟨k, tk, e1, _⟩ := g e he
    exact ⟨k, tk, by rw [← q]; exact e1⟩
  have pk : (vs.map Builtin.Re.reRawOf).Perm (es.toList.map keyOf) := by
    have q := pm.map Builtin.Re.reRawOf
    rw [List.map_map] at q
    exact q
  have hzl : vs.length ≤ sizeLine := by rw [hvl]; exact fits_of_scanBound hb
  refine wpAny_bind (wpAny_newList ?_ hzl)
  have hoL : (s1.heap.push (seqObj "list" vs.toArray 0)).get? s1.heap.objs.size = some (seqObj "list" vs.toArray 0) := Heap.get?_push_size _ rfl
  refine wpAny_bind (wpAny_holding (wpAny_call_entry slot_list_sort ⟨_, hoL, rfl⟩ entry_list_sort (SrtO.list_sort_ord SrtO.swo_int hoL hzl (fun h2 => SrtO.ints_sortable hI h2) fun out h1 h2 => ⟨_, rfl, ?_⟩) (args_list_sort _)))
  obtain ⟨c1, c2, c3⟩ := SrtO.ints_out hI h1 h2
  obtain ⟨c, hcc⟩ := sortedHeap_at (vs := vs) (out := out.toArray) hoL
  have pn : (out.map SrtO.iv).Perm (es.toList.map keyOf) := c2.trans pk
  have hno : H s1.heap.objs.size = none := I.hok.fresh hz
  have keep : ∀ b u, s.heap.get? b = some u → (sortedHeap (s1.heap.push (seqObj "list" vs.toArray 0)) s1.heap.objs.size vs out.toArray).get? b = some u := fun b u e => by
    have q := k1 b u e
    have hlt := Heap.lt_size q
    rw [sortedHeap_old (Nat.ne_of_lt hlt) (by rw [size_push']; exact Nat.lt_succ_of_lt hlt)]
    exact Heap.get?_push_of_some _ q
  have hlen : ((out.map SrtO.iv).map V.int).length ≤ sizeLine := by rw [List.length_map, pn.length_eq, List.length_map, Array.length_toList]; exact fits_of_scanBound hb
  refine wpAny_pure ⟨_, rfl, ?_⟩
  have J : Inv X pins σ (upd H s1.heap.objs.size (.lst ((out.map SrtO.iv).map V.int))) { s with heap := sortedHeap (s1.heap.push (seqObj "list" vs.toArray 0)) s1.heap.objs.size vs out.toArray, gens := s1.gens, drawn := s1.drawn, toks := s1.toks } :=
    I.call (ch := []) (Un.laid keep hz hno) (I.hok.laid keep hz ⟨hlen, out, c, vals_of_ints c1, hcc⟩) (by rw [g1]; exact I.bare) (fun _ z => nomatch z)
  have e : { s1 with heap := sortedHeap (s1.heap.push (seqObj "list" vs.toArray 0)) s1.heap.objs.size vs out.toArray } = ({ s with heap := sortedHeap (s1.heap.push (seqObj "list" vs.toArray 0)) s1.heap.objs.size vs out.toArray, gens := s1.gens, drawn := s1.drawn, toks := s1.toks } : Shared) := by
    cases s1
    cases s
    cases o1
    rfl
  rw [e]
  exact ⟨.ref _, _, J, rfl, q _ _ (lt_of_le_nodup _ c3 (pn.nodup_iff.mpr nd)) (fun k => by rw [pn.mem_iff, ← hm k]) hno⟩
end
/-- sorted(set(ints)) -/
def wSortSet (we : WE) : WE := fun ρ S Q => we ρ S fun d S1 => match view S1 d with
  | .lst xs => onS (intsD xs) fun ns => ns.length < 4000 ∧ ∀ ms : List Int, ms.Pairwise (· < ·) → (∀ k, k ∈ ms ↔ k ∈ ns) → Q (.lst (ms.map D.int)) S1
  | _ => False
/-- len(set(texts)) -/
def wLenSet (we : WE) : WE := fun ρ S Q => we ρ S fun d S1 => match view S1 d with
  | .lst xs => onS (strsD xs) fun ks => ks.length < 4000 ∧ Q (.int (unlike [] (ks.map Sum.inr))) S1
  | _ => False
section
variable {X : Cx} {Γ : Gam} {e : Expr} {te : TE} {we : WE} {p p2 q pos : Pos} {K : PySem.W.Frag} {mg : Str → Option Value} {Z : Zt}
theorem sim_sortSet {w : World} (he : Sim K mg Z te we) : Sim K mg Z (tCB (rSortSB w) (tCons (tCB (rSetI K w) (tCons te tNil)) tNil)) (wSortSet we) := by
  intro σ ρ I μ S H Q Φ rs ok h k
  refine he σ ρ I μ S H _ _ rs ok h fun v d I1 μ1 S1 H1 e1 o1 r1 q1 => ?_
  split at q1
  · rename_i xs ev
    obtain ⟨p, us, rfl, hh, t⟩ := view_lst o1 r1 ev
    obtain ⟨ns, e2, h2, h3⟩ := onS_iff q1
    have := intsD_rp t e2
    subst this
    refine ⟨p, ns, rfl, SqL.of hh, h2, fun a c hc ha => ?_⟩
    refine ⟨a, _, c, rfl, upd_same, fun ms b hs hm hb => ?_⟩
    have o2 := o1.lay (o := SetO w a (fun j => decide (j ∈ ns)) c) ha
    exact k _ _ _ μ1 S1 _ (e1.trans (Ext.new (free_of o2.sub hb))) (o2.new hb) (.lst upd_same RpL.ints) (h3 ms hs fun j => by rw [hm j]; simp)
  · exact q1.elim
theorem sim_lenSet {P : Program} {w : World} (he : Sim K mg Z te we) : Sim K mg Z (tCB (rLenSK P w) (tCons (tCB (rSetK K P w) (tCons te tNil)) tNil)) (wLenSet we) := by
  intro σ ρ I μ S H Q Φ rs ok h k
  refine he σ ρ I μ S H _ _ rs ok h fun v d I1 μ1 S1 H1 e1 o1 r1 q1 => ?_
  split at q1
  · rename_i xs ev
    obtain ⟨p, us, rfl, hh, t⟩ := view_lst o1 r1 ev
    obtain ⟨ks, e2, h2, h3⟩ := onS_iff q1
    have := strsD_rp t e2
    subst this
    have em : ks.map V.str = (ks.map (Sum.inr : Str → Key)).map kV := by rw [List.map_map]; rfl
    refine ⟨p, ks.map Sum.inr, rfl, by rw [← em]; exact SqL.of hh, by simpa using h2, fun a ha => ?_⟩
    have hu := unlike_le (ks.map Sum.inr) []
    rw [List.length_map] at hu
    refine ⟨a, _, _, rfl, upd_same, by omega, ?_⟩
    exact k _ _ _ μ1 S1 _ e1 (o1.lay (o := SetK P w a (memK (ks.map Sum.inr)) (unlike [] (ks.map Sum.inr))) ha) .int h3
  · exact q1.elim
theorem se_sortSet (hc : X.calm = true) (hm : X.mg "sorted" = none) (hm2 : X.mg "set" = none) (he : SE X Γ e te we) (hgs : Gl X "sorted" := by rfl) (hg2 : Gl X "set" := by rfl)
    (na : starEach [e] X.env = (false, eval e X.env) :: starEach [] X.env := by rfl) (pl1 : (backTo q (starEach [] X.env)).any (·.1) = false := by rfl)
    (nb : starEach [.Call (.Name "set" p2) [e] [] q] X.env = (false, eval (.Call (.Name "set" p2) [e] [] q) X.env) :: starEach [] X.env := by rfl) (pl2 : (backTo pos (starEach [] X.env)).any (·.1) = false := by rfl) :
    SE X Γ (.Call (.Name "sorted" p) [.Call (.Name "set" p2) [e] [] q] [] pos) (tCB (rSortSB X.w) (tCons (tCB (rSetI X.K X.w) (tCons te tNil)) tNil)) (wSortSet we) :=
  ⟨pe_callB (cr_sortSB hc) hgs hm (by decide +kernel) (pa_cons (pe_callTy (cr_setI hc) hg2 hm2 boot_set (pa_cons he.pe pa_nil na) (by decide) (by decide) na pl1) pa_nil nb) (by decide) (by decide) nb pl2, fun Z lk => sim_sortSet (he.si Z lk)⟩
theorem se_lenSet (hc : X.calm = true) (hm : X.mg "len" = none) (hm2 : X.mg "set" = none) (he : SE X Γ e te we) (hgs : Gl X "len" := by rfl) (hg2 : Gl X "set" := by rfl)
    (na : starEach [e] X.env = (false, eval e X.env) :: starEach [] X.env := by rfl) (pl1 : (backTo q (starEach [] X.env)).any (·.1) = false := by rfl)
    (nb : starEach [.Call (.Name "set" p2) [e] [] q] X.env = (false, eval (.Call (.Name "set" p2) [e] [] q) X.env) :: starEach [] X.env := by rfl) (pl2 : (backTo pos (starEach [] X.env)).any (·.1) = false := by rfl) :
    SE X Γ (.Call (.Name "len" p) [.Call (.Name "set" p2) [e] [] q] [] pos) (tCB (rLenSK X.prog X.w) (tCons (tCB (rSetK X.K X.prog X.w) (tCons te tNil)) tNil)) (wLenSet we) :=
  ⟨pe_callB cr_lenSK hgs hm boot_len (pa_cons (pe_callTy (cr_setK hc) hg2 hm2 boot_set (pa_cons he.pe pa_nil na) (by decide) (by decide) na pl1) pa_nil nb) (by decide) (by decide) nb pl2, fun Z lk => sim_lenSet (he.si Z lk)⟩
end
end Sq

set_option Elab.async false
set_option maxRecDepth 100000
set_option maxHeartbeats 4000000
set_option linter.all false
/-! sum(lists, []). -/
namespace Sq
open PySem PySem.Spec PyProof.Rows L2
theorem args_sumL (a b : Value) : argsOk "sum" ⟨[a, b], []⟩ := by unfold argsOk; kernel_rfl
section
variable {P : Program} {w : World} {A : Around} {E : Value → Shared → Prop} {R : Result → Shared → Prop} {s : Shared}
/-- the state of a sum: a list of one -/
def sumSt (c : Addr) (n : Nat) : Obj := { cls := .type "list", dict := none, data := .seq #[Value.ref c] n, slots := #[] }
theorem sumL_loop {I l S : Addr} {items : Array Value} (hh : A.in1.handled = none) (hIl : l ≠ I) (hSf : S ∉ [I, l]) (yss : List (List Value)) (hn : items.size = yss.length) :
    ∀ (k i : Nat) (s : Shared) (c : Addr) (acc : List Value) (nc cap : Nat), items.size - i = k → i ≤ items.size → (s.heap.IsListIter I l i ∧ s.heap.IsList l items) →
      s.heap.get? S = some (sumSt c cap) → IsL s.heap c acc.toArray nc →
      (∀ j ys, i ≤ j → yss[j]? = some ys → ∃ p n, items[j]? = some (.ref p) ∧ p ≠ I ∧ p ≠ S ∧ IsL s.heap p ys.toArray n) → acc.length + (yss.drop i).flatten.length ≤ sizeLine → c ≠ I → c ≠ S →
      (∀ h' tk c' nc', (∀ b o, b ≠ I → b ≠ S → s.heap.get? b = some o → h'.get? b = some o) → IsL h' c' (acc ++ (yss.drop i).flatten).toArray nc' → (S < c ∨ i < items.size → S < c') → R (.ok (.ret (.ref c'))) { s with heap := h', toks := tk }) →
      codeAny (model P w) A (.builtin "sum.loop" ⟨[.ref I, .ref S, rawInt 2, rawInt 0], []⟩) R s := by
  have W := Walks.list (prog := P) (w := w) (A := A.in1) hh I l hIl items
  have hSI : S ≠ I := fun e => hSf (by simp [e])
  have hSl : S ≠ l := fun e => hSf (by simp [e])
  intro k
  induction k with
  | zero =>
    intro i s c acc nc cap hk hi st hS hc hys hz hcI hcS hR
    have e : i = items.size := by omega
    subst e
    refine codeAny_builtin PySem.F.entry_sum_loop ?_
    rw [Around.under_plainId PySem.F.plain_sum_loop _]
    show wpAny _ A.in1 (seqItems? (.ref S) >>= _) _ _ s
    refine wpAny_bind (wpAny_seqItems hS rfl ?_)
    show wpAny _ A.in1 (tryCatch (pyNext (.ref I)) _ >>= _) _ _ s
    refine wpAny_bind (wpAny_tryCatch (W.done s _ _ st fun h' tk hk' => ?_))
    refine wpAny_pure (hR h' tk c nc (fun b o n1 n2 e => hk' b o (by simp [n1]) e) ?_ (fun h => h.elim id fun z => absurd z (Nat.lt_irrefl _)))
    have ed : yss.drop items.size = [] := List.drop_of_length_le (by omega)
    rw [ed, List.flatten_nil, List.append_nil]
    exact hk' c _ (by simp [hcI]) hc
  | succ k ih =>
    intro i s c acc nc cap hk hi st hS hc hys hz hcI hcS hR
    have lt : i < items.size := by omega
    have lty : i < yss.length := by omega
    refine codeAny_builtin PySem.F.entry_sum_loop ?_
    rw [Around.under_plainId PySem.F.plain_sum_loop _]
    show wpAny _ A.in1 (seqItems? (.ref S) >>= _) _ _ s
    refine wpAny_bind (wpAny_seqItems hS rfl ?_)
    show wpAny _ A.in1 (tryCatch (pyNext (.ref I)) _ >>= _) _ _ s
    refine wpAny_bind (wpAny_tryCatch (W.item i s _ _ lt st fun v h' tk hP st' hk' => ?_))
    obtain ⟨p, n, e1, hpI, hpS, hp⟩ := hys i _ (Nat.le_refl _) (List.getElem?_eq_getElem lty)
    rw [e1] at hP
    cases hP
    have hS' := hk' S _ (by simp [hSI]) hS
    have hc' : IsL h' c acc.toArray nc := hk' c _ (by simp [hcI]) hc
    have hp' : IsL h' p (yss[i]).toArray n := hk' p _ (by simp [hpI]) hp
    have ed : yss.drop i = yss[i] :: yss.drop (i + 1) := List.drop_eq_getElem_cons lty
    rw [ed, List.flatten_cons, List.length_append] at hz
    show wpAny _ A.in1 ((holding [Value.ref p] (binaryOp .Add (.ref c) (.ref p))).attempt >>= _) _ _ _
    refine wpAny_bind (wpAny_attempt (wpAny_holding (PySem.P.add_list (s := { s with heap := h', toks := tk }) hc' hp' ?_ (by rw [List.size_toArray, List.size_toArray]; omega))))
    have lS : S < h'.objs.size := Heap.lt_size hS'
    have lI : I < h'.objs.size := let ⟨_, e, _⟩ := st'.1; Heap.lt_size e
    have eqa : (acc.toArray ++ (yss[i]).toArray) = (acc ++ yss[i]).toArray := by simp
    rw [eqa]
    have g0 := IsL.new h' (acc ++ yss[i]).toArray
    have gS := Heap.get?_push_of_some ({ cls := .type "list", data := .seq (acc ++ yss[i]).toArray } : Obj) hS'
    generalize hh2 : h'.push { cls := .type "list", data := .seq (acc ++ yss[i]).toArray } = h2 at g0 gS ⊢
    have k2 : ∀ b o, h'.get? b = some o → h2.get? b = some o := fun b o e => by rw [← hh2]; exact Heap.get?_push_of_some _ e
    show wpAny _ A.in1 (updateSeq S (fun _ => #[Value.ref h'.objs.size]) >>= _) _ _ _
    refine wpAny_bind (wpAny_updateSeq gS rfl ?_)
    have gS2 := Heap.get?_update_self (Obj.mapSeq fun _ => #[Value.ref h'.objs.size]) gS rfl
    refine wpAny_bind (wpAny_letGo ?_)
    refine wpAny_bind (wpAny_updateSeq gS2 rfl ?_)
    have gS3 := Heap.get?_update_self (Obj.mapSeq fun _ => #[Value.ref h'.objs.size]) gS2 rfl
    have oth : ∀ b u, b ≠ S → h2.get? b = some u → ((h2.update S (Obj.mapSeq fun _ => #[Value.ref h'.objs.size])).update S (Obj.mapSeq fun _ => #[Value.ref h'.objs.size])).get? b = some u :=
      fun b u hb e => (Heap.get?_update_other _ _ (Ne.symm hb)).trans ((Heap.get?_update_other _ _ (Ne.symm hb)).trans e)
    generalize hh3 : (h2.update S (Obj.mapSeq fun _ => #[Value.ref h'.objs.size])).update S (Obj.mapSeq fun _ => #[Value.ref h'.objs.size]) = h3 at gS3 oth ⊢
    refine wpAny_pure ⟨plainId_quiet PySem.F.plain_sum_loop _, ih (i + 1) _ h'.objs.size (acc ++ yss[i]) _ _ (by omega) lt ⟨st'.1.at fun o e => oth I o (Ne.symm hSI) (k2 I o e), st'.2.at fun o e => oth l o (Ne.symm hSl) (k2 l o e)⟩ gS3 (oth _ _ (Nat.ne_of_gt lS) g0)
      (fun j ys hj e => ?_) (by rw [List.length_append]; omega) (Nat.ne_of_gt lI) (Nat.ne_of_gt lS) fun h'' tk'' c'' nc'' keep hc'' hlt => ?_⟩
    · obtain ⟨p2, n2, x1, x2, x3, x4⟩ := hys j ys (by omega) e
      exact ⟨p2, n2, x1, x2, x3, oth p2 _ x3 (k2 p2 _ (hk' p2 _ (by simp [x2]) x4))⟩
    · refine hR h'' tk'' c'' nc'' (fun b o n1 n2 e => keep b o n1 n2 (oth b o n2 (k2 b o (hk' b o (by simp [n1]) e)))) ?_ fun _ => ?_
      · rw [ed, List.flatten_cons, ← List.append_assoc]; exact hc''
      · exact hlt (.inl lS)
/-- sum(lists, []) -/
theorem call_sumL {l b : Addr} {items : Array Value} {yss : List (List Value)} {nb : Nat} {Q : Value → Shared → Prop} (hh : A.handled = none) (hl : s.heap.IsList l items) (hb : IsL s.heap b #[] nb) (hn : items.size = yss.length) (h0 : 0 < items.size)
    (hys : ∀ (j : Nat) (ys : List Value), yss[j]? = some ys → ∃ p n, items[j]? = some (Value.ref p) ∧ IsL s.heap p ys.toArray n) (hz : yss.flatten.length ≤ sizeLine)
    (h : ∀ h' tk c n, (∀ b o, s.heap.get? b = some o → h'.get? b = some o) → IsL h' c yss.flatten.toArray n → s.heap.objs.size ≤ c → Q (.ref c) { s with heap := h', toks := tk }) :
    wpAny (model P w) A (call (.builtin "sum") [.ref l, .ref b]) Q E s := by
  refine call_function_tree PySem.F.kind_sum PySem.F.plain_sum PySem.F.entry_sum (args_sumL _ _) ?_
  unfold Builtin.«sum»
  simp only [List.length_cons, List.length_nil]
  rw [if_neg (by decide)]
  refine wpAny_bind (wpAny_of_eq (show Builtin.Builtins.bindParams "sum" ["start"] 0 ⟨[Value.ref b], []⟩ = pure [some (Value.ref b)] from rfl) ?_)
  refine wpAny_bind (wpAny_pyIter_list hl ?_)
  generalize hI : s.heap.objs.size = I
  generalize hh1 : s.heap.push { cls := .type "list_iterator", data := .fields #[.ref l, .int 0 0] } = h1
  have gI : h1.IsListIter I l 0 := by rw [← hh1, ← hI]; exact ⟨_, Heap.get?_push_size _ rfl, rfl, rfl⟩
  have k1 : ∀ x o, s.heap.get? x = some o → h1.get? x = some o := fun x o e => by rw [← hh1]; exact Heap.get?_push_of_some _ e
  have z1 : h1.objs.size = I + 1 := by rw [← hh1, ← hI]; exact Heap.size_push ..
  have tb : Shared.TypeIs { s with heap := h1 } (.ref b) "list" := ⟨_, k1 b _ hb, rfl⟩
  refine wpAny_bind (wpAny_pure ?_)
  simp only [List.forIn_cons, List.forIn_nil]
  refine wpAny_bind (wpAny_bind (wpAny_bind (wpAny_isInstance (T := "list") (b := false) tb PySem.F.sub_list_str ?_)))
  simp only [Bool.false_eq_true, if_false]
  refine wpAny_pure (wpAny_bind (wpAny_bind (wpAny_isInstance (T := "list") (b := false) tb PySem.F.sub_list_bytes ?_)))
  simp only [Bool.false_eq_true, if_false]
  refine wpAny_pure (wpAny_bind (wpAny_bind (wpAny_isInstance (T := "list") (b := false) tb PySem.F.sub_list_bytearray ?_)))
  simp only [Bool.false_eq_true, if_false]
  refine wpAny_pure (wpAny_pure ?_)
  refine wpAny_bind (wpAny_newObj_type ?_)
  have old : ∀ {x o}, s.heap.get? x = some o → x < I := fun e => by rw [← hI]; exact Heap.lt_size e
  obtain ⟨ol, el, _⟩ := id hl
  have ll := old el
  have lb := old hb
  refine wpAny_pure ⟨plainId_quiet PySem.F.plain_sum_loop _, sumL_loop (S := h1.objs.size) (l := l) (I := I) (by simp [hh]) (Nat.ne_of_lt ll) (by rw [z1]; simp only [List.mem_cons, List.not_mem_nil, or_false, not_or]; exact ⟨Nat.ne_of_gt (Nat.lt_succ_self _), Nat.ne_of_gt (Nat.lt_succ_of_lt ll)⟩) yss hn items.size 0 _ b [] nb 0 (by omega) (Nat.zero_le _)
    ⟨gI.at fun o e => Heap.get?_push_of_some _ e, (hl.at fun o e => k1 _ o e).at fun o e => Heap.get?_push_of_some _ e⟩ (Heap.get?_push_size _ rfl) (Heap.get?_push_of_some _ (k1 _ _ hb)) (fun j ys _ e => ?_) (by simpa using hz) (Nat.ne_of_lt lb) (by rw [z1]; exact Nat.ne_of_lt (Nat.lt_succ_of_lt lb)) fun h' tk c' nc' keep hc lt => ?_⟩
  · obtain ⟨p, n, x1, x2⟩ := hys j ys e
    have lp := old x2
    exact ⟨p, n, x1, Nat.ne_of_lt lp, by rw [z1]; exact Nat.ne_of_lt (Nat.lt_succ_of_lt lp), Heap.get?_push_of_some _ (k1 _ _ x2)⟩
  · have := lt (.inr h0)
    rw [z1] at this
    refine h h' tk c' nc' (fun x o e => ?_) (by simpa using hc) ?_
    · have lx := old e
      exact keep x o (Nat.ne_of_lt lx) (by rw [z1]; exact Nat.ne_of_lt (Nat.lt_succ_of_lt lx)) (Heap.get?_push_of_some _ (k1 _ _ e))
    · rw [hI]; exact Nat.le_of_lt (Nat.lt_of_succ_lt this)
end
section
variable {X : Cx}
def cellsOf (H : Hp) (p : Addr) : List V := match H p with | some (.lst xs) => xs | _ => []
def rSumL : List V → Hp → VK → Prop := fun vs H Q => ∃ (a b : Addr) (ps : List Addr), vs = [V.ref a, V.ref b] ∧ H a = some (.lst (ps.map V.ref)) ∧ H b = some (.lst []) ∧ ps ≠ [] ∧ (∀ p ∈ ps, ∃ us, H p = some (.lst us)) ∧ (ps.map (cellsOf H)).flatten.length ≤ 1000000 ∧
  ∀ c, H c = none → Q (.ref c) (upd H c (.lst (ps.map (cellsOf H)).flatten))
/-- lists on the heap, one after the other -/
theorem lists_on {pins : List (Addr × Obj)} {σ : L2.St} {H : Hp} {s : Shared} (I : Inv X pins σ H s) : ∀ (ps : List Addr), (∀ p ∈ ps, ∃ us, H p = some (.lst us)) →
    ∃ yss : List (List Value), yss.length = ps.length ∧ Vals (ps.map (cellsOf H)).flatten yss.flatten ∧ ∀ (j : Nat) (ys : List Value), yss[j]? = some ys → ∃ p n, ps[j]? = some p ∧ IsL s.heap p ys.toArray n
  | [], _ => ⟨[], rfl, .nil, fun j ys e => by simp at e⟩
  | p :: ps, h => by
    obtain ⟨yss, h1, h2, h3⟩ := lists_on I ps fun q hq => h q (by simp [hq])
    obtain ⟨us, e⟩ := h p (by simp)
    obtain ⟨z, its, n, r, hl, e2⟩ := I.lstM e
    have ec : cellsOf H p = us := by unfold cellsOf; rw [e]
    refine ⟨its :: yss, by simp [h1], ?_, fun j ys ej => ?_⟩
    · rw [List.map_cons, List.flatten_cons, List.flatten_cons, ec]
      exact r.append h2
    · cases j with
      | zero => cases ej; exact ⟨p, n, rfl, e2⟩
      | succ j =>
        obtain ⟨q, m, x1, x2⟩ := h3 j ys (by simpa using ej)
        exact ⟨q, m, by simpa using x1, x2⟩
theorem cr_sumL (hc : X.calm = true) : CallR X (.builtin "sum") rSumL := by
  intro pins s σ H vs us Q I r h
  obtain ⟨a, b, ps, rfl, ha, hb, hne, hps, hz, q⟩ := h
  obtain ⟨za, its, na, ra, hla, ea⟩ := I.lstM ha
  obtain ⟨zb, itb, nb, rb, hlb, eb⟩ := I.lstM hb
  cases rb
  obtain ⟨yss, h1, h2, h3⟩ := lists_on I ps hps
  have eu : us = [Value.ref a, Value.ref b] := by
    cases r with
    | cons r1 t =>
      cases t with
      | cons r2 t2 =>
        cases t2
        cases r1
        cases r2
        rfl
  subst eu
  have hlen : its.length = ps.length := by rw [← ra.length, List.length_map]
  have hfl : yss.flatten.length = (ps.map (cellsOf H)).flatten.length := h2.length.symm
  have hb6 : (1000000 : Nat) ≤ sizeLine := by unfold sizeLine; decide
  refine call_sumL (yss := yss) (I.ok.hd hc) (⟨_, ea, rfl, _, rfl⟩ : s.heap.IsList a its.toArray) (nb := nb) eb (by rw [List.size_toArray]; omega) (by rw [List.size_toArray, hlen]; exact List.length_pos_iff.mpr hne) (fun j ys e => ?_) (by omega) fun h' tk c n keep hcl hcs => ?_
  · obtain ⟨p, m, x1, x2⟩ := h3 j ys e
    refine ⟨p, m, ?_, x2⟩
    obtain ⟨u, y1, y2⟩ := ra.get (i := j) (x := .ref p) (by rw [List.getElem?_map, x1]; rfl)
    cases y2
    simpa using y1
  · exact ⟨.ref c, upd H c (.lst (ps.map (cellsOf H)).flatten), I.laid keep hcs (show ObjOk X.prog X.w _ _ _ (.lst (ps.map (cellsOf H)).flatten) from ⟨by omega, yss.flatten, n, h2, hcl⟩), rfl, q c (I.hok.fresh hcs)⟩
end
section
variable {K : PySem.W.Frag} {mg : Str → Option Value} {Z : Zt}
def listsD : List D → Option (List (List D))
  | [] => some []
  | .lst ys :: r => (listsD r).map (ys :: ·)
  | _ => none
theorem listsD_map : ∀ yss : List (List D), listsD (yss.map D.lst) = some yss
  | [] => rfl
  | ys :: r => by simp [listsD, listsD_map r]
theorem listsD_rp {I : Hp} {μ : List Addr} {S : Sto} {H : Hp} (o : Ok K mg Z I μ S H) : ∀ {vs : List V} {xs : List D} {yss : List (List D)}, RpL K mg I μ vs xs → listsD xs = some yss →
    ∃ ps : List Addr, vs = ps.map V.ref ∧ (∀ p ∈ ps, ∃ us, H p = some (.lst us)) ∧ RpL K mg I μ (ps.map (cellsOf H)).flatten yss.flatten ∧ (xs ≠ [] → ps ≠ [])
  | _, [], _, .nil, e => by cases e; exact ⟨[], rfl, by simp, .nil, fun h => absurd rfl h⟩
  | _, .lst ys :: r, _, .cons h t, e => by
    unfold listsD at e
    cases q : listsD r with
    | none => rw [q] at e; cases e
    | some y2 =>
      rw [q] at e
      cases e
      obtain ⟨ps, h1, h2, h3, _⟩ := listsD_rp o t q
      cases h with
      | lst hI hr =>
        rename_i p us
        have hp := o.sub _ _ hI
        refine ⟨p :: ps, by rw [h1]; rfl, fun x hx => ?_, ?_, fun _ => by simp⟩
        · rcases List.mem_cons.mp hx with rfl | hx
          · exact ⟨us, hp⟩
          · exact h2 x hx
        · rw [List.map_cons, List.flatten_cons, List.flatten_cons]
          have ec : cellsOf H p = us := by unfold cellsOf; rw [hp]
          rw [ec]
          exact hr.append h3
/-- sum(lists, []) -/
def fSumL : FSp := fun ds S Q => match ds with
  | [d, e] => match view S d, view S e with
    | .lst xs, .lst [] => onS (listsD xs) fun yss => xs ≠ [] ∧ yss.flatten.length ≤ 1000000 ∧ Q (.lst yss.flatten) S
    | _, _ => False
  | _ => False
theorem cb_sumL : CbD K mg Z rSumL fSumL := by
  intro I μ S H vs ds Q Φ ok r h k
  unfold fSumL at h
  split at h
  · cases r with
    | cons r t =>
      cases t with
      | cons r2 t2 =>
        cases t2
        split at h
        · rename_i e1 e2
          obtain ⟨yss, e3, hne, hz, h0⟩ := onS_iff h
          obtain ⟨a, us, rfl, ha, t⟩ := view_lst ok r e1
          obtain ⟨b, ub, rfl, hb, tb⟩ := view_lst ok r2 e2
          cases tb
          obtain ⟨ps, rfl, h2, h3, h4⟩ := listsD_rp ok t e3
          refine ⟨a, b, ps, rfl, ha, hb, h4 hne, h2, by rw [h3.length]; exact hz, fun c hcn => ?_⟩
          exact k _ _ _ μ S _ (Ext.new (free_of ok.sub hcn)) (ok.new hcn) (.lst upd_same (h3.ext (Ext.new (free_of ok.sub hcn)))) h0
        · exact h.elim
  · exact h.elim
end
end Sq

set_option Elab.async false
set_option maxRecDepth 100000
set_option maxHeartbeats 4000000
set_option linter.all false
/-! Comprehensions that take tuples apart. -/
namespace Sq
open PySem PySem.Spec PyProof.Rows L2
section
variable {X : Cx} {scope : Scope} {vs : List Nat} {es : List Expr} {k : Nat} {p : Pos}
theorem sb_tup2 (i j : Nat) (hi : i ∈ vs) (hj : j ∈ vs) (hg : ∀ (s : Shared) (H : Hp) (C : Addr) (cl : List (Str × Addr)) (fp : List Addr), PG (X.blk s H scope (compEnvC scope cl C X.env) fp) (.Tuple es k p) (gTup X.K 2 (gCons (gName i) (gCons (gName j) gNil)))) :
    SB X scope vs (.Tuple es k p) (gTup X.K 2 (gCons (gName i) (gCons (gName j) gNil))) (wGTup 2 (wGCons (wName i) (wGCons (wName j) wGNil))) :=
  ⟨hg, fun _ => simw_tup (simws_cons hi (simws_cons hj simws_nil))⟩
theorem sb_tup3 (i j l : Nat) (hi : i ∈ vs) (hj : j ∈ vs) (hl : l ∈ vs) (hg : ∀ (s : Shared) (H : Hp) (C : Addr) (cl : List (Str × Addr)) (fp : List Addr), PG (X.blk s H scope (compEnvC scope cl C X.env) fp) (.Tuple es k p) (gTup X.K 3 (gCons (gName i) (gCons (gName j) (gCons (gName l) gNil))))) :
    SB X scope vs (.Tuple es k p) (gTup X.K 3 (gCons (gName i) (gCons (gName j) (gCons (gName l) gNil)))) (wGTup 3 (wGCons (wName i) (wGCons (wName j) (wGCons (wName l) wGNil)))) :=
  ⟨hg, fun _ => simw_tup (simws_cons hi (simws_cons hj (simws_cons hl simws_nil)))⟩
end
end Sq

set_option Elab.async false
set_option maxRecDepth 100000
set_option maxHeartbeats 4000000
set_option linter.all false
/-! repr of dicts of small data. -/
namespace Sq
open PySem PySem.Spec PyProof.Rows L2
def kPy : Key → PyData
  | .inl i => .int i
  | .inr s => .str s
def pyV : V → Option PyData
  | .non => some .none
  | .bl b => some (.bool b)
  | .int i => some (.int i)
  | .str s => some (.str s)
  | _ => none
def pyS : D → Option PyData
  | .non => some .none
  | .bl b => some (.bool b)
  | .int i => some (.int i)
  | .str s => some (.str s)
  | _ => none
def pyKV : List (Key × V) → Option (List (PyData × PyData))
  | [] => some []
  | (k, v) :: r => match pyV v, pyKV r with
    | some p, some ps => some ((kPy k, p) :: ps)
    | _, _ => none
def pyK : List (Key × D) → Option (List (PyData × PyData))
  | [] => some []
  | (k, d) :: r => match pyS d, pyK r with
    | some p, some ps => some ((kPy k, p) :: ps)
    | _, _ => none
theorem pyV_reads {h : Heap} {v : V} {u : Value} {p : PyData} (r : RelV v u) (e : pyV v = some p) : Reads h u p [] := by
  cases v <;> simp only [pyV, Option.some.injEq, reduceCtorEq] at e <;> subst e
  · cases r; exact .none
  · cases r; exact .bool _
  · obtain ⟨t, rfl⟩ := r; exact .int _ t
  · obtain ⟨t, rfl⟩ := r; exact .str _ t
theorem key_reads {P : Program} {w : World} {h : Heap} (k : Key) (u : Value) (e : (mixKind P w).is k u = true) : Reads h u (kPy k) [] := by
  have r : RelV (kV k) u := keyIs_rel e
  cases k with
  | inl i => obtain ⟨t, rfl⟩ := r; exact .int i t
  | inr s => obtain ⟨t, rfl⟩ := r; exact .str s t
theorem pairs_read {h : Heap} : ∀ {kvs : List (Key × V)} {ws : List (Key × Value)} {D : List (PyData × PyData)}, KV kvs ws → pyKV kvs = some D → PyProof.V.PairsRead h kPy ws D []
  | [], _, D, .nil, e => by cases e; exact .nil
  | (k, v) :: r, (k', w') :: _, D, .cons r1 r2, e => by
    unfold pyKV at e
    split at e
    · rename_i p ps e1 e2
      cases e
      obtain ⟨ek, rv⟩ := r1
      have ek : k = k' := ek
      subst ek
      exact PyProof.V.PairsRead.cons (enc := kPy) (k := k) (pyV_reads (h := h) rv e1) (pairs_read r2 e2)
    · cases e
def rReprQ (K : PySem.W.Frag) (xs : List V) (H : Hp) (Q : VK) : Prop := rRepr K xs H Q ∨ ∃ (a : Addr) (kvs : List (Key × V)) (D : List (PyData × PyData)), xs = [.ref a] ∧ Rd H a (.dK kvs) ∧ pyKV kvs = some D ∧
  (PyData.dict D).showable = true ∧ (PyData.dict D).depth ≤ 60 ∧ (PyData.dict D).shown.length ≤ sizeLine ∧ Q (.str (PyData.dict D).shown) H
theorem call_reprQ {X : Cx} {j : Nat} (hg : X.A.guards = some []) (hr : Room j X.A) : CallR X (.builtin "repr") (rReprQ X.K) := by
  intro pn s0 σ G xs us Q I r h
  rcases h with h | ⟨a, kvs, D, rfl, hd, e, h1, h2, h3, q⟩
  · exact call_repr hg hr pn s0 σ G xs us Q I r h
  · obtain ⟨u, rfl, ru⟩ := vals1 r
    have hu := hr.un
    obtain ⟨sz, low, ws, rk, dd⟩ := dk_rd I.hok hd
    cases ru
    have rd := PyProof.V.reads_dictOf (h := s0.heap) (fun k u e => key_reads k u e) dd (pairs_read rk e)
    refine PySem.repr_of_reads' rd h1 (fun _ hm => ?_) hg (by omega) (fun _ _ e => e) (fun h' v tk k => ⟨.str _, G, I.kept k, ⟨_, rfl⟩, q⟩) h3
    rw [List.mem_singleton] at hm
    subst hm
    simp at low
section
variable {K : PySem.W.Frag} {mg : Str → Option Value} {Z : Zt}
theorem pyK_rp {I : Hp} {μ : List Addr} : ∀ {kv : List (Key × V)} {kd : List (Key × D)} {D' : List (PyData × PyData)}, RpK K mg I μ kv kd → pyK kd = some D' → pyKV kv = some D'
  | _, [], _, .nil, e => by cases e; rfl
  | _, (k, d) :: r, D', .cons h t, e => by
    unfold pyK at e
    split at e
    · rename_i p ps e1 e2
      cases e
      have e3 := pyK_rp t e2
      unfold pyKV
      rw [e3]
      cases d <;> simp only [pyS, Option.some.injEq, reduceCtorEq] at e1 <;> subst e1 <;> cases h <;> rfl
    · cases e
/-- repr of data, a dict of small data too -/
def fReprQ : FSp := fun ds S Q => match ds with
  | [d] => match view S d with
    | .dct kd => onS (pyK kd) fun D' => (PyData.dict D').showable = true ∧ (PyData.dict D').depth ≤ 60 ∧ (PyData.dict D').shown.length ≤ sizeLine ∧ Q (.str (PyData.dict D').shown) S
    | _ => fRepr [d] S Q
  | _ => False
theorem cb_reprQ : CbD K mg Z (rReprQ K) fReprQ := by
  intro I μ S H vs ds Q Φ ok r h k
  unfold fReprQ at h
  split at h
  · split at h
    · rename_i kd e
      cases r with
      | cons r t =>
        cases t
        obtain ⟨D', e2, h1, h2, h3, q⟩ := onS_iff h
        obtain ⟨p, kv, rfl, hr, rk⟩ := view_dct ok r e
        exact .inr ⟨p, kv, D', rfl, hr, pyK_rp rk e2, h1, h2, h3, k _ _ I μ S H .refl ok .str q⟩
    · exact .inl (cb_repr I μ S H vs _ Q Φ ok r h k)
  · exact h.elim
end
end Sq

set_option Elab.async false
set_option maxRecDepth 100000
set_option maxHeartbeats 4000000
set_option linter.all false
/-! Any data in a tuple of texts; laws that know no class. -/
namespace Sq
open PySem PySem.Spec PyProof.Rows L2
open PySem.SeqAt
section
theorem str_declines_dict (b : Str) (u : Tok) (l : Addr) (es : Array DictEntry) (ep : Nat) :
    Meets (Builtin.«str.__eq__» ⟨[.str b u, .ref l], []⟩) (fun _ R s => s.heap.get? l = some { cls := .type "dict", dict := none, data := .dict es ep, slots := #[] } ∧ R (.ok (.ret .notImplemented)) s) :=
  .of_wp fun prog w A R s h => by obtain ⟨hp, g, d, tk, os⟩ := s; obtain ⟨hl, h⟩ := h; wp_walk using wpAny_loadPart' hl, wpAny_load hl; exact ⟨_, rfl, h⟩
theorem dict_declines_str (l : Addr) (es : Array DictEntry) (ep : Nat) (b : Str) (u : Tok) :
    Meets (Builtin.«dict.__eq__» ⟨[.ref l, .str b u], []⟩) (fun _ R s => s.heap.get? l = some { cls := .type "dict", dict := none, data := .dict es ep, slots := #[] } ∧ R (.ok (.ret .notImplemented)) s) :=
  .of_wp fun prog w A R s h => by obtain ⟨hp, g, d, tk, os⟩ := s; obtain ⟨hl, h⟩ := h; have f1 := PySem.F.sub_str_dict; wp_walk using wpAny_loadPart' hl, wpAny_load hl; exact ⟨_, rfl, h⟩
variable {A : Around} {s : Shared}
theorem str_not_dict {l : Addr} {es : Array DictEntry} {ep : Nat} (b : Str) (u : Tok) (ho : s.heap.get? l = some { cls := .type "dict", dict := none, data := .dict es ep, slots := #[] }) (hu : A.units < cLine) : EqAt A s (.str b u) (.ref l) false := fun prog w E Q h => by
  unfold eqBool
  refine wpAny_holding ?_
  refine wpAny_ite_split (fun hab => absurd (eq_of_beq hab) nofun) (fun _ => ?_)
  refine wpAny_bind ?_
  exact rc_eq_decline_or (k := false) (typeIs_str s b u) ⟨_, ho, rfl⟩ (by decide) PySem.F.sub_dict_str PySem.F.slot_str_eq PySem.F.slot_dict_eq_refl
    (fun _ hq => call_meets PySem.F.slot_str_eq (typeIs_str s b u) PySem.F.entry_str_eq (PySem.F.args_str_eq_2 _ _) (str_declines_dict b u l es ep) ⟨ho, hq⟩)
    (fun _ hq => call_meets PySem.F.slot_dict_eq_refl ⟨_, ho, rfl⟩ PySem.F.entry_dict_eq (PySem.F.args_dict_eq_2 _ _) (dict_declines_str l es ep b u) ⟨ho, hq⟩)
    (fun _ hq => wpAny_of_eq (rfl : isSame (.str b u) (.ref l) = pure false) hq) (.inr hu) (wpAny_truthy_bool h)
end
section
variable {X : Cx}
/-- a list, a tuple, a dict in a tuple of texts -/
def rInU (K : PySem.W.Frag) : R2 := fun x y H Q => ∃ (a p : Addr) (ys : List Str), x = .ref a ∧ y = .ref p ∧ SqT K H p (ys.map V.str) ∧ ((∃ xs, SqL K H a xs) ∨ (∃ xs, SqT K H a xs) ∨ ∃ kvs, Rd H a (.dK kvs)) ∧ Q (.bl false) H
theorem op_inU (hu : X.A.units + 64 < cLine) : OpR X (compareOp .In) (rInU X.K) := by
  intro pins s σ H x y v u Q I rx ry h
  obtain ⟨a, p, ys, rfl, rfl, hp, hx, q⟩ := h
  cases rx
  cases ry
  obtain ⟨its, rv, pl, hz⟩ := I.tuple hp
  have hu1 : X.A.in1.units < cLine := by
    have : X.A.in1.units = X.A.units + 1 := rfl
    omega
  have mem : ∀ z, z ∈ its.toArray → ∃ b t, z = Value.str b t := fun z hz => by
    have hz : z ∈ its := by simpa using hz
    obtain ⟨i, e⟩ := List.getElem?_of_mem hz
    obtain ⟨t, e2⟩ := SS.strs_at (strsAre_of rv) i z e
    exact ⟨_, t, e2⟩
  refine in_tupleAt (fun _ => false) pl (fun z hz => ?_) ⟨.bl _, H, I, rfl, ?_⟩
  · obtain ⟨b, t, rfl⟩ := mem z hz
    rcases hx with ⟨xs, hx⟩ | ⟨xs, hx⟩ | ⟨kvs, hx⟩
    · obtain ⟨its2, _, pl2, _⟩ := I.list hx
      exact EqAt.str_list b t pl2.isList hu1
    · obtain ⟨its2, _, pl2, _⟩ := I.tuple hx
      exact EqAt.str_tuple b t pl2 hu1
    · obtain ⟨_, _, ws, _, ⟨o, es, ep, ho, ⟨c1, c2, c3⟩, hd, _⟩⟩ := dk_rd I.hok hx
      obtain ⟨oc, od, odt, osl⟩ := o
      simp only at c1 c2 c3 hd
      subst c1 c2 c3 hd
      exact str_not_dict b t ho hu1
  · have e2 : ∀ l : List Value, (l.any fun _ => false) = false := fun l => by induction l <;> simp_all
    simpa [e2] using q
variable {K : PySem.W.Frag} {mg : Str → Option Value} {Z : Zt}
/-- x in a tuple of texts, x any data -/
def fInQ : F2 := fun S x y Q => match view S x with
  | .lst _ => match view S y with | .tup ds => onS (strsD ds) fun _ => Q (.bl false) S | _ => False
  | .tup _ => match view S y with | .tup ds => onS (strsD ds) fun _ => Q (.bl false) S | _ => False
  | .dct _ => match view S y with | .tup ds => onS (strsD ds) fun _ => Q (.bl false) S | _ => False
  | _ => fIn false S x y Q
theorem opd_inQ : OpD K mg Z (fun x y H Q => rIn K false x y H Q ∨ rInU K x y H Q) fInQ := by
  intro I μ S H x y a b Q Φ ok ra rb q k
  have fin : ∀ (p : Addr), x = .ref p → ((∃ xs, SqL K H p xs) ∨ (∃ xs, SqT K H p xs) ∨ ∃ kvs, Rd H p (.dK kvs)) → (match view S b with | .tup ds => onS (strsD ds) fun _ => Φ (.bl false) S | _ => False) → rIn K false x y H Q ∨ rInU K x y H Q := fun p ex hx q => by
    split at q
    · rename_i ds e
      obtain ⟨ys, e2, q⟩ := onS_iff q
      obtain ⟨p2, vs, rfl, _, h1, r1⟩ := view_tup ok rb e
      have := strsD_rp r1 e2
      subst this
      exact .inr ⟨p, p2, ys, ex, rfl, h1, hx, k _ _ I μ S H .refl ok .bl q⟩
    · exact q.elim
  unfold fInQ at q
  split at q
  · rename_i ds e
    obtain ⟨p, vs, rfl, h1, _⟩ := view_lst ok ra e
    exact fin p rfl (.inl ⟨vs, SqL.of h1⟩) q
  · rename_i ds e
    obtain ⟨p, vs, rfl, _, h1, _⟩ := view_tup ok ra e
    exact fin p rfl (.inr (.inl ⟨vs, h1⟩)) q
  · rename_i kd e
    obtain ⟨p, kv, rfl, hr, _⟩ := view_dct ok ra e
    exact fin p rfl (.inr (.inr ⟨kv, hr⟩)) q
  · exact .inl (opd_in I μ S H x y a b Q Φ ok ra rb q k)
theorem cm_inQ (hu : X.A.units + 64 < cLine) : CmpR X .In (fun x y H Q => rIn X.K false x y H Q ∨ rInU X.K x y H Q) fInQ := ⟨op_in_seq.or (op_inU hu), fun _ => opd_inQ⟩
end
theorem KIB.none {K : PySem.W.Frag} {mg : Str → Option Value} {c : Str} {T : String} (h : mg c = none) : KIB K mg c T := ⟨fun C e => by rw [h] at e; cases e⟩
end Sq

set_option Elab.async false
set_option maxRecDepth 100000
set_option maxHeartbeats 4000000
set_option linter.all false
/-! Texts drawn. -/
namespace Sq
open PySem L2
local macro_rules | `(tactic| walk_at "wk") => `(tactic| simp only [wSeq, wAsg, wVar, wC, wOp, wTest, wIfS, wRet, wRetN, wIf, wCall, wCons, wNil, wName, wGTup, wGCons, wGNil, wPar, wPar3, wTup, wLst, wLstM, wAnd, wOr, wNot, wTru, tru, wAndV, wOrV, wNotV, wSkip, wDrop, wB, wNeg, fAdd, fSub, fMod, fMulA, fDiv, fEq, fEqB, fNe, fCmp, fI, fIsN, fNotN, isNon, fLen, lenS, fIx, gt, st, res_i, res_b, res_s, res_n, res_t, res_l, res_d, res_c, res_scr, view_i, view_b, view_s, view_n, view_t, view_l, view_d, view_c, Rt.res, Rt.view, rule_res, onS_some, ro, List.map_cons, List.map_nil, List.length_cons, List.length_nil, List.cons_append, List.nil_append, List.append_nil, List.replicate_succ, List.replicate_zero, Nat.reduceAdd, Nat.reduceSub, Nat.sub_self, so_inj, so_beq, at0, at1, at2, at3, gx0, gx1, gx2, gx3, nc0, nc1, nc2, nc3, nc4, nc6, lm0, lm1, lm2, lm3, lm4, lm6, String.reduceEq, Int.reduceEq, Int.reduceLT, Int.reduceLE, decide_true, decide_false, Bool.not_true, Bool.not_false, reduceIte, true_and, and_true, Bool.false_eq_true, reduceCtorEq, List.length_map, view_hl, *])
/-! ### texts of signs -/
theorem lets : (Str.ofString "abcdefghijklmnopqrstuvwxyz").cps.toList = (List.range 26).map (97 + ·) := by decide +kernel
theorem lets_at {j : Nat} (h : j < 26) : atI (Str.ofString "abcdefghijklmnopqrstuvwxyz").cps.toList (j : Int) = some (97 + j) := by
  rw [lets, atN, List.getElem?_map, List.getElem?_range h]; rfl
theorem lets_len : (Str.ofString "abcdefghijklmnopqrstuvwxyz").length = 26 := by decide +kernel
theorem joinL_nil : ∀ ys : List (List Nat), TL.joinL [] ys = ys.flatten
  | [] => rfl
  | [p] => by simp [TL.joinL]
  | p :: q :: r => by simp [TL.joinL, joinL_nil (q :: r)]
theorem flat1 (cs : List Nat) : (cs.map fun c => [c]).flatten = cs := by
  induction cs with
  | nil => rfl
  | cons c cs ih => simp [ih]
/-- "".join(signs) -/
theorem join_sg (cs : List Nat) : Txt.join (Str.ofString "") (cs.map sg) = SX.S cs := by
  have e : (Str.ofString "") = SX.S [] := by decide +kernel
  have e2 : cs.map sg = (cs.map fun c => [c]).map SX.S := by rw [List.map_map]; rfl
  rw [e, e2, SX.join_S, joinL_nil, flat1]
theorem sum_sg (cs : List Nat) : ((cs.map sg).map (·.length)).sum + (cs.map sg).length * (Str.ofString "").length = cs.length := by
  have e : (Str.ofString "").length = 0 := by decide +kernel
  rw [e, Nat.mul_zero, Nat.add_zero, List.map_map]
  induction cs with
  | nil => rfl
  | cons c cs ih =>
    rw [List.map_cons, List.sum_cons, ih]
    show 1 + cs.length = cs.length + 1
    omega
theorem cut_to {α : Type} (xs : List α) (j : Nat) : cutD xs none (some (j : Int)) = xs.take j := by
  unfold cutD
  rw [HT.sIx_none, HT.sIx_nat, List.drop_zero, Nat.sub_zero]
  by_cases h : j ≤ xs.length
  · rw [Nat.min_eq_left h]
  · rw [Nat.min_eq_right (by omega), List.take_length, List.take_of_length_le (by omega)]
theorem cut_from {α : Type} (xs : List α) (j : Nat) : cutD xs (some (j : Int)) none = xs.drop j := by
  unfold cutD
  rw [HT.sIx_none, HT.sIx_nat]
  by_cases h : j ≤ xs.length
  · rw [Nat.min_eq_left h, List.take_of_length_le (by rw [List.length_drop]; exact Nat.le_refl _)]
  · rw [Nat.min_eq_right (by omega), List.drop_length, List.drop_of_length_le (by omega)]; simp
def okc (c : Nat) : Prop := (32 ≤ c ∧ c ≤ 126 ∧ c ≠ 37) ∨ c = 10
def okcB (c : Nat) : Bool := (decide (32 ≤ c) && decide (c ≤ 126) && decide (c ≠ 37)) || decide (c = 10)
theorem okc_of {c : Nat} (h : okcB c = true) : okc c := by
  unfold okcB at h
  simp only [Bool.or_eq_true, Bool.and_eq_true, decide_eq_true_eq] at h
  unfold okc
  omega
def okt (s : Str) : Prop := s.cps.toList.length ≤ 31 ∧ ∀ c, c ∈ s.cps.toList → okc c
def sp_q_sign : FSp := fun ds S Q => ∃ k : Nat, ds = [.h k] ∧ S[k]? = some .bag ∧ ∀ c, okc c → Q (.str (sg c)) S
def sp_q_text : FSp := fun ds S Q => ∃ k : Nat, ds = [.h k] ∧ S[k]? = some .bag ∧ ∀ s, okt s → Q (.str s) S
/-- _law_sign: slots 0 _law_bag_here 1 _law_signs -/
def w_q_sign : WS :=
  (wSeq (wAsg (wC (.str " !\"#$&'()*+,-./0123456789:;<=>?@ABCDEFGHIJKLMNOPQRSTUVWXYZ[\\]^_`abcdefghijklmnopqrstuvwxyz{|}~")) (wName 1)) (wRet (wOp fIx (wVar 1) (wCall 2 sp_q_take [] (wCons (wVar 0) (wCons (wB fLen (wCons (wVar 1) wNil)) wNil))))))
def n_q_sign : List Str := ["_law_bag_here", "_law_signs"]
/-- _law_text: slots 0 _law_bag_here 1 _law_way 2 _law_many 3 _law_small 4 _law_found 5 _law_k 6 _law_at -/
def w_q_text_elt1 : WE :=
  (wIf (wTest (wOp (fCmp fun i j => decide (i < j)) (wVar 1) (wC (.int 3)))) (wOp fIx (wVar 3) (wCall 2 sp_q_take [] (wCons (wVar 0) (wCons (wC (.int 26)) wNil)))) (wCall 1 sp_q_sign [] (wCons (wVar 0) wNil)))
def w_q_text_p1 : WS :=
  (wAsg (wCall 2 sp_q_take [] (wCons (wVar 0) (wCons (wB fLen (wCons (wVar 4) wNil)) wNil))) (wName 6))
def w_q_text_p2 : WS :=
  (wAsg (wOp fAdd (wOp fAdd (wSl (wVar 4) wNoPart (wPart (wVar 6))) (wOp fIx (wLst (wCons (wC (.str "\n")) (wCons (wC (.str "A")) (wCons (wC (.str "z")) (wCons (wC (.str "_")) (wCons (wC (.str "0")) (wCons (wC (.str " ")) wNil))))))) (wCall 2 sp_q_take [] (wCons (wVar 0) (wCons (wC (.int 6)) wNil))))) (wSl (wVar 4) (wPart (wOp fAdd (wVar 6) (wC (.int 1)))) wNoPart)) (wName 4))
def w_q_text_0 : WS :=
  (wAsg (wTup (wCons (wCall 2 sp_q_take [] (wCons (wVar 0) (wCons (wC (.int 5)) wNil))) (wCons (wOp fIx (wLst (wCons (wC (.int 0)) (wCons (wC (.int 1)) (wCons (wC (.int 7)) (wCons (wC (.int 8)) (wCons (wC (.int 9)) (wCons (wCall 2 sp_q_take [] (wCons (wVar 0) (wCons (wC (.int 30)) wNil))) wNil))))))) (wCall 2 sp_q_take [] (wCons (wVar 0) (wCons (wC (.int 6)) wNil)))) wNil))) (wGTup 2 (wGCons (wName 1) (wGCons (wName 2) wGNil))))
def w_q_text_1 : WS :=
  (wAsg (wC (.str "abcdefghijklmnopqrstuvwxyz")) (wName 3))
def w_q_text_2 : WS :=
  (wAsg (wJoin (wC (.str "")) (wLc (wRng1 (wCons (wVar 2) wNil)) (wName 5) wYes (w_q_text_elt1) [5])) (wName 4))
def w_q_text_3 : WS :=
  (wIfS (wAnd (wTest (wOp (fIn false) (wVar 1) (wTup (wCons (wC (.int 1)) (wCons (wC (.int 4)) wNil))))) (wTest (wOp fNe (wVar 4) (wC (.str ""))))) (wSeq (w_q_text_p1) (w_q_text_p2)) wSkip)
def w_q_text_4 : WS :=
  (wRet (wVar 4))
def w_q_text : WS :=
  (wSeq (w_q_text_0) (wSeq (w_q_text_1) (wSeq (w_q_text_2) (wSeq (w_q_text_3) (w_q_text_4)))))
def n_q_text : List Str := ["_law_bag_here", "_law_way", "_law_many", "_law_small", "_law_found", "_law_k", "_law_at"]
theorem tab_len : (Str.ofString " !\"#$&'()*+,-./0123456789:;<=>?@ABCDEFGHIJKLMNOPQRSTUVWXYZ[\\]^_`abcdefghijklmnopqrstuvwxyz{|}~").length = 94 := by decide +kernel
theorem tab_ok : ∀ c, c ∈ (Str.ofString " !\"#$&'()*+,-./0123456789:;<=>?@ABCDEFGHIJKLMNOPQRSTUVWXYZ[\\]^_`abcdefghijklmnopqrstuvwxyz{|}~").cps.toList → okc c := by
  have h : ((Str.ofString " !\"#$&'()*+,-./0123456789:;<=>?@ABCDEFGHIJKLMNOPQRSTUVWXYZ[\\]^_`abcdefghijklmnopqrstuvwxyz{|}~").cps.toList.all okcB) = true := by decide +kernel
  exact fun c hc => okc_of (List.all_eq_true.mp h c hc)
theorem law_q_sign (ds : List D) (S : Sto) (Φ : D → Sto → Prop) (h : sp_q_sign ds S Φ) : w_q_sign { nx := fun _ S' => Φ .non S', rt := Φ } (ro n_q_sign ds) S := by
  obtain ⟨k, rfl, hb, q⟩ := h
  have r0 := res_hb hb
  have tl := tab_len
  have tm := tab_ok
  unfold w_q_sign n_q_sign
  generalize (Str.ofString " !\"#$&'()*+,-./0123456789:;<=>?@ABCDEFGHIJKLMNOPQRSTUVWXYZ[\\]^_`abcdefghijklmnopqrstuvwxyz{|}~") = T at tl tm ⊢
  have hl : T.length ≤ LIM := by rw [tl]; unfold LIM; omega
  simp only [ro, List.map_cons, List.map_nil, List.length_cons, List.length_nil, List.cons_append, List.nil_append, Nat.reduceAdd, Nat.reduceSub, List.replicate_succ, List.replicate_zero, wSeq, wAsg, wC, wName, st, wRet, wOp, wVar, wCall, wCons, wNil, wB, gt, onS_some, res_s, r0, fLen, lenS, view_s, if_pos hl, List.append_nil, true_and, tl]
  refine ⟨k, (94 : Nat), rfl, hb, by omega, by omega, fun v v0 v1 => ?_⟩
  obtain ⟨j, rfl⟩ := Int.eq_ofNat_of_zero_le v0
  have hj : j < T.cps.toList.length := by
    have : T.cps.toList.length = T.length := rfl
    omega
  simp only [fIx, view_s]
  refine ⟨hl, ?_⟩
  rw [atN, List.getElem?_eq_getElem hj]
  exact q _ (tm _ (List.getElem_mem hj))
theorem text_elt {k : Nat} {S : Sto} {w : Int} {s2 s4 s5 s6 : Option D} {Q : D → Sto → Prop} (hb : S[k]? = some .bag) (q : ∀ c, okc c → Q (.str (sg c)) S) :
    w_q_text_elt1 [some (.h k), some (.int w), s2, some (.str (Str.ofString "abcdefghijklmnopqrstuvwxyz")), s4, s5, s6] S Q := by
  have r0 := res_hb hb
  unfold w_q_text_elt1
  simp only [wIf, wTest, wOp, wVar, wC, gt, onS_some, res_i, fCmp, fI, view_i, true_and]
  by_cases z : w < 3
  · have e : decide (w < 3) = true := by simp [z]
    simp only [e, if_true, wOp, wVar, wCall, wCons, wNil, wC, gt, onS_some, res_s, r0, List.append_nil, List.length_cons, List.length_nil, Nat.reduceAdd, true_and]
    refine ⟨k, 26, rfl, hb, by decide, by decide, fun v v0 v1 => ?_⟩
    obtain ⟨j, rfl⟩ := Int.eq_ofNat_of_zero_le v0
    simp only [fIx, view_s]
    refine ⟨by rw [lets_len]; unfold LIM; omega, ?_⟩
    rw [lets_at (by omega)]
    exact q _ (by unfold okc; omega)
  · have e : decide (w < 3) = false := by simp [z]
    simp only [e, Bool.false_eq_true, if_false, wCall, wCons, wNil, wVar, gt, onS_some, r0, List.append_nil, List.length_cons, List.length_nil, Nat.reduceAdd, true_and]
    exact ⟨k, rfl, hb, q⟩
theorem six_at {m i : Int} (h0 : 0 ≤ m) (h1 : m < 30) (i0 : 0 ≤ i) (i1 : i < 6) : ∃ n : Int, 0 ≤ n ∧ n < 30 ∧ atI [D.int 0, .int 1, .int 7, .int 8, .int 9, .int m] i = some (.int n) := by
  have hi : i = 0 ∨ i = 1 ∨ i = 2 ∨ i = 3 ∨ i = 4 ∨ i = 5 := by omega
  rcases hi with rfl | rfl | rfl | rfl | rfl | rfl
  · exact ⟨0, by omega, by omega, rfl⟩
  · exact ⟨1, by omega, by omega, rfl⟩
  · exact ⟨7, by omega, by omega, rfl⟩
  · exact ⟨8, by omega, by omega, rfl⟩
  · exact ⟨9, by omega, by omega, rfl⟩
  · exact ⟨m, h0, h1, rfl⟩
theorem odd_at {i : Int} (i0 : 0 ≤ i) (i1 : i < 6) : ∃ c : Nat, okc c ∧ atI [D.str (Str.ofString "\n"), .str (Str.ofString "A"), .str (Str.ofString "z"), .str (Str.ofString "_"), .str (Str.ofString "0"), .str (Str.ofString " ")] i = some (.str (sg c)) := by
  have e10 : Str.ofString "\n" = sg 10 := by decide +kernel
  have e65 : Str.ofString "A" = sg 65 := by decide +kernel
  have e122 : Str.ofString "z" = sg 122 := by decide +kernel
  have e95 : Str.ofString "_" = sg 95 := by decide +kernel
  have e48 : Str.ofString "0" = sg 48 := by decide +kernel
  have e32 : Str.ofString " " = sg 32 := by decide +kernel
  rw [e10, e65, e122, e95, e48, e32]
  have hi : i = 0 ∨ i = 1 ∨ i = 2 ∨ i = 3 ∨ i = 4 ∨ i = 5 := by omega
  rcases hi with rfl | rfl | rfl | rfl | rfl | rfl
  · exact ⟨10, by unfold okc; omega, rfl⟩
  · exact ⟨65, by unfold okc; omega, rfl⟩
  · exact ⟨122, by unfold okc; omega, rfl⟩
  · exact ⟨95, by unfold okc; omega, rfl⟩
  · exact ⟨48, by unfold okc; omega, rfl⟩
  · exact ⟨32, by unfold okc; omega, rfl⟩
theorem law_q_text (ds : List D) (S : Sto) (Φ : D → Sto → Prop) (h : sp_q_text ds S Φ) : w_q_text { nx := fun _ S' => Φ .non S', rt := Φ } (ro n_q_text ds) S := by
  obtain ⟨k, rfl, hb, q⟩ := h
  have r0 := res_hb hb
  unfold w_q_text n_q_text
  simp only [ro, List.map_cons, List.map_nil, List.length_cons, List.length_nil, List.cons_append, List.nil_append, Nat.reduceAdd, Nat.reduceSub, List.replicate_succ, List.replicate_zero]
  rw [wSeq]
  unfold w_q_text_0
  simp only [wAsg, wTup, wCons, wNil, wCall, wVar, wC, wOp, wLst, gt, onS_some, r0, List.append_nil, List.length_cons, List.length_nil, Nat.reduceAdd, true_and, lm6]
  refine ⟨k, 5, rfl, hb, by decide, by decide, fun w w0 w1 => ?_⟩
  simp only [r0]
  refine ⟨k, 30, rfl, hb, by decide, by decide, fun m m0 m1 => ?_⟩
  simp only [r0, lm6, true_and]
  refine ⟨k, 6, rfl, hb, by decide, by decide, fun i i0 i1 => ?_⟩
  obtain ⟨n, n0, n1, hn⟩ := six_at m0 m1 i0 i1
  simp only [fIx, view_l, hn, onS_some, lm2, true_and, wGTup, wGCons, wGNil, wName, view_t, List.length_cons, List.length_nil, Nat.reduceAdd, st]
  rw [wSeq]
  unfold w_q_text_1
  simp only [wAsg, wC, wName, st]
  rw [wSeq]
  unfold w_q_text_2
  obtain ⟨n', rfl⟩ := Int.eq_ofNat_of_zero_le n0
  simp only [wAsg, wJoin, wC, wLc, wRng1, wCons, wNil, wVar, gt, onS_some, res_i]
  refine ⟨by unfold BIG; omega, by unfold BIG; omega, ?_⟩
  have lr : (rngD 0 (Int.toNat (n' : Int))).length = n' := by simp [rngD]
  refine comp_all (fun _ c => okc c) (fun c => D.str (sg c)) (by rw [lr]; simp only [List.length_nil]; unfold LIM; omega) (fun d _ Q' hq => ?_) fun ys hys => ?_
  · simp only [wp, st]
    exact text_elt hb hq
  have ly : ys.length = n' := by rw [← hys.len, lr]
  have oky : ∀ c, c ∈ ys → okc c := fun c hc => hys.right (fun _ _ _ h => h) c hc
  have ey : ([] : List D) ++ ys.map (fun c => D.str (sg c)) = (ys.map sg).map D.str := by rw [List.nil_append, List.map_map]; rfl
  rw [ey]
  simp only [view_l, strsD_map, onS_some]
  refine ⟨by rw [sum_sg]; omega, ?_⟩
  rw [join_sg]
  simp only [wName, st]
  have fin : ∀ (s6 : Option D) (zs : List Nat), zs.length ≤ 31 → (∀ c, c ∈ zs → okc c) → w_q_text_4 { nx := fun _ S' => Φ .non S', rt := Φ } [some (.h k), some (.int w), some (.int (n' : Int)), some (.str (Str.ofString "abcdefghijklmnopqrstuvwxyz")), some (.str (SX.S zs)), none, s6] S := fun s6 zs hl hz => by
    unfold w_q_text_4
    simp only [wRet, wVar, gt, onS_some, res_s]
    exact q _ ⟨by simpa [SX.S] using hl, by simpa [SX.S] using hz⟩
  have ls : (SX.S ys).length = ys.length := SX.S_len ys
  have hlim : (SX.S ys).length ≤ LIM := by rw [ls]; unfold LIM; omega
  rw [wSeq]
  unfold w_q_text_3
  simp only [wIfS, wAnd, wTest, wOp, wVar, wTup, wCons, wNil, wC, gt, onS_some, res_i, List.length_cons, List.length_nil, Nat.reduceAdd, lm2, true_and, fIn, scV, view_t, scVs, Bool.false_eq_true, if_false]
  generalize inV (V.int w) [V.int 1, V.int 4] = b1
  cases b1 with
  | false =>
    simp only [Bool.false_eq_true, if_false, wSkip]
    exact fin _ ys (by omega) oky
  | true =>
    simp only [if_true, res_s, fNe, fEqB, view_s]
    by_cases z : SX.S ys = Str.ofString ""
    · simp only [z, decide_true, Bool.not_true, Bool.false_eq_true, if_false, wSkip]
      rw [← z]
      exact fin _ ys (by omega) oky
    · have e : decide (SX.S ys = Str.ofString "") = false := by simp [z]
      have pos : 0 < ys.length := by
        cases ys with
        | nil => exact absurd (by decide +kernel) z
        | cons c r => simp
      simp only [e, Bool.not_false, if_true]
      rw [wSeq]
      unfold w_q_text_p1
      simp only [wAsg, wCall, wCons, wNil, wVar, wB, gt, onS_some, r0, res_s, fLen, lenS, view_s, if_pos hlim, List.append_nil, List.length_cons, List.length_nil, Nat.reduceAdd, true_and]
      refine ⟨k, ((SX.S ys).length : Nat), rfl, hb, by omega, by omega, fun v v0 v1 => ?_⟩
      obtain ⟨j, rfl⟩ := Int.eq_ofNat_of_zero_le v0
      simp only [wName, st]
      unfold w_q_text_p2
      simp only [wAsg, wOp, wSl, wNoPart, wPart, wVar, gt, onS_some, res_s, res_i, fSl, view_s]
      refine ⟨hlim, ?_⟩
      simp only [wLst, wCons, wNil, wC, wCall, wVar, gt, onS_some, r0, List.append_nil, List.length_cons, List.length_nil, Nat.reduceAdd, lm6, true_and]
      refine ⟨k, 6, rfl, hb, by decide, by decide, fun i i0 i1 => ?_⟩
      obtain ⟨c, okcc, hc⟩ := odd_at i0 i1
      have c1 : cutS (SX.S ys) none (some (j : Int)) = SX.S (ys.take j) := by
        have := cut_to ys j
        unfold cutD at this
        unfold cutS
        rw [ls]
        show SX.S _ = _
        exact congrArg SX.S this
      have c2 : cutS (SX.S ys) (some ((j : Int) + 1)) none = SX.S (ys.drop (j + 1)) := by
        have := cut_from ys (j + 1)
        unfold cutD at this
        unfold cutS
        rw [ls]
        show SX.S _ = _
        have e : ((j : Int) + 1) = ((j + 1 : Nat) : Int) := by omega
        rw [e]
        exact congrArg SX.S this
      have lt : ∀ l : List Nat, (SX.S l).length = l.length := SX.S_len
      have l1 : (sg c).length = 1 := rfl
      simp only [fIx, view_l, hc, onS_some, fAdd, view_s, view_i, wC, res_s, res_i, c1]
      have a1 : SX.S (ys.take j) ++ sg c = SX.S (ys.take j ++ [c]) := SX.S_cat _ [c]
      refine ⟨by rw [lt, l1, List.length_take]; unfold LIM; omega, ?_⟩
      rw [a1]
      refine ⟨hlim, ?_⟩
      rw [c2]
      refine ⟨by rw [lt, lt, List.length_append, List.length_take, List.length_drop, List.length_singleton]; unfold LIM; omega, ?_⟩
      rw [SX.S_cat]
      simp only [wName, st]
      refine fin _ _ (by rw [List.length_append, List.length_append, List.length_take, List.length_drop, List.length_singleton]; omega) fun x hx => ?_
      rcases List.mem_append.mp hx with hx | hx
      · rcases List.mem_append.mp hx with hx | hx
        · exact oky x (List.mem_of_mem_take hx)
        · rw [List.mem_singleton] at hx; subst hx; exact okcc
      · exact oky x (List.mem_of_mem_drop hx)
end Sq

set_option Elab.async false
set_option maxRecDepth 100000
set_option maxHeartbeats 4000000
set_option linter.all false
/-! Values known. -/
namespace Sq
open PySem L2
local macro_rules | `(tactic| walk_at "wk") => `(tactic| simp only [wSeq, wAsg, wVar, wC, wOp, wTest, wIfS, wRet, wRetN, wIf, wCall, wCons, wNil, wName, wGTup, wGCons, wGNil, wPar, wPar3, wTup, wLst, wLstM, wAnd, wOr, wNot, wTru, tru, wAndV, wOrV, wNotV, wSkip, wDrop, wB, wNeg, fAdd, fSub, fMod, fMulA, fDiv, fEq, fEqB, fNe, fCmp, fI, fIsN, fNotN, isNon, fLen, lenS, fIx, gt, st, res_i, res_b, res_s, res_n, res_t, res_l, res_d, res_c, res_scr, view_i, view_b, view_s, view_n, view_t, view_l, view_d, view_c, Rt.res, Rt.view, rule_res, onS_some, ro, List.map_cons, List.map_nil, List.length_cons, List.length_nil, List.cons_append, List.nil_append, List.append_nil, List.replicate_succ, List.replicate_zero, Nat.reduceAdd, Nat.reduceSub, Nat.sub_self, so_inj, so_beq, at0, at1, at2, at3, gx0, gx1, gx2, gx3, nc0, nc1, nc2, nc3, nc4, nc6, lm0, lm1, lm2, lm3, lm4, lm6, String.reduceEq, Int.reduceEq, Int.reduceLT, Int.reduceLE, decide_true, decide_false, Bool.not_true, Bool.not_false, reduceIte, true_and, and_true, Bool.false_eq_true, reduceCtorEq, List.length_map, view_hl, *])
/-! ### any value of k11 -/
def sA : Str := "a"
def abD : List (Key × D) := [(.inr sA, .int 1)]
inductive Thing : D → Prop
  | text {s : Str} : okt s → Thing (.str s)
  | int {i : Int} : -(10 ^ 39) < i → i < 10 ^ 39 → Thing (.int i)
  | non : Thing .non
  | bl (b : Bool) : Thing (.bl b)
  | nil : Thing (.lst [])
  | la : Thing (.lst [.str sA])
  | ta : Thing (.tup [.str sA])
  | da : Thing (.dct abD)
  | ti : Thing (.tup [.int 1])
  | li {i : Int} : -(10 ^ 39) < i → i < 10 ^ 39 → Thing (.lst [.int i])
def kI : D → Bool
  | .int _ => true
  | .bl _ => true
  | _ => false
def kB : D → Bool
  | .bl _ => true
  | _ => false
def kS : D → Bool
  | .str _ => true
  | _ => false
theorem Thing.res {d : D} (h : Thing d) (S : Sto) : res S d = d := by cases h <;> rfl
theorem Thing.view {d : D} (h : Thing d) (S : Sto) : view S d = d := by cases h <;> rfl
theorem Thing.kind {d : D} (h : Thing d) : ∃ k, kindT d = some k ∧ kindIs k "int" = kI d ∧ kindIs k "bool" = kB d ∧ kindIs k "str" = kS d := by
  cases h <;> exact ⟨_, rfl, by simp only [kI]; decide, by simp only [kB]; decide, by simp only [kS]; decide⟩
theorem Thing.plain {d : D} (h : Thing d) : plain d := by cases h <;> trivial
def SML : List Nat := (Str.ofString "abcdefghijklmnopqrstuvwxyz").cps.toList
def nm : D → Bool
  | .str s => decide (1 ≤ s.length) && decide (s.length ≤ 8) && s.cps.toList.all fun c => decide (c ∈ SML)
  | _ => false
def lt : D → Bool
  | .str s => decide (s ≠ Str.ofString "") && s.cps.toList.all fun c => decide (c ≠ 10)
  | _ => false
def mo : D → Bool
  | .str s => inV (.str s) [.str (Str.ofString "come"), .str (Str.ofString "read")]
  | _ => false
def sp_is_name : FSp := fun ds S Q => ∃ d, ds = [d] ∧ Thing d ∧ Q (.bl (nm d)) S
def sp_is_letters : FSp := fun ds S Q => ∃ d, ds = [d] ∧ Thing d ∧ Q (.bl (lt d)) S
def sp_is_moment : FSp := fun ds S Q => ∃ d, ds = [d] ∧ Thing d ∧ Q (.bl (mo d)) S
def sp_q_thing : FSp := fun ds S Q => ∃ k : Nat, ds = [.h k] ∧ S[k]? = some .bag ∧ lowS S ∧ ∀ d, Thing d → Q d S
def sp_q_due : FSp := fun ds S Q => ∃ (l : Int) (d : D), ds = [.int l, d] ∧ Thing d ∧ Q (.lst [.bl (isI d), .bl (isN l d), .bl (nm d), .bl (lt d), .bl (mo d)]) S
theorem isB_word {ρ : Ro} {S : Sto} {i : Nat} {d : D} {T : String} {b : Bool} {Q : D → Sto → Prop} (g : gt ρ i = some d) (h : Thing d) (hk : ∀ k, kindT d = some k → kindIs k T = b) (q : Q (.bl b) S) : wIsB T "Rule" (wVar i) ρ S Q := by
  obtain ⟨k, e, _⟩ := h.kind
  simp only [wIsB, wVar, g, onS_some, h.res, h.view, e]
  rw [hk k e]
  exact q
theorem Thing.kStr {d : D} (h : Thing d) : ∀ k, kindT d = some k → kindIs k "str" = kS d := fun k e => by
  obtain ⟨k', e', _, _, x⟩ := h.kind
  rw [e] at e'; cases e'; exact x
theorem Thing.kInt {d : D} (h : Thing d) : ∀ k, kindT d = some k → kindIs k "int" = kI d := fun k e => by
  obtain ⟨k', e', x, _, _⟩ := h.kind
  rw [e] at e'; cases e'; exact x
theorem Thing.kBool {d : D} (h : Thing d) : ∀ k, kindT d = some k → kindIs k "bool" = kB d := fun k e => by
  obtain ⟨k', e', _, x, _⟩ := h.kind
  rw [e] at e'; cases e'; exact x
theorem Thing.str {d : D} (h : Thing d) : (∃ s, d = .str s ∧ okt s) ∨ (kS d = false ∧ nm d = false ∧ lt d = false ∧ mo d = false) := by
  cases h with
  | text h => exact .inl ⟨_, rfl, h⟩
  | _ => exact .inr ⟨rfl, rfl, rfl, rfl⟩
theorem okt_lim {s : Str} (h : okt s) : s.length ≤ LIM := by
  have := h.1
  have e : s.length = s.cps.toList.length := rfl
  rw [e]
  unfold LIM
  omega
/-- is_name: slots 0 thing 1 sign -/
def w_is_name : WS :=
  (wSeq (wIfS (wOr (wNot (wTru (wIsB "str" "Rule" (wVar 0)))) (wNot (wTest (wChain (fCmp fun i j => decide (i ≤ j)) (fCmp fun i j => decide (i ≤ j)) (wC (.int 1)) (wB fLen (wCons (wVar 0) wNil)) (wC (.int 8)))))) (wRet (wC (.bl false))) wSkip) (wRet (wB fAll (wCons (wLc (wItS (wVar 0)) (wName 1) wYes (wOp (fInSg false) (wVar 1) (wC (.str "abcdefghijklmnopqrstuvwxyz"))) [1]) wNil))))
def n_is_name : List Str := ["thing", "sign"]
/-- is_letters: slots 0 thing 1 sign -/
def w_is_letters : WS :=
  (wSeq (wIfS (wOr (wNot (wTru (wIsB "str" "Rule" (wVar 0)))) (wTest (wOp fEq (wVar 0) (wC (.str ""))))) (wRet (wC (.bl false))) wSkip) (wRet (wB fAll (wCons (wLc (wItS (wVar 0)) (wName 1) wYes (wAndV (wChain (fStrB fun i j => !decide (j < i)) (fStrB fun i j => !decide (j < i)) (wC (.str " ")) (wVar 1) (wC (.str "~"))) (wOp fNe (wB fOrd (wCons (wVar 1) wNil)) (wC (.int 37)))) [1]) wNil))))
def n_is_letters : List Str := ["thing", "sign"]
/-- is_moment: slots 0 thing -/
def w_is_moment : WS :=
  (wRet (wAndV (wIsB "str" "Rule" (wVar 0)) (wOp (fIn false) (wVar 0) (wC (.tup [.str "come", .str "read"])))))
def n_is_moment : List Str := ["thing"]
theorem law_is_name (ds : List D) (S : Sto) (Φ : D → Sto → Prop) (h : sp_is_name ds S Φ) : w_is_name { nx := fun _ S' => Φ .non S', rt := Φ } (ro n_is_name ds) S := by
  obtain ⟨d, rfl, ht, q⟩ := h
  unfold w_is_name n_is_name
  simp only [ro, List.map_cons, List.map_nil, List.length_cons, List.length_nil, List.cons_append, List.nil_append, Nat.reduceAdd, Nat.reduceSub, List.replicate_succ, List.replicate_zero]
  rw [wSeq]
  simp only [wIfS, wOr, wNot, wTru]
  refine isB_word rfl ht ht.kStr ?_
  simp only [tru, view_b, onS_some]
  rcases ht.str with ⟨s, rfl, hs⟩ | ⟨e, e1, _, _⟩
  · have hl := okt_lim hs
    simp only [kS, Bool.not_true, Bool.false_eq_true, if_false, wTest, wChain, wC, wB, wCons, wNil, wVar, gt, onS_some, res_s, fLen, lenS, view_s, if_pos hl, fCmp, fI, view_i, true_and]
    have tail : nm (.str s) = false ∨ (decide (1 ≤ (s.length : Int)) = true ∧ decide ((s.length : Int) ≤ 8) = true ∧ nm (.str s) = s.cps.toList.all fun c => decide (c ∈ SML)) := by
      by_cases z1 : 1 ≤ s.length
      · by_cases z2 : s.length ≤ 8
        · exact .inr ⟨by simp; omega, by simp; omega, by simp [nm, z1, z2]⟩
        · exact .inl (by simp [nm, z2])
      · exact .inl (by simp [nm, z1])
    by_cases z1 : 1 ≤ s.length
    · have e1 : decide (1 ≤ (s.length : Int)) = true := by simp; omega
      simp only [e1]
      by_cases z2 : s.length ≤ 8
      · have e2 : decide ((s.length : Int) ≤ 8) = true := by simp; omega
        simp only [e2, Bool.not_true, Bool.false_eq_true, if_false, wSkip, wRet, wB, wCons, wNil, wLc, wItS, wVar, gt, onS_some, res_s, view_s]
        unfold sgs
        refine comp_map (fun c => D.str (sg c)) (fun c => D.bl (decide (c ∈ SML))) (by have := hs.1; simp only [List.length_nil]; unfold LIM; omega) (fun c _ Q' hq => ?_) ?_
        · simp only [wOp, wVar, wC, wp, st, gt, onS_some, res_s, fInSg, view_s, sgn_sg, Bool.false_eq_true, if_false]
          exact hq
        have em : ([] : List D) ++ s.cps.toList.map (fun c => D.bl (decide (c ∈ SML))) = (s.cps.toList.map fun c => decide (c ∈ SML)).map D.bl := by rw [List.nil_append, List.map_map]; rfl
        rw [em]
        simp only [fAll, fAllB, view_l, blsD_map, onS_some]
        have en : nm (.str s) = (s.cps.toList.map fun c => decide (c ∈ SML)).all id := by
          rw [List.all_map]
          simp [nm, z1, z2, Function.comp_def]
        rw [← en]
        exact q
      · have e2 : decide ((s.length : Int) ≤ 8) = false := by simp; omega
        simp only [e2, Bool.not_false, if_true, wRet, wC]
        have en : nm (.str s) = false := by simp [nm, z2]
        rw [en] at q
        exact q
    · have e1 : decide (1 ≤ (s.length : Int)) = false := by simp; omega
      simp only [e1, Bool.not_false, if_true, wRet, wC]
      have en : nm (.str s) = false := by simp [nm, z1]
      rw [en] at q
      exact q
  · simp only [e, Bool.not_false, if_true, wRet, wC]
    rw [e1] at q
    exact q
theorem le_one (a b : Nat) : (!decide ([b] < [a])) = decide (a ≤ b) := by
  have : ([b] < [a]) ↔ b < a := by simp [List.cons_lt_cons_iff]
  by_cases z : a ≤ b
  · have n : ¬ ([b] < [a]) := fun h => by have := this.mp h; omega
    simp [n, z]
  · have n : ([b] < [a]) := this.mpr (by omega)
    simp [n, z]
theorem law_is_letters (ds : List D) (S : Sto) (Φ : D → Sto → Prop) (h : sp_is_letters ds S Φ) : w_is_letters { nx := fun _ S' => Φ .non S', rt := Φ } (ro n_is_letters ds) S := by
  obtain ⟨d, rfl, ht, q⟩ := h
  unfold w_is_letters n_is_letters
  simp only [ro, List.map_cons, List.map_nil, List.length_cons, List.length_nil, List.cons_append, List.nil_append, Nat.reduceAdd, Nat.reduceSub, List.replicate_succ, List.replicate_zero]
  rw [wSeq]
  simp only [wIfS, wOr, wNot, wTru]
  refine isB_word rfl ht ht.kStr ?_
  simp only [tru, view_b, onS_some]
  rcases ht.str with ⟨s, rfl, hs⟩ | ⟨e, _, e1, _⟩
  · simp only [kS, Bool.not_true, Bool.false_eq_true, if_false, wTest, wOp, wC, wVar, gt, onS_some, res_s, fEq, fEqB, view_s]
    by_cases z : s = Str.ofString ""
    · have e : decide (s = Str.ofString "") = true := by simp [z]
      simp only [e, if_true, wRet, wC]
      have en : lt (.str s) = false := by simp [lt, z]
      rw [en] at q
      exact q
    · have e : decide (s = Str.ofString "") = false := by simp [z]
      simp only [e, Bool.false_eq_true, if_false, wSkip, wRet, wB, wCons, wNil, wLc, wItS, wVar, gt, onS_some, res_s, view_s]
      have en : lt (.str s) = (s.cps.toList.map fun c => decide (c ≠ 10)).all id := by
        rw [List.all_map]
        simp [lt, z, Function.comp_def]
      rw [en] at q
      unfold sgs
      have cmp : ∀ l : List Nat, (∀ c, c ∈ l → okc c) → ∀ acc : List D, acc.length + l.length ≤ LIM → ∀ Q' : List D → Sto → Prop, Q' (acc ++ l.map fun c => D.bl (decide (c ≠ 10))) S →
          compD (wName 1) wYes (wAndV (wChain (fStrB fun i j => !decide (j < i)) (fStrB fun i j => !decide (j < i)) (wC (.str (Str.ofString " "))) (wVar 1) (wC (.str (Str.ofString "~")))) (wOp fNe (wB fOrd (wCons (wVar 1) wNil)) (wC (.int 37)))) (wp [some (.str s), none] [1]) Q' (l.map fun c => D.str (sg c)) acc S := by
        intro l
        induction l with
        | nil => intro _ acc _ Q' hq; rw [List.map_nil]; unfold compD; simpa using hq
        | cons c l ih =>
          intro ok acc hl Q' hq
          rw [List.length_cons] at hl
          rw [List.map_cons]
          unfold compD
          simp only [wName, wYes, if_true]
          have kc := ok c (by simp)
          have w32 : (Str.ofString " ").cps.toList = [32] := by decide +kernel
          have w126 : (Str.ofString "~").cps.toList = [126] := by decide +kernel
          have wc : (sg c).cps.toList = [c] := rfl
          have go : acc.length < LIM ∧ compD (wName 1) wYes (wAndV (wChain (fStrB fun i j => !decide (j < i)) (fStrB fun i j => !decide (j < i)) (wC (.str (Str.ofString " "))) (wVar 1) (wC (.str (Str.ofString "~")))) (wOp fNe (wB fOrd (wCons (wVar 1) wNil)) (wC (.int 37)))) (wp [some (.str s), none] [1]) Q' (l.map fun c => D.str (sg c)) (acc ++ [.bl (decide (c ≠ 10))]) S :=
            ⟨by omega, ih (fun x hx => ok x (by simp [hx])) _ (by rw [List.length_append, List.length_singleton]; omega) Q' (by simpa using hq)⟩
          generalize compD (wName 1) wYes (wAndV (wChain (fStrB fun i j => !decide (j < i)) (fStrB fun i j => !decide (j < i)) (wC (.str (Str.ofString " "))) (wVar 1) (wC (.str (Str.ofString "~")))) (wOp fNe (wB fOrd (wCons (wVar 1) wNil)) (wC (.int 37)))) (wp [some (.str s), none] [1]) Q' (l.map fun c => D.str (sg c)) = R at go ⊢
          simp only [wAndV, wChain, wC, wVar, wp, st, gt, onS_some, res_s, fStrB, view_s, w32, w126, wc, le_one]
          rcases kc with ⟨k1, k2, k3⟩ | rfl
          · have d1 : decide (32 ≤ c) = true := by simp [k1]
            have d2 : decide (c ≤ 126) = true := by simp [k2]
            have d3 : decide ((c : Int) = 37) = false := by simp; omega
            have d4 : decide (c ≠ 10) = true := by simp; omega
            rw [d4] at go
            simp only [d1, d2, if_true, wOp, wB, wCons, wNil, wVar, gt, onS_some, res_s, fOrd, sgn_sg, wC, fNe, fEqB, view_i, d3, Bool.not_false]
            exact go
          · simp only [show decide (32 ≤ 10) = false from rfl, Bool.false_eq_true, if_false]
            exact go
      refine cmp _ hs.2 [] (by have := hs.1; simp only [List.length_nil]; unfold LIM; omega) _ ?_
      have em : ([] : List D) ++ s.cps.toList.map (fun c => D.bl (decide (c ≠ 10))) = (s.cps.toList.map fun c => decide (c ≠ 10)).map D.bl := by rw [List.nil_append, List.map_map]; rfl
      rw [em]
      simp only [fAll, fAllB, view_l, blsD_map, onS_some]
      exact q
  · simp only [e, Bool.not_false, if_true, wRet, wC]
    rw [e1] at q
    exact q
theorem law_is_moment (ds : List D) (S : Sto) (Φ : D → Sto → Prop) (h : sp_is_moment ds S Φ) : w_is_moment { nx := fun _ S' => Φ .non S', rt := Φ } (ro n_is_moment ds) S := by
  obtain ⟨d, rfl, ht, q⟩ := h
  unfold w_is_moment n_is_moment
  simp only [ro, List.map_cons, List.map_nil, List.length_cons, List.length_nil, List.cons_append, List.nil_append, Nat.reduceAdd, Nat.reduceSub, List.replicate_succ, List.replicate_zero, wRet, wAndV]
  refine isB_word rfl ht ht.kStr ?_
  rcases ht.str with ⟨s, rfl, hs⟩ | ⟨e, _, _, e1⟩
  · simp only [kS, if_true, wOp, wVar, wC, gt, onS_some, res_s, fIn, scV, view_t, scVs, Bool.false_eq_true, if_false]
    exact q
  · simp only [e, Bool.false_eq_true, if_false]
    rw [e1] at q
    exact q
end Sq

set_option Elab.async false
set_option maxRecDepth 100000
set_option maxHeartbeats 4000000
set_option linter.all false
/-! Tuples of any length: +, [lo:hi], * int. -/
namespace Sq
open PySem PySem.Spec PyProof.Rows L2
section
variable {K : PySem.W.Frag} {mg : Str → Option Value} {Z : Zt}
/-- a + b; tuples may be empty -/
def fAddT : F2 := fun S x y Q => match view S x, view S y with
  | .tup a, .tup b => a.length + b.length ≤ LIM ∧ Q (.tup (a ++ b)) S
  | _, _ => fAdd S x y Q
theorem opd_addT : OpD K mg Z (fun x y H Q => rAddA K x y H Q ∨ rCatA K x y H Q) fAddT := by
  intro I μ S H x y a b Q Φ ok ra rb q k
  unfold fAddT at q
  split at q
  · rename_i ds es e1 e2
    obtain ⟨p, vs, rfl, i1, h1, r1⟩ := view_tup ok ra e1
    obtain ⟨p2, ws, rfl, i2, h2, r2⟩ := view_tup ok rb e2
    refine .inr ⟨p, p2, vs, ws, rfl, rfl, h1, h2, lim (by rw [r1.length, r2.length]; exact q.1), fun e => ?_, fun _ e => ?_, fun _ _ l hl => ?_⟩
    · subst e
      cases r1
      exact k _ _ I μ S H .refl ok (.tup i2 r2) q.2
    · subst e
      cases r2
      rw [List.append_nil] at q
      exact k _ _ I μ S H .refl ok (.tup i1 r1) q.2
    · have i := free_of ok.sub hl
      exact k _ _ _ μ S _ (Ext.new i) (ok.new hl) (.tup (SqT.of upd_same) ((r1.append r2).ext (Ext.new i))) q.2
  · exact .inl (opd_add I μ S H x y a b Q Φ ok ra rb q k)
/-- a * b; a may be a tuple -/
def fMulT : F2 := fun S x y Q => match view S x, view S y with
  | .tup a, .int n => a ≠ [] ∧ 2 ≤ n ∧ n ≤ 1000 ∧ a.length ≤ 1000 ∧ Q (.tup (List.replicate n.toNat a).flatten) S
  | _, _ => fMulA S x y Q
theorem opd_mulT : OpD K mg Z (fun x y H Q => rMulA x y H Q ∨ rRepT K x y H Q) fMulT := by
  intro I μ S H x y a b Q Φ ok ra rb q k
  unfold fMulT at q
  split at q
  · rename_i ds n e1 e2
    obtain ⟨h1, h2, h3, h4, q⟩ := q
    obtain ⟨p, vs, rfl, i1, t1, r1⟩ := view_tup ok ra e1
    have := view_int ok rb e2
    subst this
    refine .inr ⟨p, n, vs, rfl, rfl, t1, fun e => ?_, h2, h3, by rw [r1.length]; exact h4, fun l hl => ?_⟩
    · subst e
      cases r1
      exact h1 rfl
    · have i := free_of ok.sub hl
      exact k _ _ _ μ S _ (Ext.new i) (ok.new hl) (.tup (SqT.of upd_same) ((r1.reps n.toNat).ext (Ext.new i))) q
  · exact .inl (opd_mulA I μ S H x y a b Q Φ ok ra rb q k)
end
section
variable {X : Cx} {Γ : Gam} {a b e : Expr} {ta tb te : TE} {wa wb we : WE} {pos p2 : Pos} {lo hi : Option Expr} {tl th : TO} {wl wh : WO}
theorem se_addT (ha : SE X Γ a ta wa) (hb : SE X Γ b tb wb) : SE X Γ (.BinOp a .Add b pos) (tOp (fun x y H Q => rAddA X.K x y H Q ∨ rCatA X.K x y H Q) ta tb) (wOp fAddT wa wb) := se_op (or_add.or op_catA) (fun _ => opd_addT) ha hb
theorem se_mulT (ha : SE X Γ a ta wa) (hb : SE X Γ b tb wb) : SE X Γ (.BinOp a .Mult b pos) (tOp (fun x y H Q => rMulA x y H Q ∨ rRepT X.K x y H Q) ta tb) (wOp fMulT wa wb) := se_op (or_mulA.or op_repT) (fun _ => opd_mulT) ha hb
/-- t[lo:hi], a tuple, the whole of it too -/
def fSlT (S : Sto) (d : D) (lo hi : Option Int) (Q : D → Sto → Prop) : Prop := match view S d with
  | .tup ds => Q (.tup (cutD ds lo hi)) S
  | _ => False
def wSlT (we : WE) (wl wh : WO) : WE := fun ρ S Q => we ρ S fun d S1 => wl ρ S1 fun lo S2 => wh ρ S2 fun hi S3 => fSlT S3 d lo hi Q
theorem cutD_whole {α : Type} {xs : List α} {lo hi : Option Int} (h : HT.sIx xs.length 0 lo = 0 ∧ HT.sIx xs.length xs.length hi = xs.length) : cutD xs lo hi = xs := by
  unfold cutD
  rw [h.1, h.2, List.drop_zero, Nat.sub_zero, List.take_length]
theorem se_slT (h : SE X Γ e te we) (hl : SO X Γ lo tl wl) (hh : SO X Γ hi th wh) : SE X Γ (.Subscript e (.Slice lo hi none p2) pos) (tSl (L2.rSlA X.K) te tl th) (wSlT we wl wh) :=
  ⟨pe_slice sl_tupA h.pe hl.po hh.po, fun Z lk σ ρ I μ S H Q Φ rs ok hw k => h.si Z lk σ ρ I μ S H _ _ rs ok hw fun v d I1 μ1 S1 H1 e1 o1 r1 q1 =>
    hl.si Z lk σ ρ I1 μ1 S1 H1 _ _ (rs.ext e1) o1 q1 fun l I2 μ2 S2 H2 e2 o2 q2 => hh.si Z lk σ ρ I2 μ2 S2 H2 _ _ (rs.ext (e1.trans e2)) o2 q2 fun u I3 μ3 S3 H3 e3 o3 q3 => by
      have e13 := (e1.trans e2).trans e3
      have r3 := r1.ext (e2.trans e3)
      unfold fSlT at q3
      split at q3
      · rename_i ds z
        obtain ⟨a, vs, rfl, hI, hH, t⟩ := view_tup o3 r3 z
        refine ⟨a, vs, rfl, hH, fun hw => ?_, fun hw p hp => ?_⟩
        · rw [t.length] at hw
          rw [cutD_whole hw] at q3
          exact k _ _ _ μ3 S3 _ e13 o3 (.tup hI t) q3
        · have i := free_of o3.sub hp
          exact k _ _ _ μ3 S3 _ (e13.trans (Ext.new i)) (o3.new hp) (.tup (SqT.of upd_same) ((t.cutD l u).ext (Ext.new i))) q3
      · exact q3.elim⟩
end
end Sq

set_option Elab.async false
set_option maxRecDepth 100000
set_option maxHeartbeats 4000000
set_option linter.all false
/-! repr of tuples with dicts of small data in them, no lists. -/
namespace Sq
open PySem PySem.Spec PyProof.Rows L2
mutual
inductive Dq (K : PySem.W.Frag) (H : Hp) : V → PyData → Prop
  | small {v : V} {p : PyData} : pyV v = some p → Dq K H v p
  | tup {a : Addr} {xs : List V} {ds : List PyData} : SqT K H a xs → DqAll K H xs ds → Dq K H (.ref a) (.tuple ds)
  | dct {a : Addr} {kvs : List (Key × V)} {D : List (PyData × PyData)} : Rd H a (.dK kvs) → pyKV kvs = some D → Dq K H (.ref a) (.dict D)
inductive DqAll (K : PySem.W.Frag) (H : Hp) : List V → List PyData → Prop
  | nil : DqAll K H [] []
  | cons {v : V} {vs : List V} {d : PyData} {ds : List PyData} : Dq K H v d → DqAll K H vs ds → DqAll K H (v :: vs) (d :: ds)
end
section
variable {X : Cx} {pins : List (Addr × Obj)} {σ : L2.St} {H : Hp} {s : Shared}
mutual
theorem Dq.reads (I : Inv X pins σ H s) : ∀ (d : PyData) (v : V) (u : Value), Dq X.K H v d → RelV v u → ∃ as, Reads s.heap u d as ∧ sysModules ∉ as
  | .tuple ds, _, _, h, r => by
    cases h with
    | small e => rename_i v _; cases v <;> simp [pyV] at e
    | tup hs ha =>
      cases r
      obtain ⟨its, rv, ⟨o, ho, hc, n, hd⟩, _⟩ := I.tuple hs
      obtain ⟨as, hr, hn⟩ := Dq.readsAll I ds _ its ha rv
      exact ⟨as, Reads.tuple ho hc hd (by simpa using hr), hn⟩
  | .dict D, _, _, h, r => by
    cases h with
    | small e => rename_i v _; cases v <;> simp [pyV] at e
    | dct hd e =>
      cases r
      obtain ⟨sz, low, ws, rk, dd⟩ := dk_rd I.hok hd
      refine ⟨_, PyProof.V.reads_dictOf (h := s.heap) (fun k u e => key_reads k u e) dd (pairs_read rk e), fun hm => ?_⟩
      rw [List.mem_singleton] at hm
      subst hm
      simp at low
  | .none, _, _, h, r => by cases h with | small e => exact ⟨[], pyV_reads r e, by simp⟩
  | .bool b, _, _, h, r => by cases h with | small e => exact ⟨[], pyV_reads r e, by simp⟩
  | .int b, _, _, h, r => by cases h with | small e => exact ⟨[], pyV_reads r e, by simp⟩
  | .str b, _, _, h, r => by cases h with | small e => exact ⟨[], pyV_reads r e, by simp⟩
  | .list ds, _, _, h, r => by cases h with | small e => rename_i v _; cases v <;> simp [pyV] at e
theorem Dq.readsAll (I : Inv X pins σ H s) : ∀ (ds : List PyData) (vs : List V) (us : List Value), DqAll X.K H vs ds → Vals vs us → ∃ as, ReadsAll s.heap us ds as ∧ sysModules ∉ as
  | [], _, _, h, r => by
    cases h
    cases r
    exact ⟨[], ReadsAll.nil, by simp⟩
  | d :: ds, _, _, h, r => by
    cases h with
    | cons h1 h2 =>
      cases r with
      | cons r1 r2 =>
        obtain ⟨as, q1, n1⟩ := Dq.reads I d _ _ h1 r1
        obtain ⟨bs, q2, n2⟩ := Dq.readsAll I ds _ _ h2 r2
        exact ⟨_, ReadsAll.cons q1 q2, fun hm => (List.mem_append.mp hm).elim n1 n2⟩
end
end
def rReprN (K : PySem.W.Frag) (xs : List V) (H : Hp) (Q : VK) : Prop := rReprQ K xs H Q ∨ ∃ (a : Addr) (ds : List PyData), xs = [.ref a] ∧ Dq K H (.ref a) (.tuple ds) ∧
  (PyData.tuple ds).showable = true ∧ (PyData.tuple ds).depth ≤ 60 ∧ (PyData.tuple ds).shown.length ≤ sizeLine ∧ Q (.str (PyData.tuple ds).shown) H
theorem call_reprN {X : Cx} {j : Nat} (hg : X.A.guards = some []) (hr : Room j X.A) : CallR X (.builtin "repr") (rReprN X.K) := by
  intro pn s0 σ G xs us Q I r h
  rcases h with h | ⟨a, ds, rfl, hd, h1, h2, h3, q⟩
  · exact call_reprQ hg hr pn s0 σ G xs us Q I r h
  · obtain ⟨u, rfl, ru⟩ := vals1 r
    have hu := hr.un
    obtain ⟨as, rd, hn⟩ := Dq.reads I _ _ u hd ru
    cases ru
    exact PySem.repr_of_reads' rd h1 (fun _ => hn) hg (by omega) (fun _ _ e => e) (fun h' v tk k => ⟨.str _, G, I.kept k, ⟨_, rfl⟩, q⟩) h3
mutual
def pyQ : D → Option PyData
  | .non => some .none
  | .bl b => some (.bool b)
  | .int i => some (.int i)
  | .str s => some (.str s)
  | .tup ds => (pysQ ds).map .tuple
  | .dct kd => (pyK kd).map .dict
  | _ => none
def pysQ : List D → Option (List PyData)
  | [] => some []
  | d :: ds => match pyQ d, pysQ ds with
    | some p, some ps => some (p :: ps)
    | _, _ => none
end
section
variable {K : PySem.W.Frag} {mg : Str → Option Value} {Z : Zt} {I : Hp} {μ : List Addr} {S : Sto} {H : Hp}
mutual
theorem pyQ_dq (ok : Ok K mg Z I μ S H) : ∀ {d : D} {v : V} {p : PyData}, Rp K mg I μ v d → pyQ d = some p → Dq K H v p
  | .non, _, _, r, e => by cases e; cases r; exact .small rfl
  | .bl b, _, _, r, e => by cases e; cases r; exact .small rfl
  | .int b, _, _, r, e => by cases e; cases r; exact .small rfl
  | .str b, _, _, r, e => by cases e; cases r; exact .small rfl
  | .tup ds, _, _, r, e => by
    unfold pyQ at e
    obtain ⟨ps, e1, rfl⟩ := Option.map_eq_some_iff.mp e
    obtain ⟨a, vs, rfl, _, h1, r1⟩ := view_tup ok r rfl
    exact .tup h1 (pysQ_dq ok r1 e1)
  | .dct kd, _, _, r, e => by
    unfold pyQ at e
    obtain ⟨ps, e1, rfl⟩ := Option.map_eq_some_iff.mp e
    obtain ⟨a, kv, rfl, hr, rk⟩ := view_dct ok r rfl
    exact .dct hr (pyK_rp rk e1)
  | .lst _, _, _, _, e => by simp [pyQ] at e
  | .ins _ _, _, _, _, e => by simp [pyQ] at e
  | .exc _ _, _, _, _, e => by simp [pyQ] at e
  | .h _, _, _, _, e => by simp [pyQ] at e
  | .fn _, _, _, _, e => by simp [pyQ] at e
  | .scr _, _, _, _, e => by simp [pyQ] at e
theorem pysQ_dq (ok : Ok K mg Z I μ S H) : ∀ {ds : List D} {vs : List V} {ps : List PyData}, RpL K mg I μ vs ds → pysQ ds = some ps → DqAll K H vs ps
  | [], _, _, .nil, e => by cases e; exact .nil
  | d :: ds, _, _, .cons r t, e => by
    unfold pysQ at e
    split at e
    · rename_i p ps e1 e2
      cases e
      exact .cons (pyQ_dq ok r e1) (pysQ_dq ok t e2)
    · cases e
end
end
section
variable {K : PySem.W.Frag} {mg : Str → Option Value} {Z : Zt}
/-- repr of data, dicts of small data in tuples too -/
def fReprN : FSp := fun ds S Q => fReprQ ds S Q ∨ match ds with
  | [d] => match view S d with
    | .tup es => onS (pysQ es) fun ps => (PyData.tuple ps).showable = true ∧ (PyData.tuple ps).depth ≤ 60 ∧ (PyData.tuple ps).shown.length ≤ sizeLine ∧ Q (.str (PyData.tuple ps).shown) S
    | _ => False
  | _ => False
theorem cb_reprN : CbD K mg Z (rReprN K) fReprN := by
  intro I μ S H vs ds Q Φ ok r h k
  rcases h with h | h
  · exact .inl (cb_reprQ I μ S H vs ds Q Φ ok r h k)
  · split at h
    · split at h
      · rename_i es e
        cases r with
        | cons r t =>
          cases t
          obtain ⟨ps, e2, h1, h2, h3, q⟩ := onS_iff h
          obtain ⟨a, vs, rfl, _, t1, r1⟩ := view_tup ok r e
          exact .inr ⟨a, ps, rfl, .tup t1 (pysQ_dq ok r1 e2), h1, h2, h3, k _ _ I μ S H .refl ok .str q⟩
      · exact h.elim
    · exact h.elim
end
end Sq

set_option Elab.async false
set_option maxRecDepth 100000
set_option maxHeartbeats 4000000
set_option linter.all false
/-! == and repr of data in which lists stand that may change. -/
namespace Sq
open PySem PySem.Spec PyProof.Rows L2
mutual
/-- data, what is in the store told as it stands -/
def pyH (S : Sto) : D → Option PyData
  | .non => some .none
  | .bl b => some (.bool b)
  | .int i => some (.int i)
  | .str s => some (.str s)
  | .tup ds => (pysH S ds).map .tuple
  | .lst ds => (pysH S ds).map .list
  | .h n => py (view S (.h n))
  | _ => none
def pysH (S : Sto) : List D → Option (List PyData)
  | [] => some []
  | d :: ds => match pyH S d, pysH S ds with
    | some p, some ps => some (p :: ps)
    | _, _ => none
end
section
variable {K : PySem.W.Frag} {mg : Str → Option Value} {Z : Zt} {I : Hp} {μ : List Addr} {S : Sto} {H : Hp}
mutual
theorem pyH_dp (ok : Ok K mg Z I μ S H) : ∀ {d : D} {v : V} {p : PyData}, Rp K mg I μ v d → pyH S d = some p → Dp K H v p
  | .non, _, _, r, e => by cases e; cases r; exact .non
  | .bl b, _, _, r, e => by cases e; cases r; exact .bl _
  | .int b, _, _, r, e => by cases e; cases r; exact .int _
  | .str b, _, _, r, e => by cases e; cases r; exact .str _
  | .tup ds, _, _, r, e => by
    unfold pyH at e
    obtain ⟨ps, e1, rfl⟩ := Option.map_eq_some_iff.mp e
    obtain ⟨a, vs, rfl, _, h1, r1⟩ := view_tup ok r rfl
    exact .tup h1 (pysH_dp ok r1 e1)
  | .lst ds, _, _, r, e => by
    unfold pyH at e
    obtain ⟨ps, e1, rfl⟩ := Option.map_eq_some_iff.mp e
    obtain ⟨a, vs, rfl, h1, r1⟩ := view_lst ok r rfl
    exact .lst (SqL.of h1) (pysH_dp ok r1 e1)
  | .h n, _, _, r, e => by
    unfold pyH at e
    exact view_dp ok r e
  | .dct kd, _, _, r, e => by simp [pyH] at e
  | .ins _ _, _, _, _, e => by simp [pyH] at e
  | .exc _ _, _, _, _, e => by simp [pyH] at e
  | .fn _, _, _, _, e => by simp [pyH] at e
  | .scr _, _, _, _, e => by simp [pyH] at e
theorem pysH_dp (ok : Ok K mg Z I μ S H) : ∀ {ds : List D} {vs : List V} {ps : List PyData}, RpL K mg I μ vs ds → pysH S ds = some ps → DpAll K H vs ps
  | [], _, _, .nil, e => by cases e; exact .nil
  | d :: ds, _, _, .cons r t, e => by
    unfold pysH at e
    split at e
    · rename_i p ps e1 e2
      cases e
      exact .cons (pyH_dp ok r e1) (pysH_dp ok t e2)
    · cases e
end
end
section
variable {K : PySem.W.Frag} {mg : Str → Option Value} {Z : Zt}
def fEqH : F2 := fun S x y Q => fEq S x y Q ∨ ∃ p q, pyH S x = some p ∧ pyH S y = some q ∧ SeqAt.shaped p = true ∧ SeqAt.shaped q = true ∧ Q (.bl (PyData.eqv p q)) S
theorem opd_eqH : OpD K mg Z (rEqA K) fEqH := by
  intro I μ S H x y a b Q Φ ok ra rb q k
  rcases q with q | ⟨p, p2, e1, e2, s1, s2, q⟩
  · exact opd_eq I μ S H x y a b Q Φ ok ra rb q k
  · exact .inr ⟨p, p2, pyH_dp ok ra e1, pyH_dp ok rb e2, s1, s2, k _ _ I μ S H .refl ok .bl q⟩
theorem cm_eqH {X : Cx} (hu : X.A.units + 64 < cLine) : CmpR X .Eq (rEqA X.K) fEqH := ⟨op_eq.or (op_eqD hu), fun _ => opd_eqH⟩
def fReprH : FSp := fun ds S Q => fRepr ds S Q ∨ ∃ d p, ds = [d] ∧ pyH S d = some p ∧ p.showable = true ∧ p.hasDict = false ∧ p.depth ≤ 60 ∧ p.shown.length ≤ sizeLine ∧ Q (.str p.shown) S
theorem cb_reprH : CbD K mg Z (rRepr K) fReprH := by
  intro I μ S H vs ds Q Φ ok r h k
  rcases h with h | ⟨d, p, rfl, e, h1, h2, h3, h4, q⟩
  · exact cb_repr I μ S H vs ds Q Φ ok r h k
  · cases r with
    | cons r t =>
      cases t
      exact ⟨_, p, rfl, pyH_dp ok r e, h1, h2, h3, h4, k _ _ I μ S H .refl ok .str q⟩
/-- data that may be shown and compared -/
structure ShP (p : PyData) : Prop where
  sh : p.showable = true
  hd : p.hasDict = false
  dp : p.depth ≤ 60
  ln : p.shown.length ≤ sizeLine
  sp : SeqAt.shaped p = true
  ev : PyData.eqv p p = true
def sp_q_alikeH : FSp := fun ds S Q => ∃ (a b : D) (p : PyData), ds = [a, b] ∧ res S a = a ∧ res S b = b ∧ pyH S a = some p ∧ pyH S b = some p ∧ ShP p ∧ Q (.bl true) S
end
end Sq

set_option Elab.async false
set_option maxRecDepth 100000
set_option maxHeartbeats 4000000
set_option linter.all false
/-! Frames as texts. -/
namespace Sq
open PySem L2
local macro_rules | `(tactic| walk_at "wk") => `(tactic| simp only [wSeq, wAsg, wVar, wC, wOp, wTest, wIfS, wRet, wRetN, wIf, wCall, wCons, wNil, wName, wGTup, wGCons, wGNil, wPar, wPar3, wTup, wLst, wLstM, wAnd, wOr, wNot, wTru, tru, wAndV, wOrV, wNotV, wSkip, wDrop, wB, wNeg, fAdd, fSub, fMod, fMulA, fDiv, fEq, fEqB, fNe, fCmp, fI, fIsN, fNotN, isNon, fLen, lenS, fIx, gt, st, res_i, res_b, res_s, res_n, res_t, res_l, res_d, res_c, res_scr, view_i, view_b, view_s, view_n, view_t, view_l, view_d, view_c, Rt.res, Rt.view, rule_res, onS_some, ro, List.map_cons, List.map_nil, List.length_cons, List.length_nil, List.cons_append, List.nil_append, List.append_nil, List.replicate_succ, List.replicate_zero, Nat.reduceAdd, Nat.reduceSub, Nat.sub_self, so_inj, so_beq, at0, at1, at2, at3, gx0, gx1, gx2, gx3, nc0, nc1, nc2, nc3, nc4, nc6, lm0, lm1, lm2, lm3, lm4, lm6, String.reduceEq, Int.reduceEq, Int.reduceLT, Int.reduceLE, decide_true, decide_false, Bool.not_true, Bool.not_false, reduceIte, true_and, and_true, Bool.false_eq_true, reduceCtorEq, List.length_map, view_hl, *])
/-! ### frames -/
abbrev tx (l : List Nat) : Str := SX.S l
theorem tx_tl (l : List Nat) : (tx l).cps.toList = l := rfl
theorem tx_len (l : List Nat) : (tx l).length = l.length := SX.S_len l
theorem of_tx (s : Str) : s = tx s.cps.toList := (SX.S_tl s).symm
theorem fAdd_tx {S : Sto} {a b : List Nat} {Q : D → Sto → Prop} (hl : a.length + b.length ≤ LIM) (q : Q (.str (tx (a ++ b))) S) : fAdd S (.str (tx a)) (.str (tx b)) Q := by
  unfold fAdd
  simp only [view_s, tx_len]
  refine ⟨hl, ?_⟩
  have e : tx a ++ tx b = tx (a ++ b) := SX.S_cat a b
  rw [e]
  exact q
inductive Fr where
  | back (nm : List Nat) (n : Nat)
  | data (nm lt : List Nat) (w e : Bool)
def mks (w e : Bool) : List Nat := (if w then [119] else []) ++ (if e then [101] else [])
def Fr.d : Fr → D
  | .back nm n => .tup [.str (Str.ofString "back"), .str (tx nm), .int (n : Int)]
  | .data nm l w e => .tup [.str (Str.ofString "data"), .str (tx nm), .str (tx l), .bl w, .bl e]
/-- the text of a frame -/
def Fr.t : Fr → List Nat
  | .back nm n => 98 :: (nm ++ 44 :: (TL.numL n ++ 59 :: []))
  | .data nm l w e => 100 :: (nm ++ 44 :: (TL.numL l.length ++ 44 :: (mks w e ++ 58 :: (l ++ 59 :: []))))
def low26 (c : Nat) : Prop := 97 ≤ c ∧ c ≤ 122
def let95 (c : Nat) : Prop := 32 ≤ c ∧ c ≤ 126 ∧ c ≠ 37
structure NmOk (nm : List Nat) : Prop where
  ne : 1 ≤ nm.length
  le : nm.length ≤ 8
  lo : ∀ c, c ∈ nm → low26 c
def Fr.ok : Fr → Prop
  | .back nm n => NmOk nm ∧ 1 ≤ n ∧ n < 10 ^ 39
  | .data nm l _ _ => NmOk nm ∧ 1 ≤ l.length ∧ l.length ≤ 200 ∧ ∀ c, c ∈ l → let95 c
theorem num39 {n : Nat} (h : n < 10 ^ 39) : (TL.numL n).length ≤ 39 := TL.numL_len (by decide) h
theorem num3 {n : Nat} (h : n ≤ 200) : (TL.numL n).length ≤ 3 := TL.numL_len (by decide) (by omega)
theorem mks_len (w e : Bool) : (mks w e).length ≤ 2 := by cases w <;> cases e <;> decide
theorem Fr.t_len : ∀ f : Fr, f.ok → f.t.length ≤ 300
  | .back nm n, h => by
    have := h.1.le
    have := num39 h.2.2
    simp only [Fr.t, List.length_cons, List.length_append, List.length_nil]
    omega
  | .data nm l w e, h => by
    have := h.1.le
    have := num3 h.2.2.1
    have := h.2.2.1
    have := mks_len w e
    simp only [Fr.t, List.length_cons, List.length_append, List.length_nil]
    omega
theorem str_num (n : Nat) : Str.ofString (toString ((n : Nat) : Int)) = tx (TL.numL n) := SX.num_S n
theorem log_ok {n : Nat} (h : n < 10 ^ 39) : ((n : Int)).natAbs.log2 < 1920 := by
  exact Nat.lt_trans (log2_small (b := 400) (sm (by omega) (by omega)) (by decide)) (by decide)
def sp_show_frame : FSp := fun ds S Q => ∃ f : Fr, ds = [f.d] ∧ f.ok ∧ Q (.str (tx f.t)) S
theorem mul_w (c : Nat) (b : Bool) : PySem.Txt.mul (tx [c]) (if b then 1 else 0) = tx (if b then [c] else []) := by cases b <;> rfl
theorem mulOk_w (c : Nat) (b : Bool) : PySem.MulOk (tx [c]) (if b then 1 else 0) := by cases b <;> (unfold PySem.MulOk; simp [SX.S_len])
/-- show_frame: slots 0 frame 1 word 2 stream 3 letters 4 waits 5 ends 6 marks -/
def w_show_frame_0 : WS :=
  (wIfS (wTest (wOp fEq (wOp fIx (wVar 0) (wC (.int 0))) (wC (.str "back")))) (wRet (wOp fAdd (wOp fAdd (wOp fAdd (wOp fAdd (wC (.str "b")) (wOp fIx (wVar 0) (wC (.int 1)))) (wC (.str ","))) (wB fStr (wCons (wOp fIx (wVar 0) (wC (.int 2))) wNil))) (wC (.str ";")))) wSkip)
def w_show_frame_1 : WS :=
  (wAsg (wVar 0) (wGTup 5 (wGCons (wName 1) (wGCons (wName 2) (wGCons (wName 3) (wGCons (wName 4) (wGCons (wName 5) wGNil)))))))
def w_show_frame_2 : WS :=
  (wAsg (wOp fAdd (wOp fMulA (wC (.str "w")) (wB fInt (wCons (wVar 4) wNil))) (wOp fMulA (wC (.str "e")) (wB fInt (wCons (wVar 5) wNil)))) (wName 6))
def w_show_frame_3 : WS :=
  (wRet (wOp fAdd (wOp fAdd (wOp fAdd (wOp fAdd (wOp fAdd (wOp fAdd (wOp fAdd (wOp fAdd (wC (.str "d")) (wVar 2)) (wC (.str ","))) (wB fStr (wCons (wB fLen (wCons (wVar 3) wNil)) wNil))) (wC (.str ","))) (wVar 6)) (wC (.str ":"))) (wVar 3)) (wC (.str ";"))))
def w_show_frame : WS :=
  (wSeq (w_show_frame_0) (wSeq (w_show_frame_1) (wSeq (w_show_frame_2) (w_show_frame_3))))
def n_show_frame : List Str := ["frame", "word", "stream", "letters", "waits", "ends", "marks"]
/-- _law_text: slots 0 _law_frame 1 _law_marks -/
def w_q_ftext_0 : WS :=
  (wIfS (wTest (wOp fEq (wOp fIx (wVar 0) (wC (.int 0))) (wC (.str "back")))) (wRet (wOp fAdd (wOp fAdd (wOp fAdd (wOp fAdd (wC (.str "b")) (wOp fIx (wVar 0) (wC (.int 1)))) (wC (.str ","))) (wB fStr (wCons (wOp fIx (wVar 0) (wC (.int 2))) wNil))) (wC (.str ";")))) wSkip)
def w_q_ftext_1 : WS :=
  (wAsg (wOp fAdd (wOp fIx (wLst (wCons (wC (.str "")) (wCons (wC (.str "w")) wNil))) (wB fInt (wCons (wOp fIx (wVar 0) (wC (.int 3))) wNil))) (wOp fIx (wLst (wCons (wC (.str "")) (wCons (wC (.str "e")) wNil))) (wB fInt (wCons (wOp fIx (wVar 0) (wC (.int 4))) wNil)))) (wName 1))
def w_q_ftext_2 : WS :=
  (wRet (wOp fAdd (wOp fAdd (wOp fAdd (wOp fAdd (wOp fAdd (wOp fAdd (wOp fAdd (wOp fAdd (wC (.str "d")) (wOp fIx (wVar 0) (wC (.int 1)))) (wC (.str ","))) (wB fStr (wCons (wB fLen (wCons (wOp fIx (wVar 0) (wC (.int 2))) wNil)) wNil))) (wC (.str ","))) (wVar 1)) (wC (.str ":"))) (wOp fIx (wVar 0) (wC (.int 2)))) (wC (.str ";"))))
def w_q_ftext : WS :=
  (wSeq (w_q_ftext_0) (wSeq (w_q_ftext_1) (w_q_ftext_2)))
def n_q_ftext : List Str := ["_law_frame", "_law_marks"]
theorem back_text {S : Sto} {nm : List Nat} {n : Nat} {Q : D → Sto → Prop} (h : NmOk nm) (hn : n < 10 ^ 39) (q : Q (.str (tx (Fr.back nm n).t)) S) :
    fAdd S (.str (Str.ofString "b")) (.str (tx nm)) fun x S1 => fAdd S1 x (.str (Str.ofString ",")) fun x S1 => fAdd S1 x (.str (Str.ofString (toString (n : Int)))) fun x S1 => fAdd S1 x (.str (Str.ofString ";")) Q := by
  have eb : Str.ofString "b" = tx [98] := by decide +kernel
  have ec : Str.ofString "," = tx [44] := by decide +kernel
  have es : Str.ofString ";" = tx [59] := by decide +kernel
  have := h.le
  have := num39 hn
  rw [eb, ec, es, str_num]
  refine fAdd_tx (by simp only [List.length_cons, List.length_append, List.length_nil]; unfold LIM; omega) ?_
  refine fAdd_tx (by simp only [List.length_cons, List.length_append, List.length_nil]; unfold LIM; omega) ?_
  refine fAdd_tx (by simp only [List.length_cons, List.length_append, List.length_nil]; unfold LIM; omega) ?_
  refine fAdd_tx (by simp only [List.length_cons, List.length_append, List.length_nil]; unfold LIM; omega) ?_
  have e : [98] ++ nm ++ [44] ++ TL.numL n ++ [59] = (Fr.back nm n).t := by simp [Fr.t]
  rw [e]
  exact q
theorem data_text {S : Sto} {nm l : List Nat} {w e : Bool} {Q : D → Sto → Prop} (h : NmOk nm) (hl : l.length ≤ 200) (q : Q (.str (tx (Fr.data nm l w e).t)) S) :
    fAdd S (.str (Str.ofString "d")) (.str (tx nm)) fun x S1 => fAdd S1 x (.str (Str.ofString ",")) fun x S1 => fAdd S1 x (.str (Str.ofString (toString (l.length : Int)))) fun x S1 => fAdd S1 x (.str (Str.ofString ",")) fun x S1 =>
      fAdd S1 x (.str (tx (mks w e))) fun x S1 => fAdd S1 x (.str (Str.ofString ":")) fun x S1 => fAdd S1 x (.str (tx l)) fun x S1 => fAdd S1 x (.str (Str.ofString ";")) Q := by
  have eb : Str.ofString "d" = tx [100] := by decide +kernel
  have ec : Str.ofString "," = tx [44] := by decide +kernel
  have ed : Str.ofString ":" = tx [58] := by decide +kernel
  have es : Str.ofString ";" = tx [59] := by decide +kernel
  have := h.le
  have := num3 hl
  have := mks_len w e
  rw [eb, ec, ed, es, str_num]
  refine fAdd_tx (by simp only [List.length_cons, List.length_append, List.length_nil]; unfold LIM; omega) ?_
  refine fAdd_tx (by simp only [List.length_cons, List.length_append, List.length_nil]; unfold LIM; omega) ?_
  refine fAdd_tx (by simp only [List.length_cons, List.length_append, List.length_nil]; unfold LIM; omega) ?_
  refine fAdd_tx (by simp only [List.length_cons, List.length_append, List.length_nil]; unfold LIM; omega) ?_
  refine fAdd_tx (by simp only [List.length_cons, List.length_append, List.length_nil]; unfold LIM; omega) ?_
  refine fAdd_tx (by simp only [List.length_cons, List.length_append, List.length_nil]; unfold LIM; omega) ?_
  refine fAdd_tx (by simp only [List.length_cons, List.length_append, List.length_nil]; unfold LIM; omega) ?_
  refine fAdd_tx (by simp only [List.length_cons, List.length_append, List.length_nil]; unfold LIM; omega) ?_
  have z : [100] ++ nm ++ [44] ++ TL.numL l.length ++ [44] ++ mks w e ++ [58] ++ l ++ [59] = (Fr.data nm l w e).t := by simp [Fr.t]
  rw [z]
  exact q
theorem marks_mul {S : Sto} {w e : Bool} {Q : D → Sto → Prop} (q : Q (.str (tx (mks w e))) S) :
    fMulA S (.str (Str.ofString "w")) (.int (if w then 1 else 0)) fun x S1 => fMulA S1 (.str (Str.ofString "e")) (.int (if e then 1 else 0)) fun y S2 => fAdd S2 x y Q := by
  have ew : Str.ofString "w" = tx [119] := by decide +kernel
  have ee : Str.ofString "e" = tx [101] := by decide +kernel
  rw [ew, ee]
  unfold fMulA
  simp only [view_s, view_i, mul_w]
  refine ⟨mulOk_w _ _, mulOk_w _ _, fAdd_tx (by cases w <;> cases e <;> decide) ?_⟩
  exact q
theorem kind_eq : decide (Str.ofString "back" = Str.ofString "back") = true ∧ decide (Str.ofString "data" = Str.ofString "back") = false := by decide +kernel
theorem law_show_frame (ds : List D) (S : Sto) (Φ : D → Sto → Prop) (h : sp_show_frame ds S Φ) : w_show_frame { nx := fun _ S' => Φ .non S', rt := Φ } (ro n_show_frame ds) S := by
  obtain ⟨f, rfl, ok, q⟩ := h
  unfold w_show_frame n_show_frame
  simp only [ro, List.map_cons, List.map_nil, List.length_cons, List.length_nil, List.cons_append, List.nil_append, Nat.reduceAdd, Nat.reduceSub, List.replicate_succ, List.replicate_zero]
  rw [wSeq]
  unfold w_show_frame_0
  cases f with
  | back nm n =>
    have a0 : atI [D.str (Str.ofString "back"), .str (tx nm), .int (n : Int)] 0 = some (.str (Str.ofString "back")) := rfl
    have a1 : atI [D.str (Str.ofString "back"), .str (tx nm), .int (n : Int)] 1 = some (.str (tx nm)) := rfl
    have a2 : atI [D.str (Str.ofString "back"), .str (tx nm), .int (n : Int)] 2 = some (.int n) := rfl
    simp only [Fr.d, wIfS, wTest, wOp, wVar, wC, gt, onS_some, res_t, fIx, view_t, a0, fEq, fEqB, view_s, kind_eq.1, if_true, wRet, a1, a2, wB, wCons, wNil, fStr, log_ok ok.2.2, true_and]
    exact back_text ok.1 ok.2.2 q
  | data nm l w e =>
    have a0 : atI [D.str (Str.ofString "data"), .str (tx nm), .str (tx l), .bl w, .bl e] 0 = some (.str (Str.ofString "data")) := rfl
    simp only [Fr.d, wIfS, wTest, wOp, wVar, wC, gt, onS_some, res_t, fIx, view_t, a0, fEq, fEqB, view_s, kind_eq.2, Bool.false_eq_true, if_false, wSkip]
    rw [wSeq]
    unfold w_show_frame_1
    simp only [wAsg, wVar, gt, onS_some, res_t, wGTup, view_t, List.length_cons, List.length_nil, Nat.reduceAdd, wGCons, wGNil, wName, st, true_and]
    rw [wSeq]
    unfold w_show_frame_2
    simp only [wAsg, wOp, wC, wB, wCons, wNil, wVar, gt, onS_some, res_b, fInt]
    refine marks_mul ?_
    simp only [wName, st]
    unfold w_show_frame_3
    have ll : (tx l).length = l.length := tx_len l
    have lim : l.length ≤ LIM := by have := ok.2.2.1; unfold LIM; omega
    have lo : ((l.length : Int)).natAbs.log2 < 1920 := log_ok (Nat.lt_of_le_of_lt ok.2.2.1 (by decide))
    simp only [wRet, wOp, wC, wVar, wB, wCons, wNil, gt, onS_some, res_s, fLen, lenS, view_s, ll, if_pos lim, fStr, lo, true_and]
    exact data_text ok.1 ok.2.2.1 q
theorem law_q_ftext (ds : List D) (S : Sto) (Φ : D → Sto → Prop) (h : sp_show_frame ds S Φ) : w_q_ftext { nx := fun _ S' => Φ .non S', rt := Φ } (ro n_q_ftext ds) S := by
  obtain ⟨f, rfl, ok, q⟩ := h
  unfold w_q_ftext n_q_ftext
  simp only [ro, List.map_cons, List.map_nil, List.length_cons, List.length_nil, List.cons_append, List.nil_append, Nat.reduceAdd, Nat.reduceSub, List.replicate_succ, List.replicate_zero]
  rw [wSeq]
  unfold w_q_ftext_0
  cases f with
  | back nm n =>
    have a0 : atI [D.str (Str.ofString "back"), .str (tx nm), .int (n : Int)] 0 = some (.str (Str.ofString "back")) := rfl
    have a1 : atI [D.str (Str.ofString "back"), .str (tx nm), .int (n : Int)] 1 = some (.str (tx nm)) := rfl
    have a2 : atI [D.str (Str.ofString "back"), .str (tx nm), .int (n : Int)] 2 = some (.int n) := rfl
    simp only [Fr.d, wIfS, wTest, wOp, wVar, wC, gt, onS_some, res_t, fIx, view_t, a0, fEq, fEqB, view_s, kind_eq.1, if_true, wRet, a1, a2, wB, wCons, wNil, fStr, log_ok ok.2.2, true_and]
    exact back_text ok.1 ok.2.2 q
  | data nm l w e =>
    have a0 : atI [D.str (Str.ofString "data"), .str (tx nm), .str (tx l), .bl w, .bl e] 0 = some (.str (Str.ofString "data")) := rfl
    have a1 : atI [D.str (Str.ofString "data"), .str (tx nm), .str (tx l), .bl w, .bl e] 1 = some (.str (tx nm)) := rfl
    have a2 : atI [D.str (Str.ofString "data"), .str (tx nm), .str (tx l), .bl w, .bl e] 2 = some (.str (tx l)) := rfl
    have a3 : atI [D.str (Str.ofString "data"), .str (tx nm), .str (tx l), .bl w, .bl e] 3 = some (.bl w) := rfl
    have a4 : atI [D.str (Str.ofString "data"), .str (tx nm), .str (tx l), .bl w, .bl e] 4 = some (.bl e) := rfl
    simp only [Fr.d, wIfS, wTest, wOp, wVar, wC, gt, onS_some, res_t, fIx, view_t, a0, fEq, fEqB, view_s, kind_eq.2, Bool.false_eq_true, if_false, wSkip]
    rw [wSeq]
    unfold w_q_ftext_1
    have ew : Str.ofString "w" = tx [119] := by decide +kernel
    have ee : Str.ofString "e" = tx [101] := by decide +kernel
    have e0 : Str.ofString "" = tx [] := by decide +kernel
    have bw : atI [D.str (tx []), .str (tx [119])] (if w then 1 else 0) = some (.str (tx (if w then [119] else []))) := by cases w <;> rfl
    have be : atI [D.str (tx []), .str (tx [101])] (if e then 1 else 0) = some (.str (tx (if e then [101] else []))) := by cases e <;> rfl
    have n2 : 2 ≤ LIM := by decide
    simp only [wAsg, wOp, wLst, wCons, wNil, wC, wB, wVar, gt, onS_some, res_t, fIx, view_t, view_l, a3, a4, fInt, List.length_cons, List.length_nil, Nat.reduceAdd, n2, true_and, ew, ee, e0, bw, be]
    refine fAdd_tx (by cases w <;> cases e <;> decide) ?_
    simp only [wName, st]
    unfold w_q_ftext_2
    have ll : (tx l).length = l.length := tx_len l
    have lim : l.length ≤ LIM := by have := ok.2.2.1; unfold LIM; omega
    have lo : ((l.length : Int)).natAbs.log2 < 1920 := log_ok (Nat.lt_of_le_of_lt ok.2.2.1 (by decide))
    simp only [wRet, wOp, wC, wVar, wB, wCons, wNil, gt, onS_some, res_t, res_s, fIx, view_t, a1, a2, fLen, lenS, view_s, ll, if_pos lim, fStr, lo, true_and]
    exact data_text ok.1 ok.2.2.1 q
end Sq

set_option Elab.async false
set_option maxRecDepth 100000
set_option maxHeartbeats 4000000
set_option linter.all false
/-! Rows of signs. -/
namespace Sq
open PySem L2
local macro_rules | `(tactic| walk_at "wk") => `(tactic| simp only [wSeq, wAsg, wVar, wC, wOp, wTest, wIfS, wRet, wRetN, wIf, wCall, wCons, wNil, wName, wGTup, wGCons, wGNil, wPar, wPar3, wTup, wLst, wLstM, wAnd, wOr, wNot, wTru, tru, wAndV, wOrV, wNotV, wSkip, wDrop, wB, wNeg, fAdd, fSub, fMod, fMulA, fDiv, fEq, fEqB, fNe, fCmp, fI, fIsN, fNotN, isNon, fLen, lenS, fIx, gt, st, res_i, res_b, res_s, res_n, res_t, res_l, res_d, res_c, res_scr, view_i, view_b, view_s, view_n, view_t, view_l, view_d, view_c, Rt.res, Rt.view, rule_res, onS_some, ro, List.map_cons, List.map_nil, List.length_cons, List.length_nil, List.cons_append, List.nil_append, List.append_nil, List.replicate_succ, List.replicate_zero, Nat.reduceAdd, Nat.reduceSub, Nat.sub_self, so_inj, so_beq, at0, at1, at2, at3, gx0, gx1, gx2, gx3, nc0, nc1, nc2, nc3, nc4, nc6, lm0, lm1, lm2, lm3, lm4, lm6, String.reduceEq, Int.reduceEq, Int.reduceLT, Int.reduceLE, decide_true, decide_false, Bool.not_true, Bool.not_false, reduceIte, true_and, and_true, Bool.false_eq_true, reduceCtorEq, List.length_map, view_hl, *])
/-! ### rows of signs -/
def sp_signs_at : FSp := fun ds S Q => ∃ (pre run tail sgs : List Nat) (e : Nat), ds = [.str (tx (pre ++ (run ++ tail))), .int (pre.length : Int), .str (tx sgs), .str (tx [e])] ∧ pre.length + (run.length + tail.length) ≤ LIM ∧ (∀ c, c ∈ run → c ∈ sgs) ∧ e ∉ sgs ∧
  (tail = [] ∨ ∃ t, tail = e :: t) ∧ Q (.tup [.str (tx run), .int ((pre.length + run.length : Nat) : Int)]) S
def sp_is_count : FSp := fun ds S Q => ∃ (dg : List Nat) (b : Bool), ds = [.str (tx dg), .bl b] ∧ ((dg = [] ∧ Q (.bl false) S) ∨ (∃ c r, dg = c :: r ∧ c ≠ 48 ∧ NumText.AllDigits dg ∧ dg.length ≤ 39 ∧ (b = true → dg.length ≤ 3 ∧ NumText.digitsVal dg ≤ 200) ∧ Q (.bl true) S))
def sp_is_lettersT : FSp := fun ds S Q => ∃ l : List Nat, ds = [.str (tx l)] ∧ l ≠ [] ∧ l.length ≤ 1000 ∧ (∀ c, c ∈ l → let95 c) ∧ Q (.bl true) S
/-- signs_at: slots 0 text 1 at 2 signs 3 end 4 spot -/
def w_signs_at_loop1 : WS :=
  (wAug (fun i j => i + j) 4 (wC (.int 1)))
def w_signs_at_0 : WS :=
  (wAsg (wVar 1) (wName 4))
def w_signs_at_1 : WS :=
  (wWhile (wAnd (wTest (wOp (fCmp fun i j => decide (i < j)) (wVar 4) (wB fLen (wCons (wVar 0) wNil)))) (wTest (wOp (fInSg false) (wOp fIx (wVar 0) (wVar 4)) (wVar 2)))) (w_signs_at_loop1))
def w_signs_at_2 : WS :=
  (wIfS (wAnd (wTest (wOp (fCmp fun i j => decide (i < j)) (wVar 4) (wB fLen (wCons (wVar 0) wNil)))) (wTest (wOp fNe (wOp fIx (wVar 0) (wVar 4)) (wVar 3)))) wNever wSkip)
def w_signs_at_3 : WS :=
  (wRet (wTup (wCons (wSl (wVar 0) (wPart (wVar 1)) (wPart (wVar 4))) (wCons (wVar 4) wNil))))
def w_signs_at : WS :=
  (wSeq (w_signs_at_0) (wSeq (w_signs_at_1) (wSeq (w_signs_at_2) (w_signs_at_3))))
def n_signs_at : List Str := ["text", "at", "signs", "end", "spot"]
/-- is_count: slots 0 digits 1 is_data -/
def w_is_count : WS :=
  (wSeq (wIfS (wOr (wTest (wOp fEq (wVar 0) (wC (.str "")))) (wOr (wTest (wOp fEq (wOp fIx (wVar 0) (wC (.int 0))) (wC (.str "0")))) (wTest (wOp (fCmp fun i j => decide (j < i)) (wB fLen (wCons (wVar 0) wNil)) (wC (.int 39)))))) (wRet (wC (.bl false))) wSkip) (wRet (wOrV (wNotV (wVar 1)) (wAndV (wOp (fCmp fun i j => decide (i < j)) (wB fLen (wCons (wVar 0) wNil)) (wC (.int 4))) (wOp (fCmp fun i j => decide (i ≤ j)) (wB fInt (wCons (wVar 0) wNil)) (wC (.int 200)))))))
def n_is_count : List Str := ["digits", "is_data"]
theorem at_tx {T : List Nat} {j : Nat} (h : j < T.length) : atI (tx T).cps.toList (j : Int) = some T[j] := by rw [tx_tl, atN, List.getElem?_eq_getElem h]
theorem ix_tx {S : Sto} {T : List Nat} {j : Nat} {Q : D → Sto → Prop} (hl : T.length ≤ LIM) (h : j < T.length) (q : Q (.str (sg T[j])) S) : fIx S (.str (tx T)) (.int (j : Int)) Q := by
  unfold fIx
  simp only [view_s, tx_len]
  refine ⟨hl, ?_⟩
  rw [at_tx h]
  exact q
theorem ix_mid {S : Sto} {pre tail : List Nat} {c : Nat} {Q : D → Sto → Prop} {j : Nat} (hl : pre.length + (tail.length + 1) ≤ LIM) (hj : j = pre.length) (q : Q (.str (sg c)) S) : fIx S (.str (tx (pre ++ c :: tail))) (.int (j : Int)) Q := by
  subst hj
  have h : pre.length < (pre ++ c :: tail).length := by simp
  refine ix_tx (by simp only [List.length_append, List.length_cons]; omega) h ?_
  rw [List.getElem_append_right (Nat.le_refl _)]
  simpa using q
theorem cut_tx {T : List Nat} {i j : Nat} : cutS (tx T) (some (i : Int)) (some (j : Int)) = tx ((T.drop (min i T.length)).take (min j T.length - min i T.length)) := by
  unfold cutS
  have e : (tx T).length = T.length := tx_len T
  rw [e, HT.sIx_nat, HT.sIx_nat]
theorem cut_run {pre run tail : List Nat} {i j : Nat} (hi : i = pre.length) (hj : j = pre.length + run.length) : cutS (tx (pre ++ (run ++ tail))) (some (i : Int)) (some (j : Int)) = tx run := by
  subst hi hj
  rw [cut_tx]
  congr 1
  rw [Nat.min_eq_left (by simp), Nat.min_eq_left (by simp only [List.length_append]; omega), List.drop_left, Nat.add_sub_cancel_left, List.take_left]
theorem cut_rest {pre rest : List Nat} {i : Nat} (hi : i = pre.length) : cutS (tx (pre ++ rest)) (some (i : Int)) none = tx rest := by
  subst hi
  unfold cutS
  have e : (tx (pre ++ rest)).length = (pre ++ rest).length := tx_len _
  rw [e, HT.sIx_nat, HT.sIx_none, Nat.min_eq_left (by simp), tx_tl, List.drop_left, List.length_append, Nat.add_sub_cancel_left, List.take_length]
theorem law_signs_at (ds : List D) (S : Sto) (Φ : D → Sto → Prop) (h : sp_signs_at ds S Φ) : w_signs_at { nx := fun _ S' => Φ .non S', rt := Φ } (ro n_signs_at ds) S := by
  obtain ⟨pre, run, tail, sgs, e, rfl, hl, hr, he, ht, q⟩ := h
  have tl : (tx (pre ++ (run ++ tail))).length = pre.length + (run.length + tail.length) := by rw [tx_len]; simp only [List.length_append]
  unfold w_signs_at n_signs_at
  simp only [ro, List.map_cons, List.map_nil, List.length_cons, List.length_nil, List.cons_append, List.nil_append, Nat.reduceAdd, Nat.reduceSub, List.replicate_succ, List.replicate_zero]
  rw [wSeq]
  unfold w_signs_at_0
  simp only [wAsg, wVar, gt, onS_some, res_i, wName, st]
  rw [wSeq]
  unfold w_signs_at_1
  refine ⟨fun m ρ S' => S' = S ∧ ∃ j : Nat, j ≤ run.length ∧ m = run.length - j ∧ ρ = [some (.str (tx (pre ++ (run ++ tail)))), some (.int (pre.length : Int)), some (.str (tx sgs)), some (.str (tx [e])), some (.int ((pre.length + j : Nat) : Int))], ⟨run.length, rfl, 0, Nat.zero_le _, by omega, rfl⟩, ?_⟩
  rintro m ρ S' ⟨rfl, j, hj, rfl, rfl⟩
  have after : ∀ (b : Bool), b = false → j = run.length → w_signs_at_2 { nx := w_signs_at_3 { nx := fun _ S' => Φ .non S', rt := Φ }, rt := Φ } [some (.str (tx (pre ++ (run ++ tail)))), some (.int (pre.length : Int)), some (.str (tx sgs)), some (.str (tx [e])), some (.int ((pre.length + j : Nat) : Int))] S' := fun b _ hj => by
    subst hj
    have fin : w_signs_at_3 { nx := fun _ S' => Φ .non S', rt := Φ } [some (.str (tx (pre ++ (run ++ tail)))), some (.int (pre.length : Int)), some (.str (tx sgs)), some (.str (tx [e])), some (.int ((pre.length + run.length : Nat) : Int))] S' := by
      unfold w_signs_at_3
      have n2 : 2 ≤ LIM := by decide
      simp only [wRet, wTup, wCons, wNil, wSl, wVar, wPart, gt, onS_some, res_s, res_i, fSl, view_s, tl, cut_run rfl rfl, List.length_cons, List.length_nil, Nat.reduceAdd, n2, true_and]
      exact ⟨hl, q⟩
    unfold w_signs_at_2
    rcases ht with rfl | ⟨t, rfl⟩
    · have d : decide (((pre.length + run.length : Nat) : Int) < ((pre.length + (run.length + ([] : List Nat).length) : Nat) : Int)) = false := by simp
      simp only [wIfS, wAnd, wTest, wOp, wVar, wB, wCons, wNil, gt, onS_some, res_s, res_i, fLen, lenS, view_s, tl, if_pos hl, fCmp, fI, view_i, true_and, d, Bool.false_eq_true, if_false, wSkip]
      exact fin
    · have d : decide (((pre.length + run.length : Nat) : Int) < ((pre.length + (run.length + (e :: t).length) : Nat) : Int)) = true := decide_eq_true (by simp only [List.length_cons]; omega)
      simp only [wIfS, wAnd, wTest, wOp, wVar, wB, wCons, wNil, gt, onS_some, res_s, res_i, fLen, lenS, view_s, tl, if_pos hl, fCmp, fI, view_i, true_and, d, if_true]
      rw [← List.append_assoc]
      refine ix_mid (by simp only [List.length_append, List.length_cons] at hl ⊢; omega) (by simp only [List.length_append]) ?_
      have es : tx [e] = sg e := rfl
      simp only [es, fNe, fEqB, view_s, decide_true, Bool.not_true, Bool.false_eq_true, if_false, wSkip]
      rw [List.append_assoc]
      exact fin
  by_cases z : j < run.length
  · have d : decide (((pre.length + j : Nat) : Int) < ((pre.length + (run.length + tail.length) : Nat) : Int)) = true := by simp; omega
    have hT : pre.length + j < (pre ++ (run ++ tail)).length := by simp only [List.length_append]; omega
    have gT : (pre ++ (run ++ tail))[pre.length + j] = run[j] := by
      rw [List.getElem_append_right (Nat.le_add_right _ _), List.getElem_append_left (by omega)]
      simp
    have m : decide (run[j] ∈ sgs) = true := by simp [hr _ (List.getElem_mem z)]
    simp only [wAnd, wTest, wOp, wVar, wB, wCons, wNil, gt, onS_some, res_s, res_i, fLen, lenS, view_s, tl, if_pos hl, fCmp, fI, view_i, true_and, d, if_true]
    refine ix_tx (by simp only [List.length_append]; omega) hT ?_
    rw [gT]
    simp only [fInSg, view_s, sgn_sg, onS_some, Bool.false_eq_true, if_false, tx_tl, m, if_true]
    unfold w_signs_at_loop1
    simp only [wAug, wVar, wC, gt, onS_some, st]
    have ei : ((pre.length + j : Nat) : Int) + 1 = ((pre.length + (j + 1) : Nat) : Int) := by omega
    rw [ei]
    exact ⟨run.length - (j + 1), by omega, trivial, j + 1, by omega, rfl, rfl⟩
  · have hj : j = run.length := by omega
    have cont := after false rfl hj
    subst hj
    rcases ht with rfl | ⟨t, rfl⟩
    · have d : decide (((pre.length + run.length : Nat) : Int) < ((pre.length + (run.length + ([] : List Nat).length) : Nat) : Int)) = false := by simp
      simp only [wAnd, wTest, wOp, wVar, wB, wCons, wNil, gt, onS_some, res_s, res_i, fLen, lenS, view_s, tl, if_pos hl, fCmp, fI, view_i, true_and, d, Bool.false_eq_true, if_false]
      exact cont
    · have d : decide (((pre.length + run.length : Nat) : Int) < ((pre.length + (run.length + (e :: t).length) : Nat) : Int)) = true := decide_eq_true (by simp only [List.length_cons]; omega)
      simp only [wAnd, wTest, wOp, wVar, wB, wCons, wNil, gt, onS_some, res_s, res_i, fLen, lenS, view_s, tl, if_pos hl, fCmp, fI, view_i, true_and, d, if_true]
      have m : decide (e ∈ sgs) = false := by simp [he]
      have ap : pre ++ (run ++ e :: t) = pre ++ run ++ e :: t := (List.append_assoc _ _ _).symm
      rw [ap]
      refine ix_mid (by simp only [List.length_append, List.length_cons] at hl ⊢; omega) (by simp only [List.length_append]) ?_
      simp only [fInSg, view_s, sgn_sg, onS_some, Bool.false_eq_true, if_false, tx_tl, m]
      rw [← ap]
      exact cont
theorem law_is_count (ds : List D) (S : Sto) (Φ : D → Sto → Prop) (h : sp_is_count ds S Φ) : w_is_count { nx := fun _ S' => Φ .non S', rt := Φ } (ro n_is_count ds) S := by
  obtain ⟨dg, b, rfl, h⟩ := h
  unfold w_is_count n_is_count
  simp only [ro, List.map_cons, List.map_nil, List.length_cons, List.length_nil, List.cons_append, List.nil_append, Nat.reduceAdd, Nat.reduceSub, List.replicate_succ, List.replicate_zero]
  rw [wSeq]
  have e0 : Str.ofString "" = tx [] := by decide +kernel
  have e48 : Str.ofString "0" = sg 48 := by decide +kernel
  rcases h with ⟨rfl, q⟩ | ⟨c, r, rfl, hc, ad, hl, hb, q⟩
  · simp only [wIfS, wOr, wTest, wOp, wVar, wC, gt, onS_some, res_s, fEq, fEqB, view_s, e0, decide_true, if_true, wRet]
    exact q
  · have ne : decide (tx (c :: r) = tx []) = false := by
      refine decide_eq_false fun h => ?_
      have := SX.S_inj h
      cases this
    have tl : (tx (c :: r)).length = (c :: r).length := tx_len _
    have lim : (c :: r).length ≤ LIM := by unfold LIM; omega
    have n0 : decide (sg c = sg 48) = false := by
      refine decide_eq_false fun h => hc ?_
      simpa [sg] using h
    have n39 : decide ((39 : Int) < ((c :: r).length : Int)) = false := by simp only [decide_eq_false_iff_not]; omega
    simp only [wIfS, wOr, wTest, wOp, wVar, wC, gt, onS_some, res_s, fEq, fEqB, view_s, e0, ne, Bool.false_eq_true, if_false]
    refine ix_tx (j := 0) lim (by simp) ?_
    simp only [List.getElem_cons_zero, e48, fEqB, view_s, n0, Bool.false_eq_true, if_false, wOp, wB, wCons, wNil, wVar, wC, gt, onS_some, res_s, fLen, lenS, tl, if_pos lim, fCmp, fI, view_i, true_and, n39, wSkip, wRet, wOrV, wNotV, res_b]
    cases b with
    | false =>
      simp only [Bool.not_false, if_true]
      exact q
    | true =>
      obtain ⟨h3, h200⟩ := hb rfl
      have l4 : decide (((c :: r).length : Int) < 4) = true := by simp only [decide_eq_true_eq]; omega
      have iv : PySem.intText? (tx (c :: r)) = some ((NumText.digitsVal (c :: r) : Nat) : Int) := SX.int_S (by
        rw [List.all_eq_true]
        intro x hx
        have := ad x hx
        simp; omega) (by simp) (by omega)
      have l2 : decide (((NumText.digitsVal (c :: r) : Nat) : Int) ≤ 200) = true := by simp only [decide_eq_true_eq]; omega
      have l640 : (c :: r).length ≤ 640 := by omega
      simp only [Bool.not_true, Bool.false_eq_true, if_false, wAndV, wOp, wB, wCons, wNil, wVar, wC, gt, onS_some, res_s, fLen, lenS, view_s, tl, if_pos lim, fCmp, fI, view_i, true_and, l4, if_true, fInt, l640, iv, l2]
      exact q
theorem all_true {l : List Nat} : (l.map fun _ => true).all id = true := by
  rw [List.all_eq_true]
  intro x hx
  obtain ⟨_, _, rfl⟩ := List.mem_map.mp hx
  rfl
theorem law_is_lettersT (ds : List D) (S : Sto) (Φ : D → Sto → Prop) (h : sp_is_lettersT ds S Φ) : w_is_letters { nx := fun _ S' => Φ .non S', rt := Φ } (ro n_is_letters ds) S := by
  obtain ⟨l, rfl, ne, hl, hc, q⟩ := h
  have ks : kindIs "str" "str" = true := by decide
  have e0 : Str.ofString "" = tx [] := by decide +kernel
  have nt : decide (tx l = tx []) = false := by
    refine decide_eq_false fun h => ne ?_
    exact SX.S_inj h
  unfold w_is_letters n_is_letters
  simp only [ro, List.map_cons, List.map_nil, List.length_cons, List.length_nil, List.cons_append, List.nil_append, Nat.reduceAdd, Nat.reduceSub, List.replicate_succ, List.replicate_zero]
  rw [wSeq]
  simp only [wIfS, wOr, wNot, wTru, wIsB, wVar, gt, onS_some, res_s, view_s, kindT, ks, tru, view_b, Bool.not_true, Bool.false_eq_true, if_false, wTest, wOp, wC, fEq, fEqB, e0, nt, wSkip, wRet, wB, wCons, wNil, wLc, wItS]
  unfold sgs
  have cmp : ∀ l : List Nat, (∀ c, c ∈ l → let95 c) → ∀ acc : List D, acc.length + l.length ≤ LIM → ∀ Q' : List D → Sto → Prop, Q' (acc ++ l.map fun _ => D.bl true) S →
      compD (wName 1) wYes (wAndV (wChain (fStrB fun i j => !decide (j < i)) (fStrB fun i j => !decide (j < i)) (wC (.str (Str.ofString " "))) (wVar 1) (wC (.str (Str.ofString "~")))) (wOp fNe (wB fOrd (wCons (wVar 1) wNil)) (wC (.int 37)))) (wp [some (.str (tx l)), none] [1]) Q' (l.map fun c => D.str (sg c)) acc S := by
    have gen : ∀ (ρ0 : Str) (l : List Nat), (∀ c, c ∈ l → let95 c) → ∀ acc : List D, acc.length + l.length ≤ LIM → ∀ Q' : List D → Sto → Prop, Q' (acc ++ l.map fun _ => D.bl true) S →
      compD (wName 1) wYes (wAndV (wChain (fStrB fun i j => !decide (j < i)) (fStrB fun i j => !decide (j < i)) (wC (.str (Str.ofString " "))) (wVar 1) (wC (.str (Str.ofString "~")))) (wOp fNe (wB fOrd (wCons (wVar 1) wNil)) (wC (.int 37)))) (wp [some (.str ρ0), none] [1]) Q' (l.map fun c => D.str (sg c)) acc S := by
      intro ρ0 l
      induction l with
      | nil => intro _ acc _ Q' hq; rw [List.map_nil]; unfold compD; simpa using hq
      | cons c l ih =>
        intro ok acc hl Q' hq
        rw [List.length_cons] at hl
        rw [List.map_cons]
        unfold compD
        simp only [wName, wYes, if_true]
        obtain ⟨k1, k2, k3⟩ := ok c (by simp)
        have w32 : (Str.ofString " ").cps.toList = [32] := by decide +kernel
        have w126 : (Str.ofString "~").cps.toList = [126] := by decide +kernel
        have wc : (sg c).cps.toList = [c] := rfl
        have go : acc.length < LIM ∧ compD (wName 1) wYes (wAndV (wChain (fStrB fun i j => !decide (j < i)) (fStrB fun i j => !decide (j < i)) (wC (.str (Str.ofString " "))) (wVar 1) (wC (.str (Str.ofString "~")))) (wOp fNe (wB fOrd (wCons (wVar 1) wNil)) (wC (.int 37)))) (wp [some (.str ρ0), none] [1]) Q' (l.map fun c => D.str (sg c)) (acc ++ [.bl true]) S :=
          ⟨by omega, ih (fun x hx => ok x (by simp [hx])) _ (by rw [List.length_append, List.length_singleton]; omega) Q' (by simpa using hq)⟩
        generalize compD (wName 1) wYes (wAndV (wChain (fStrB fun i j => !decide (j < i)) (fStrB fun i j => !decide (j < i)) (wC (.str (Str.ofString " "))) (wVar 1) (wC (.str (Str.ofString "~")))) (wOp fNe (wB fOrd (wCons (wVar 1) wNil)) (wC (.int 37)))) (wp [some (.str ρ0), none] [1]) Q' (l.map fun c => D.str (sg c)) = R at go ⊢
        have d1 : decide (32 ≤ c) = true := by simp [k1]
        have d2 : decide (c ≤ 126) = true := by simp [k2]
        have d3 : decide ((c : Int) = 37) = false := by simp; omega
        simp only [wAndV, wChain, wC, wVar, wp, st, gt, onS_some, res_s, fStrB, view_s, w32, w126, wc, le_one, d1, d2, if_true, wOp, wB, wCons, wNil, fOrd, sgn_sg, fNe, fEqB, view_i, d3, Bool.not_false]
        exact go
    exact fun l => gen (tx l) l
  refine cmp _ hc [] (by simp only [List.length_nil]; unfold LIM; omega) _ ?_
  have em : ([] : List D) ++ l.map (fun _ => D.bl true) = (l.map fun _ => true).map D.bl := by rw [List.nil_append, List.map_map]; rfl
  rw [em]
  simp only [fAll, fAllB, view_l, blsD_map, onS_some, all_true]
  exact q
end Sq

set_option Elab.async false
set_option maxRecDepth 100000
set_option maxHeartbeats 4000000
set_option linter.all false
/-! Frames read. -/
namespace Sq
open PySem L2
local macro_rules | `(tactic| walk_at "wk") => `(tactic| simp only [wSeq, wAsg, wVar, wC, wOp, wTest, wIfS, wRet, wRetN, wIf, wCall, wCons, wNil, wName, wGTup, wGCons, wGNil, wPar, wPar3, wTup, wLst, wLstM, wAnd, wOr, wNot, wTru, tru, wAndV, wOrV, wNotV, wSkip, wDrop, wB, wNeg, fAdd, fSub, fMod, fMulA, fDiv, fEq, fEqB, fNe, fCmp, fI, fIsN, fNotN, isNon, fLen, lenS, fIx, gt, st, res_i, res_b, res_s, res_n, res_t, res_l, res_d, res_c, res_scr, view_i, view_b, view_s, view_n, view_t, view_l, view_d, view_c, Rt.res, Rt.view, rule_res, onS_some, ro, List.map_cons, List.map_nil, List.length_cons, List.length_nil, List.cons_append, List.nil_append, List.append_nil, List.replicate_succ, List.replicate_zero, Nat.reduceAdd, Nat.reduceSub, Nat.sub_self, so_inj, so_beq, at0, at1, at2, at3, gx0, gx1, gx2, gx3, nc0, nc1, nc2, nc3, nc4, nc6, lm0, lm1, lm2, lm3, lm4, lm6, String.reduceEq, Int.reduceEq, Int.reduceLT, Int.reduceLE, decide_true, decide_false, Bool.not_true, Bool.not_false, reduceIte, true_and, and_true, Bool.false_eq_true, reduceCtorEq, List.length_map, view_hl, *])
/-! ### frames read -/
/-- r begins with l, or is a beginning of l that is not all of it -/
def Fp (l r : List Nat) (t : Bool) : Prop := if t = true then ∃ more, r = l ++ more else ∃ z, z ≠ [] ∧ l = r ++ z
theorem Fp.seg {a b r : List Nat} {x : Nat} {t : Bool} (h : Fp (a ++ x :: b) r t) : (t = false ∧ ∃ z, a = r ++ z) ∨ ∃ r', r = a ++ x :: r' ∧ Fp b r' t := by
  unfold Fp at h
  cases t with
  | true =>
    obtain ⟨m, rfl⟩ := h
    exact .inr ⟨b ++ m, by simp, m, rfl⟩
  | false =>
    obtain ⟨z, nz, e⟩ := h
    rcases List.append_eq_append_iff.mp e with ⟨a', e1, e2⟩ | ⟨c', e1, e2⟩
    · cases a' with
      | nil => exact .inl ⟨rfl, [], by simpa using e1.symm⟩
      | cons y a' =>
        rw [List.cons_append] at e2
        injection e2 with e3 e4
        subst e3
        exact .inr ⟨a', e1, z, nz, e4⟩
    · exact .inl ⟨rfl, c', e1⟩
theorem Fp.head {b r : List Nat} {x : Nat} {t : Bool} (h : Fp (x :: b) r t) (ne : r ≠ []) : ∃ r', r = x :: r' ∧ Fp b r' t := by
  rcases Fp.seg (a := []) h with ⟨_, z, e⟩ | h
  · cases r with
    | nil => exact absurd rfl ne
    | cons _ _ => simp at e
  · exact h
theorem Fp.nil {r : List Nat} {t : Bool} (h : Fp [] r t) : t = true := by
  cases t with
  | true => rfl
  | false =>
    obtain ⟨z, nz, e⟩ := h
    simp at e
    exact absurd e.2 nz
def sp_data_at : FSp := fun ds S Q => ∃ (pre r nm l : List Nat) (w e t : Bool), ds = [.str (tx (pre ++ r)), .int (pre.length : Int), .str (tx nm), .int (l.length : Int)] ∧ pre.length + r.length ≤ 9000000 ∧ 1 ≤ l.length ∧ l.length ≤ 200 ∧ (∀ c, c ∈ l → let95 c) ∧
  Fp (mks w e ++ 58 :: (l ++ 59 :: [])) r t ∧ (t = true → Q (.tup [(Fr.data nm l w e).d, .int ((pre.length + (mks w e).length + 1 + l.length + 1 : Nat) : Int)]) S) ∧ (t = false → ∀ j : Int, Q (.tup [.non, .int j]) S)
def sp_frame_at : FSp := fun ds S Q => ∃ (pre r : List Nat) (f : Fr) (t : Bool), ds = [.str (tx (pre ++ r)), .int (pre.length : Int)] ∧ pre.length + r.length ≤ 9000000 ∧ f.ok ∧ r ≠ [] ∧
  Fp f.t r t ∧ (t = true → Q (.tup [f.d, .int ((pre.length + f.t.length : Nat) : Int)]) S) ∧ (t = false → ∀ j : Int, Q (.tup [.non, .int j]) S)
/-- data_at: slots 0 text 1 at 2 name 3 many 4 marks 5 spot 6 end 7 letters -/
def w_data_at_0 : WS :=
  (wAsg (wCall 4 sp_signs_at [] (wCons (wVar 0) (wCons (wVar 1) (wCons (wC (.str "we")) (wCons (wC (.str ":")) wNil))))) (wGTup 2 (wGCons (wName 4) (wGCons (wName 5) wGNil))))
def w_data_at_1 : WS :=
  (wIfS (wTest (wOp (fIn true) (wVar 4) (wC (.tup [.str "", .str "w", .str "e", .str "we"])))) wNever wSkip)
def w_data_at_2 : WS :=
  (wAsg (wOp fAdd (wOp fAdd (wVar 5) (wC (.int 1))) (wVar 3)) (wName 6))
def w_data_at_3 : WS :=
  (wAsg (wSl (wVar 0) (wPart (wOp fAdd (wVar 5) (wC (.int 1)))) (wPart (wVar 6))) (wName 7))
def w_data_at_4 : WS :=
  (wIfS (wAnd (wTest (wOp fNe (wVar 7) (wC (.str "")))) (wNot (wTru (wCall 1 sp_is_lettersT [] (wCons (wVar 7) wNil))))) wNever wSkip)
def w_data_at_5 : WS :=
  (wIfS (wTest (wOp (fCmp fun i j => decide (j ≤ i)) (wVar 6) (wB fLen (wCons (wVar 0) wNil)))) (wRet (wTup (wCons (wC .non) (wCons (wVar 1) wNil)))) wSkip)
def w_data_at_6 : WS :=
  (wIfS (wTest (wOp fNe (wOp fIx (wVar 0) (wVar 6)) (wC (.str ";")))) wNever wSkip)
def w_data_at_7 : WS :=
  (wRet (wTup (wCons (wTup (wCons (wC (.str "data")) (wCons (wVar 2) (wCons (wVar 7) (wCons (wOp (fInSg false) (wC (.str "w")) (wVar 4)) (wCons (wOp (fInSg false) (wC (.str "e")) (wVar 4)) wNil)))))) (wCons (wOp fAdd (wVar 6) (wC (.int 1))) wNil))))
def w_data_at : WS :=
  (wSeq (w_data_at_0) (wSeq (w_data_at_1) (wSeq (w_data_at_2) (wSeq (w_data_at_3) (wSeq (w_data_at_4) (wSeq (w_data_at_5) (wSeq (w_data_at_6) (w_data_at_7))))))))
def n_data_at : List Str := ["text", "at", "name", "many", "marks", "spot", "end", "letters"]
theorem signs_call {S : Sto} {T P run tail sgs : List Nat} {e : Nat} {i : Int} {s z : Str} {Q : D → Sto → Prop} (hT : T = P ++ (run ++ tail)) (hi : i = (P.length : Int)) (hs : s = tx sgs) (hz : z = tx [e]) (hl : T.length ≤ 9000000) (hr : ∀ c, c ∈ run → c ∈ sgs) (he : e ∉ sgs)
    (ht : tail = [] ∨ ∃ t, tail = e :: t) (q : Q (.tup [.str (tx run), .int ((P.length + run.length : Nat) : Int)]) S) : sp_signs_at [.str (tx T), .int i, .str s, .str z] S Q := by
  subst hT hi hs hz
  simp only [List.length_append] at hl
  exact ⟨P, run, tail, sgs, e, rfl, by unfold LIM; omega, hr, he, ht, q⟩
theorem we_codes : Str.ofString "we" = tx [119, 101] := by decide +kernel
theorem mks_in {w e : Bool} {c : Nat} (h : c ∈ mks w e) : c ∈ [119, 101] := by
  cases w <;> cases e <;> simp [mks] at h ⊢ <;> omega
theorem mks_pre {w e : Bool} {r z : List Nat} (h : mks w e = r ++ z) : inV (.str (tx r)) [.str (Str.ofString ""), .str (Str.ofString "w"), .str (Str.ofString "e"), .str (Str.ofString "we")] = true := by
  have e1 : r = (mks w e).take r.length := by rw [h, List.take_left]
  have e2 : r.length ≤ 2 := by have := mks_len w e; rw [h, List.length_append] at this; omega
  rw [e1]
  generalize r.length = k at e2
  have : k = 0 ∨ k = 1 ∨ k = 2 := by omega
  rcases this with rfl | rfl | rfl <;> cases w <;> cases e <;> decide +kernel
theorem has_w (w e : Bool) : decide (119 ∈ mks w e) = w := by cases w <;> cases e <;> decide
theorem has_e (w e : Bool) : decide (101 ∈ mks w e) = e := by cases w <;> cases e <;> decide
theorem cut_mid {P r2 : List Nat} {i k : Nat} (hi : i = P.length) : cutS (tx (P ++ r2)) (some (i : Int)) (some ((i + k : Nat) : Int)) = tx (r2.take k) := by
  subst hi
  rw [cut_tx]
  congr 1
  have m1 : min P.length (P ++ r2).length = P.length := Nat.min_eq_left (by simp)
  rw [m1, List.drop_left, List.length_append]
  have e : min (P.length + k) (P.length + r2.length) - P.length = min k r2.length := by omega
  rw [e]
  by_cases z : k ≤ r2.length
  · rw [Nat.min_eq_left z]
  · rw [Nat.min_eq_right (by omega), List.take_length, List.take_of_length_le (by omega)]
theorem cut_past {T : List Nat} {i j : Nat} (hi : T.length ≤ i) : cutS (tx T) (some (i : Int)) (some (j : Int)) = tx [] := by
  rw [cut_tx]
  congr 1
  rw [Nat.min_eq_right hi, List.drop_length, List.take_nil]
theorem letters_call {S : Sto} {l : List Nat} {κ : WK} {ρ : Ro} (g : gt ρ 7 = some (.str (tx l))) (hl : l.length ≤ 1000) (hc : ∀ c, c ∈ l → let95 c) (q : κ.nx ρ S) : w_data_at_4 κ ρ S := by
  have e0 : Str.ofString "" = tx [] := by decide +kernel
  unfold w_data_at_4
  simp only [wIfS, wAnd, wTest, wOp, wVar, wC, g, onS_some, res_s, fNe, fEqB, view_s, e0]
  by_cases z : l = []
  · subst z
    simp only [decide_true, Bool.not_true, Bool.false_eq_true, if_false, wSkip]
    exact q
  · have e : decide (tx l = tx []) = false := decide_eq_false fun h => z (SX.S_inj h)
    simp only [e, Bool.not_false, if_true, wNot, wTru, wCall, wCons, wNil, wVar, g, onS_some, res_s, List.append_nil, List.length_cons, List.length_nil, Nat.reduceAdd, true_and]
    refine ⟨l, rfl, z, hl, hc, ?_⟩
    simp only [tru, view_b, onS_some, Bool.not_true, Bool.false_eq_true, if_false, wSkip]
    exact q
theorem law_data_at (ds : List D) (S : Sto) (Φ : D → Sto → Prop) (h : sp_data_at ds S Φ) : w_data_at { nx := fun _ S' => Φ .non S', rt := Φ } (ro n_data_at ds) S := by
  obtain ⟨pre, r, nm, l, w, e, t, rfl, hl, l1, l2, hc, hr, qt, qf⟩ := h
  have sw : Str.ofString "w" = sg 119 := by decide +kernel
  have se : Str.ofString "e" = sg 101 := by decide +kernel
  have s58 : Str.ofString ":" = tx [58] := by decide +kernel
  have s59 : Str.ofString ";" = sg 59 := by decide +kernel
  have n2 : 2 ≤ LIM := by decide
  have n5 : 5 ≤ LIM := by decide
  generalize hT : pre ++ r = T
  have tl : T.length = pre.length + r.length := by rw [← hT, List.length_append]
  have tlen : (tx T).length = T.length := tx_len T
  have lim : T.length ≤ LIM := by unfold LIM; omega
  unfold w_data_at n_data_at
  simp only [ro, List.map_cons, List.map_nil, List.length_cons, List.length_nil, List.cons_append, List.nil_append, Nat.reduceAdd, Nat.reduceSub, List.replicate_succ, List.replicate_zero]
  rw [wSeq]
  unfold w_data_at_0
  simp only [wAsg, wCall, wCons, wNil, wVar, wC, gt, onS_some, res_s, res_i, List.append_nil, List.length_cons, List.length_nil, Nat.reduceAdd, true_and]
  -- behind the marks
  have go : ∀ (run tail : List Nat) (z : List Nat), r = run ++ tail → mks w e = run ++ z → (tail = [] ∨ ∃ t, tail = 58 :: t) →
      ((t = false ∧ tail = []) ∨ ∃ r2, tail = 58 :: r2 ∧ run = mks w e ∧ Fp (l ++ 59 :: []) r2 t) →
      sp_signs_at [.str (tx T), .int (pre.length : Int), .str (Str.ofString "we"), .str (Str.ofString ":")] S fun d S1 => wGTup 2 (wGCons (wName 4) (wGCons (wName 5) wGNil)) d [some (.str (tx T)), some (.int (pre.length : Int)), some (.str (tx nm)), some (.int (l.length : Int)), none, none, none, none] S1
        (wSeq w_data_at_1 (wSeq w_data_at_2 (wSeq w_data_at_3 (wSeq w_data_at_4 (wSeq w_data_at_5 (wSeq w_data_at_6 w_data_at_7))))) { nx := fun _ S' => Φ .non S', rt := Φ }) := by
    intro run tail z er em ht hk
    refine signs_call (run := run) (tail := tail) (P := pre) (by rw [← hT, er]) rfl we_codes s58 (by omega) (fun c hc => mks_in (w := w) (e := e) (by rw [em]; simp [hc])) (by decide) ht ?_
    simp only [wGTup, view_t, List.length_cons, List.length_nil, Nat.reduceAdd, wGCons, wGNil, wName, st, true_and]
    rw [wSeq]
    unfold w_data_at_1
    have mi := mks_pre em
    simp only [wIfS, wTest, wOp, wVar, wC, gt, onS_some, res_s, fIn, scV, view_t, scVs, mi, if_true, Bool.not_true, Bool.false_eq_true, if_false, wSkip]
    rw [wSeq]
    unfold w_data_at_2
    have ei : ((pre.length + run.length : Nat) : Int) + 1 + (l.length : Int) = ((pre.length + run.length + 1 + l.length : Nat) : Int) := by omega
    have ej : ((pre.length + run.length : Nat) : Int) + 1 = ((pre.length + run.length + 1 : Nat) : Int) := by omega
    simp only [wAsg, wOp, wVar, wC, gt, onS_some, res_i, fAdd, view_i, wName, st, ei]
    rw [wSeq]
    unfold w_data_at_3
    simp only [wAsg, wSl, wPart, wOp, wVar, wC, gt, onS_some, res_s, res_i, fAdd, view_i, ej, fSl, view_s, tlen, wName, st]
    refine ⟨lim, ?_⟩
    rcases hk with ⟨rfl, rfl⟩ | ⟨r2, rfl, rfl, hf⟩
    · rw [List.append_nil] at er
      subst er
      rw [cut_past (by omega)]
      rw [wSeq]
      refine letters_call rfl (by simp) (by simp) ?_
      dsimp only
      rw [wSeq]
      unfold w_data_at_5
      have d : decide ((T.length : Int) ≤ ((pre.length + r.length + 1 + l.length : Nat) : Int)) = true := decide_eq_true (by omega)
      simp only [wIfS, wTest, wOp, wVar, wB, wCons, wNil, gt, onS_some, res_s, res_i, fLen, lenS, view_s, tlen, if_pos lim, fCmp, fI, view_i, true_and, d, if_true, wRet, wTup, wC, List.length_cons, List.length_nil, Nat.reduceAdd, n2]
      exact qf rfl _
    · have eT : T = (pre ++ (mks w e ++ [58])) ++ r2 := by rw [← hT, er]; simp
      have eP : pre.length + (mks w e).length + 1 = (pre ++ (mks w e ++ [58])).length := by simp only [List.length_append, List.length_cons, List.length_nil]; omega
      have ec : cutS (tx T) (some ((pre.length + (mks w e).length + 1 : Nat) : Int)) (some ((pre.length + (mks w e).length + 1 + l.length : Nat) : Int)) = tx (r2.take l.length) := by
        rw [eT]; exact cut_mid eP
      have tl2 : T.length = pre.length + (mks w e).length + 1 + r2.length := by rw [eT]; simp only [List.length_append, List.length_cons, List.length_nil]; omega
      rw [ec]
      rw [wSeq]
      cases t with
      | false =>
        obtain ⟨z2, nz, e2⟩ := hf
        have le : r2.length ≤ l.length := by
          have := congrArg List.length e2
          have : 0 < z2.length := List.length_pos_iff.mpr nz
          simp only [List.length_append, List.length_cons, List.length_nil] at *
          omega
        have tk : r2.take l.length = r2 := List.take_of_length_le le
        rw [tk]
        refine letters_call rfl (by omega) (fun c hc' => hc c ?_) ?_
        · have : r2 = (l ++ 59 :: []).take r2.length := by rw [e2, List.take_left]
          rw [List.take_append_of_le_length le] at this
          rw [this] at hc'
          exact List.mem_of_mem_take hc'
        dsimp only
        rw [wSeq]
        unfold w_data_at_5
        have d : decide ((T.length : Int) ≤ ((pre.length + (mks w e).length + 1 + l.length : Nat) : Int)) = true := decide_eq_true (by omega)
        simp only [wIfS, wTest, wOp, wVar, wB, wCons, wNil, gt, onS_some, res_s, res_i, fLen, lenS, view_s, tlen, if_pos lim, fCmp, fI, view_i, true_and, d, if_true, wRet, wTup, wC, List.length_cons, List.length_nil, Nat.reduceAdd, n2]
        exact qf rfl _
      | true =>
        obtain ⟨more, rfl⟩ := hf
        have tk : (l ++ 59 :: [] ++ more).take l.length = l := by rw [List.append_assoc, List.take_left]
        rw [tk]
        refine letters_call rfl (by omega) hc ?_
        dsimp only
        rw [wSeq]
        unfold w_data_at_5
        have d : decide ((T.length : Int) ≤ ((pre.length + (mks w e).length + 1 + l.length : Nat) : Int)) = false := decide_eq_false (by simp only [List.length_append, List.length_cons, List.length_nil] at tl2; omega)
        simp only [wIfS, wTest, wOp, wVar, wB, wCons, wNil, gt, onS_some, res_s, res_i, fLen, lenS, view_s, tlen, if_pos lim, fCmp, fI, view_i, true_and, d, Bool.false_eq_true, if_false, wSkip]
        rw [wSeq]
        unfold w_data_at_6
        simp only [wIfS, wTest, wOp, wVar, wC, gt, onS_some, res_s, res_i]
        have eT2 : T = (pre ++ (mks w e ++ (58 :: l))) ++ 59 :: more := by rw [eT]; simp
        have ix : ∀ Q' : D → Sto → Prop, Q' (.str (sg 59)) S → fIx S (.str (tx T)) (.int ((pre.length + (mks w e).length + 1 + l.length : Nat) : Int)) Q' := fun Q' h => by
          rw [eT2]
          refine ix_mid (by simp only [List.length_append, List.length_cons, List.length_nil] at tl2 ⊢; unfold LIM; omega) (by simp only [List.length_append, List.length_cons]; omega) h
        refine ix _ ?_
        simp only [s59, fNe, fEqB, view_s, decide_true, Bool.not_true, Bool.false_eq_true, if_false, wSkip]
        unfold w_data_at_7
        have ek : ((pre.length + (mks w e).length + 1 + l.length : Nat) : Int) + 1 = ((pre.length + (mks w e).length + 1 + l.length + 1 : Nat) : Int) := by omega
        simp only [wRet, wTup, wCons, wNil, wC, wVar, wOp, gt, onS_some, res_s, res_i, sw, se, fInSg, view_s, sgn_sg, tx_tl, has_w, has_e, Bool.false_eq_true, if_false, List.length_cons, List.length_nil, Nat.reduceAdd, n5, n2, true_and, fAdd, view_i, ek]
        exact qt rfl
  rcases hr.seg with ⟨ht, z, em⟩ | ⟨r2, er, hf⟩
  · exact go r [] z (by simp) em (.inl rfl) (.inl ⟨ht, rfl⟩)
  · exact go (mks w e) (58 :: r2) [] er (by simp) (.inr ⟨r2, rfl⟩) (.inr ⟨r2, rfl, rfl, hf⟩)
end Sq

set_option Elab.async false
set_option maxRecDepth 100000
set_option maxHeartbeats 4000000
set_option linter.all false
/-! A frame read. -/
namespace Sq
open PySem L2
local macro_rules | `(tactic| walk_at "wk") => `(tactic| simp only [wSeq, wAsg, wVar, wC, wOp, wTest, wIfS, wRet, wRetN, wIf, wCall, wCons, wNil, wName, wGTup, wGCons, wGNil, wPar, wPar3, wTup, wLst, wLstM, wAnd, wOr, wNot, wTru, tru, wAndV, wOrV, wNotV, wSkip, wDrop, wB, wNeg, fAdd, fSub, fMod, fMulA, fDiv, fEq, fEqB, fNe, fCmp, fI, fIsN, fNotN, isNon, fLen, lenS, fIx, gt, st, res_i, res_b, res_s, res_n, res_t, res_l, res_d, res_c, res_scr, view_i, view_b, view_s, view_n, view_t, view_l, view_d, view_c, Rt.res, Rt.view, rule_res, onS_some, ro, List.map_cons, List.map_nil, List.length_cons, List.length_nil, List.cons_append, List.nil_append, List.append_nil, List.replicate_succ, List.replicate_zero, Nat.reduceAdd, Nat.reduceSub, Nat.sub_self, so_inj, so_beq, at0, at1, at2, at3, gx0, gx1, gx2, gx3, nc0, nc1, nc2, nc3, nc4, nc6, lm0, lm1, lm2, lm3, lm4, lm6, String.reduceEq, Int.reduceEq, Int.reduceLT, Int.reduceLE, decide_true, decide_false, Bool.not_true, Bool.not_false, reduceIte, true_and, and_true, Bool.false_eq_true, reduceCtorEq, List.length_map, view_hl, *])
/-- frame_at: slots 0 text 1 at 2 is_data 3 name 4 spot 5 digits -/
def w_frame_at_0 : WS :=
  (wIfS (wTest (wOp (fInSg true) (wOp fIx (wVar 0) (wVar 1)) (wC (.str "bd")))) wNever wSkip)
def w_frame_at_1 : WS :=
  (wAsg (wOp fEq (wOp fIx (wVar 0) (wVar 1)) (wC (.str "d"))) (wName 2))
def w_frame_at_2 : WS :=
  (wAsg (wCall 4 sp_signs_at [] (wCons (wVar 0) (wCons (wOp fAdd (wVar 1) (wC (.int 1))) (wCons (wC (.str "abcdefghijklmnopqrstuvwxyz")) (wCons (wC (.str ",")) wNil))))) (wGTup 2 (wGCons (wName 3) (wGCons (wName 4) wGNil))))
def w_frame_at_3 : WS :=
  (wIfS (wAnd (wNot (wTru (wCall 1 sp_is_name [] (wCons (wVar 3) wNil)))) (wOr (wTest (wOp (fCmp fun i j => decide (i < j)) (wVar 4) (wB fLen (wCons (wVar 0) wNil)))) (wTest (wOp fNe (wVar 3) (wC (.str "")))))) wNever wSkip)
def w_frame_at_4 : WS :=
  (wIfS (wTest (wOp fEq (wVar 4) (wB fLen (wCons (wVar 0) wNil)))) (wRet (wTup (wCons (wC .non) (wCons (wVar 1) wNil)))) wSkip)
def w_frame_at_5 : WS :=
  (wAsg (wCall 4 sp_signs_at [] (wCons (wVar 0) (wCons (wOp fAdd (wVar 4) (wC (.int 1))) (wCons (wC (.str "0123456789")) (wCons (wIf (wTru (wVar 2)) (wC (.str ",")) (wC (.str ";"))) wNil))))) (wGTup 2 (wGCons (wName 5) (wGCons (wName 4) wGNil))))
def w_frame_at_6 : WS :=
  (wIfS (wAnd (wNot (wTru (wCall 2 sp_is_count [] (wCons (wVar 5) (wCons (wVar 2) wNil))))) (wOr (wTest (wOp (fCmp fun i j => decide (i < j)) (wVar 4) (wB fLen (wCons (wVar 0) wNil)))) (wTest (wOp fNe (wVar 5) (wC (.str "")))))) wNever wSkip)
def w_frame_at_7 : WS :=
  (wIfS (wTest (wOp fEq (wVar 4) (wB fLen (wCons (wVar 0) wNil)))) (wRet (wTup (wCons (wC .non) (wCons (wVar 1) wNil)))) wSkip)
def w_frame_at_8 : WS :=
  (wIfS (wTru (wVar 2)) (wRet (wCall 4 sp_data_at [] (wCons (wVar 0) (wCons (wOp fAdd (wVar 4) (wC (.int 1))) (wCons (wVar 3) (wCons (wB fInt (wCons (wVar 5) wNil)) wNil)))))) wSkip)
def w_frame_at_9 : WS :=
  (wRet (wTup (wCons (wTup (wCons (wC (.str "back")) (wCons (wVar 3) (wCons (wB fInt (wCons (wVar 5) wNil)) wNil)))) (wCons (wOp fAdd (wVar 4) (wC (.int 1))) wNil))))
def w_frame_at : WS :=
  (wSeq (w_frame_at_0) (wSeq (w_frame_at_1) (wSeq (w_frame_at_2) (wSeq (w_frame_at_3) (wSeq (w_frame_at_4) (wSeq (w_frame_at_5) (wSeq (w_frame_at_6) (wSeq (w_frame_at_7) (wSeq (w_frame_at_8) (w_frame_at_9))))))))))
def n_frame_at : List Str := ["text", "at", "is_data", "name", "spot", "digits"]
theorem dv_mono (a : List Nat) : ∀ z : List Nat, NumText.digitsVal a ≤ NumText.digitsVal (a ++ z) := by
  intro z
  induction z generalizing a with
  | nil => simp
  | cons c z ih =>
    have e : a ++ c :: z = (a ++ [c]) ++ z := by simp
    rw [e]
    refine Nat.le_trans ?_ (ih (a ++ [c]))
    have := NumText.digitsVal_snoc a c
    omega
theorem num_head : ∀ {n : Nat}, 1 ≤ n → ∃ c r, TL.numL n = c :: r ∧ c ≠ 48
  | n, h => by
    by_cases z : n < 10
    · exact ⟨48 + n, [], TL.numL_lt z, by omega⟩
    · obtain ⟨c, r, e, hc⟩ := num_head (n := n / 10) (by omega)
      exact ⟨c, r ++ [48 + n % 10], by rw [TL.numL_step (by omega), e]; rfl, hc⟩
theorem count_call {S : Sto} {n : Nat} {dg z : List Nat} {b : Bool} {Q : D → Sto → Prop} (n1 : 1 ≤ n) (n39 : n < 10 ^ 39) (hb : b = true → n ≤ 200) (hd : TL.numL n = dg ++ z) (q : Q (.bl (decide (dg ≠ []))) S) : sp_is_count [.str (tx dg), .bl b] S Q := by
  refine ⟨dg, b, rfl, ?_⟩
  cases dg with
  | nil => exact .inl ⟨rfl, by simpa using q⟩
  | cons c r =>
    obtain ⟨c', r', e, hc⟩ := num_head n1
    have ec : c = c' := by
      rw [e, List.cons_append] at hd
      injection hd with h1 h2
      exact h1.symm
    have ad : NumText.AllDigits (c :: r) := fun x hx => TL.numL_digits n x (by rw [hd]; exact List.mem_append_left _ hx)
    have l39 : (c :: r).length ≤ 39 := by
      have := num39 n39
      rw [hd, List.length_append] at this
      omega
    refine .inr ⟨c, r, rfl, by rw [ec]; exact hc, ad, l39, fun h => ⟨?_, ?_⟩, by simpa using q⟩
    · have := num3 (hb h)
      rw [hd, List.length_append] at this
      omega
    · have := dv_mono (c :: r) z
      rw [← hd, TL.numL_val] at this
      have := hb h
      omega
theorem nm_tx {l : List Nat} (hl : l.length ≤ 8) (h : ∀ c, c ∈ l → low26 c) : Sq.nm (.str (tx l)) = decide (l ≠ []) := by
  have e1 : (tx l).length = l.length := tx_len l
  have e2 : (tx l).cps.toList.all (fun c => decide (c ∈ SML)) = true := by
    rw [List.all_eq_true]
    intro c hc
    have := h c hc
    unfold SML
    rw [lets]
    unfold low26 at this
    simp only [decide_eq_true_eq, List.mem_map, List.mem_range]
    exact ⟨c - 97, by omega, by omega⟩
  show (decide (1 ≤ (tx l).length) && decide ((tx l).length ≤ 8) && (tx l).cps.toList.all fun c => decide (c ∈ SML)) = _
  rw [e1, e2]
  cases l with
  | nil => rfl
  | cons c r =>
    simp only [List.length_cons] at hl ⊢
    simp; omega
theorem name_call {S : Sto} {l : List Nat} {Q : D → Sto → Prop} (hl : l.length ≤ 8) (h : ∀ c, c ∈ l → low26 c) (q : Q (.bl (decide (l ≠ []))) S) : sp_is_name [.str (tx l)] S Q := by
  refine ⟨_, rfl, .text ⟨?_, ?_⟩, ?_⟩
  · rw [tx_tl]; omega
  · intro c hc
    have := h c hc
    unfold low26 at this
    unfold okc
    omega
  · rw [nm_tx hl h]; exact q
theorem sml_codes : Str.ofString "abcdefghijklmnopqrstuvwxyz" = tx ((List.range 26).map (97 + ·)) := by decide +kernel
theorem dig_codes : Str.ofString "0123456789" = tx ((List.range 10).map (48 + ·)) := by decide +kernel
theorem in_sml {c : Nat} (h : low26 c) : c ∈ (List.range 26).map (97 + ·) := by
  unfold low26 at h
  rw [List.mem_map]
  exact ⟨c - 97, List.mem_range.mpr (by omega), by omega⟩
theorem in_dig {c : Nat} (h : 48 ≤ c ∧ c ≤ 57) : c ∈ (List.range 10).map (48 + ·) := by
  rw [List.mem_map]
  exact ⟨c - 48, List.mem_range.mpr (by omega), by omega⟩
theorem ne_tx {l : List Nat} : decide (tx l = tx []) = decide (l = []) := by
  by_cases z : l = []
  · subst z; simp
  · have e : tx l ≠ tx [] := fun h => z (SX.S_inj h)
    simp [e, z]
section
variable {S : Sto} {κ : WK} {T : List Nat}
/-- behind a row of signs: what it is, is known to be well, or nothing is there -/
theorem skip_name {ρ : Ro} {l : List Nat} {sp : Nat} (g0 : gt ρ 0 = some (.str (tx T))) (g3 : gt ρ 3 = some (.str (tx l))) (g4 : gt ρ 4 = some (.int (sp : Int))) (lim : T.length ≤ LIM) (hl : l.length ≤ 8) (h : ∀ c, c ∈ l → low26 c) (hn : l = [] → sp = T.length) (q : κ.nx ρ S) : w_frame_at_3 κ ρ S := by
  have e0 : Str.ofString "" = tx [] := by decide +kernel
  have tlen : (tx T).length = T.length := tx_len T
  unfold w_frame_at_3
  simp only [wIfS, wAnd, wNot, wTru, wCall, wCons, wNil, wVar, g3, onS_some, res_s, List.append_nil, List.length_cons, List.length_nil, Nat.reduceAdd, true_and]
  refine name_call hl h ?_
  by_cases z : l = []
  · have d : decide (l ≠ []) = false := by simp [z]
    have d2 : decide ((sp : Int) < (T.length : Int)) = false := decide_eq_false (by have := hn z; omega)
    have d3 : decide (l = []) = true := by simp [z]
    simp only [tru, view_b, onS_some, d, Bool.not_false, if_true, wOr, wTest, wOp, wB, wCons, wNil, wVar, wC, g0, g3, g4, res_s, res_i, fLen, lenS, view_s, tlen, if_pos lim, fCmp, fI, view_i, true_and, d2, Bool.false_eq_true, if_false, fNe, fEqB, e0, ne_tx, d3, Bool.not_true, wSkip]
    exact q
  · have d : decide (l ≠ []) = true := by simp [z]
    simp only [tru, view_b, onS_some, d, Bool.not_true, Bool.false_eq_true, if_false, wSkip]
    exact q
theorem skip_count {ρ : Ro} {l z : List Nat} {sp n : Nat} {b : Bool} (g0 : gt ρ 0 = some (.str (tx T))) (g2 : gt ρ 2 = some (.bl b)) (g5 : gt ρ 5 = some (.str (tx l))) (g4 : gt ρ 4 = some (.int (sp : Int))) (lim : T.length ≤ LIM) (n1 : 1 ≤ n) (n39 : n < 10 ^ 39) (hb : b = true → n ≤ 200) (hd : TL.numL n = l ++ z) (hn : l = [] → sp = T.length) (q : κ.nx ρ S) : w_frame_at_6 κ ρ S := by
  have e0 : Str.ofString "" = tx [] := by decide +kernel
  have tlen : (tx T).length = T.length := tx_len T
  unfold w_frame_at_6
  simp only [wIfS, wAnd, wNot, wTru, wCall, wCons, wNil, wVar, g5, g2, onS_some, res_s, res_b, List.append_nil, List.length_cons, List.length_nil, Nat.reduceAdd, true_and]
  refine count_call n1 n39 hb hd ?_
  by_cases z : l = []
  · have d : decide (l ≠ []) = false := by simp [z]
    have d2 : decide ((sp : Int) < (T.length : Int)) = false := decide_eq_false (by have := hn z; omega)
    have d3 : decide (l = []) = true := by simp [z]
    simp only [tru, view_b, onS_some, d, Bool.not_false, if_true, wOr, wTest, wOp, wB, wCons, wNil, wVar, wC, g0, g5, g4, res_s, res_i, fLen, lenS, view_s, tlen, if_pos lim, fCmp, fI, view_i, true_and, d2, Bool.false_eq_true, if_false, fNe, fEqB, e0, ne_tx, d3, Bool.not_true, wSkip]
    exact q
  · have d : decide (l ≠ []) = true := by simp [z]
    simp only [tru, view_b, onS_some, d, Bool.not_true, Bool.false_eq_true, if_false, wSkip]
    exact q
/-- the text ends here, or it does not -/
theorem ends_at {ρ : Ro} {sp a : Nat} (g0 : gt ρ 0 = some (.str (tx T))) (g1 : gt ρ 1 = some (.int (a : Int))) (g4 : gt ρ 4 = some (.int (sp : Int))) (lim : T.length ≤ LIM) (q1 : sp = T.length → ∀ j : Int, κ.rt (.tup [.non, .int j]) S) (q2 : sp ≠ T.length → κ.nx ρ S) :
    wIfS (wTest (wOp fEq (wVar 4) (wB fLen (wCons (wVar 0) wNil)))) (wRet (wTup (wCons (wC .non) (wCons (wVar 1) wNil)))) wSkip κ ρ S := by
  have tlen : (tx T).length = T.length := tx_len T
  have n2 : 2 ≤ LIM := by decide
  simp only [wIfS, wTest, wOp, wB, wCons, wNil, wVar, g0, g4, onS_some, res_s, res_i, fLen, lenS, view_s, tlen, if_pos lim, fEq, fEqB, view_i]
  by_cases z : sp = T.length
  · have d : decide ((sp : Int) = (T.length : Int)) = true := decide_eq_true (by omega)
    simp only [d, if_true, wRet, wTup, wCons, wNil, wC, wVar, g1, onS_some, res_i, List.length_cons, List.length_nil, Nat.reduceAdd, n2, true_and]
    exact q1 z _
  · have d : decide ((sp : Int) = (T.length : Int)) = false := decide_eq_false (by omega)
    simp only [d, Bool.false_eq_true, if_false, wSkip]
    exact q2 z
theorem frame_body {pre nm tl r : List Nat} {c0 ee n : Nat} {isd t : Bool} (hT : T = pre ++ r) (hl : T.length ≤ 9000000) (hc : (isd = true ∧ c0 = 100 ∧ ee = 44) ∨ (isd = false ∧ c0 = 98 ∧ ee = 59)) (hn : NmOk nm) (n1 : 1 ≤ n) (n39 : n < 10 ^ 39) (hb : isd = true → n ≤ 200)
    (hr : Fp (c0 :: (nm ++ 44 :: (TL.numL n ++ ee :: tl))) r t) (ne : r ≠ []) (qf : t = false → ∀ j : Int, κ.rt (.tup [.non, .int j]) S)
    (q : ∀ r3, r = c0 :: (nm ++ 44 :: (TL.numL n ++ ee :: r3)) → Fp tl r3 t → wSeq w_frame_at_8 w_frame_at_9 κ [some (.str (tx T)), some (.int (pre.length : Int)), some (.bl isd), some (.str (tx nm)), some (.int ((pre.length + 1 + nm.length + 1 + (TL.numL n).length : Nat) : Int)), some (.str (tx (TL.numL n)))] S) :
    w_frame_at κ [some (.str (tx T)), some (.int (pre.length : Int)), none, none, none, none] S := by
  obtain ⟨r1, rfl, h1⟩ := hr.head ne
  have lim : T.length ≤ LIM := by unfold LIM; omega
  have tl1 : T.length = pre.length + (r1.length + 1) := by rw [hT, List.length_append, List.length_cons]
  have bd : Str.ofString "bd" = tx [98, 100] := by decide +kernel
  have sd : Str.ofString "d" = sg 100 := by decide +kernel
  have s44 : Str.ofString "," = tx [44] := by decide +kernel
  have s59 : Str.ofString ";" = tx [59] := by decide +kernel
  have ix : ∀ Q' : D → Sto → Prop, Q' (.str (sg c0)) S → fIx S (.str (tx T)) (.int (pre.length : Int)) Q' := fun Q' h => by
    rw [hT]
    exact ix_mid (by omega) rfl h
  unfold w_frame_at
  rw [wSeq]
  unfold w_frame_at_0
  have m : decide (c0 ∈ [98, 100]) = true := by rcases hc with ⟨_, rfl, _⟩ | ⟨_, rfl, _⟩ <;> decide
  simp only [wIfS, wTest, wOp, wVar, wC, gt, onS_some, res_s, res_i]
  refine ix _ ?_
  simp only [fInSg, bd, view_s, sgn_sg, onS_some, tx_tl, m, if_true, Bool.not_true, Bool.false_eq_true, if_false, wSkip]
  rw [wSeq]
  unfold w_frame_at_1
  have dd : decide (sg c0 = sg 100) = isd := by rcases hc with ⟨rfl, rfl, _⟩ | ⟨rfl, rfl, _⟩ <;> decide
  simp only [wAsg, wOp, wVar, wC, gt, onS_some, res_s, res_i]
  refine ix _ ?_
  simp only [fEq, fEqB, view_s, sd, dd, wName, st]
  rw [wSeq]
  unfold w_frame_at_2
  have i1 : (pre.length : Int) + 1 = ((pre ++ [c0]).length : Int) := by simp
  simp only [wAsg, wCall, wCons, wNil, wVar, wC, wOp, gt, onS_some, res_s, res_i, fAdd, view_i, List.append_nil, List.length_cons, List.length_nil, Nat.reduceAdd, true_and]
  have lP1 : (pre ++ [c0]).length = pre.length + 1 := by simp
  have go1 : ∀ (run tail z : List Nat), r1 = run ++ tail → nm = run ++ z → (tail = [] ∨ ∃ t, tail = 44 :: t) → ((t = false ∧ tail = []) ∨ ∃ r2, tail = 44 :: r2 ∧ run = nm ∧ Fp (TL.numL n ++ ee :: tl) r2 t) →
      sp_signs_at [.str (tx T), .int ((pre.length : Int) + 1), .str (Str.ofString "abcdefghijklmnopqrstuvwxyz"), .str (Str.ofString ",")] S fun d S1 => wGTup 2 (wGCons (wName 3) (wGCons (wName 4) wGNil)) d [some (.str (tx T)), some (.int (pre.length : Int)), some (.bl isd), none, none, none] S1
        (wSeq w_frame_at_3 (wSeq w_frame_at_4 (wSeq w_frame_at_5 (wSeq w_frame_at_6 (wSeq w_frame_at_7 (wSeq w_frame_at_8 w_frame_at_9))))) κ) := by
    intro run tail z er en ht hk
    have hlo : ∀ c, c ∈ run → low26 c := fun c hc => hn.lo c (by rw [en]; exact List.mem_append_left _ hc)
    have hle : run.length ≤ 8 := by have := hn.le; rw [en, List.length_append] at this; omega
    refine signs_call (P := pre ++ [c0]) (run := run) (tail := tail) (by rw [hT, er]; simp) i1 sml_codes s44 hl (fun c hc => in_sml (hlo c hc)) (by decide) ht ?_
    rw [lP1]
    simp only [wGTup, view_t, List.length_cons, List.length_nil, Nat.reduceAdd, wGCons, wGNil, wName, st, true_and]
    rw [wSeq]
    have tl2 : T.length = pre.length + 1 + run.length + tail.length := by rw [tl1, er, List.length_append]; omega
    refine skip_name (T := T) rfl rfl rfl lim hle hlo (fun z => ?_) ?_
    · rcases hk with ⟨_, rfl⟩ | ⟨_, _, e, _⟩
      · simp only [List.length_nil] at tl2; omega
      · have := hn.ne; rw [← e, z] at this; simp at this
    dsimp only
    rw [wSeq]
    unfold w_frame_at_4
    refine ends_at (T := T) rfl rfl rfl lim (fun e => ?_) fun e => ?_
    · rcases hk with ⟨ht, _⟩ | ⟨_, rfl, _⟩
      · exact qf ht
      · simp only [List.length_cons] at tl2; omega
    rcases hk with ⟨ht, rfl⟩ | ⟨r2, rfl, rfl, h2⟩
    · simp only [List.length_nil] at tl2; omega
    dsimp only
    rw [wSeq]
    unfold w_frame_at_5
    simp only [List.length_cons] at tl2
    have i2 : ((pre.length + 1 + run.length : Nat) : Int) + 1 = ((pre ++ (c0 :: (run ++ [44]))).length : Int) := by simp only [List.length_append, List.length_cons, List.length_nil]; omega
    have lP2 : (pre ++ (c0 :: (run ++ [44]))).length = pre.length + 1 + run.length + 1 := by simp only [List.length_append, List.length_cons, List.length_nil]; omega
    have se : (if isd = true then D.str (Str.ofString ",") else .str (Str.ofString ";")) = .str (tx [ee]) := by
      rcases hc with ⟨rfl, _, rfl⟩ | ⟨rfl, _, rfl⟩
      · rw [if_pos rfl, s44]
      · rw [if_neg (by decide), s59]
    have go2 : ∀ (run2 tail2 z2 : List Nat), r2 = run2 ++ tail2 → TL.numL n = run2 ++ z2 → (tail2 = [] ∨ ∃ t, tail2 = ee :: t) → ((t = false ∧ tail2 = []) ∨ ∃ r3, tail2 = ee :: r3 ∧ run2 = TL.numL n ∧ Fp tl r3 t) →
        sp_signs_at [.str (tx T), .int (((pre.length + 1 + run.length : Nat) : Int) + 1), .str (Str.ofString "0123456789"), .str (tx [ee])] S fun d S1 => wGTup 2 (wGCons (wName 5) (wGCons (wName 4) wGNil)) d [some (.str (tx T)), some (.int (pre.length : Int)), some (.bl isd), some (.str (tx run)), some (.int ((pre.length + 1 + run.length : Nat) : Int)), none] S1
          (wSeq w_frame_at_6 (wSeq w_frame_at_7 (wSeq w_frame_at_8 w_frame_at_9)) κ) := by
      intro run2 tail2 z2 er2 en2 ht2 hk2
      have hdg : ∀ c, c ∈ run2 → 48 ≤ c ∧ c ≤ 57 := fun c hc => TL.numL_digits n c (by rw [en2]; exact List.mem_append_left _ hc)
      have nee : ee ∉ (List.range 10).map (48 + ·) := by rcases hc with ⟨_, _, rfl⟩ | ⟨_, _, rfl⟩ <;> decide
      refine signs_call (P := pre ++ (c0 :: (run ++ [44]))) (run := run2) (tail := tail2) (by rw [hT, er, er2]; simp) i2 dig_codes rfl hl (fun c hc => in_dig (hdg c hc)) nee ht2 ?_
      rw [lP2]
      simp only [wGTup, view_t, List.length_cons, List.length_nil, Nat.reduceAdd, wGCons, wGNil, wName, st, true_and]
      rw [wSeq]
      have tl3 : T.length = pre.length + 1 + run.length + 1 + run2.length + tail2.length := by rw [tl2, er2, List.length_append]; omega
      refine skip_count (T := T) (n := n) rfl rfl rfl rfl lim n1 n39 hb en2 (fun z => ?_) ?_
      · rcases hk2 with ⟨_, rfl⟩ | ⟨_, _, e, _⟩
        · simp only [List.length_nil] at tl3; omega
        · exact absurd (e.symm.trans z) (TL.numL_ne n)
      dsimp only
      rw [wSeq]
      unfold w_frame_at_7
      refine ends_at (T := T) rfl rfl rfl lim (fun e => ?_) fun e => ?_
      · rcases hk2 with ⟨ht, _⟩ | ⟨_, rfl, _⟩
        · exact qf ht
        · simp only [List.length_cons] at tl3; omega
      rcases hk2 with ⟨ht, rfl⟩ | ⟨r3, rfl, rfl, h3⟩
      · simp only [List.length_nil] at tl3; omega
      dsimp only
      exact q r3 (by rw [er, er2]) h3
    simp only [wAsg, wCall, wCons, wNil, wVar, wC, wOp, gt, onS_some, res_s, res_i, fAdd, view_i, wIf, wTru, res_b, tru, view_b, List.append_nil, List.length_cons, List.length_nil, Nat.reduceAdd, true_and]
    have fin := fun (run2 tail2 z2 : List Nat) a b c d => go2 run2 tail2 z2 a b c d
    have all : sp_signs_at [.str (tx T), .int (((pre.length + 1 + run.length : Nat) : Int) + 1), .str (Str.ofString "0123456789"), .str (tx [ee])] S fun d S1 => wGTup 2 (wGCons (wName 5) (wGCons (wName 4) wGNil)) d [some (.str (tx T)), some (.int (pre.length : Int)), some (.bl isd), some (.str (tx run)), some (.int ((pre.length + 1 + run.length : Nat) : Int)), none] S1
          (wSeq w_frame_at_6 (wSeq w_frame_at_7 (wSeq w_frame_at_8 w_frame_at_9)) κ) := by
      rcases h2.seg with ⟨ht, z, em⟩ | ⟨r3, er2, hf⟩
      · exact fin r2 [] z (by simp) em (.inl rfl) (.inl ⟨ht, rfl⟩)
      · exact fin (TL.numL n) (ee :: r3) [] er2 (by simp) (.inr ⟨r3, rfl⟩) (.inr ⟨r3, rfl, rfl, hf⟩)
    cases isd with
    | true =>
      rw [if_pos rfl] at se
      simp only [if_true]
      rw [se]
      exact all
    | false =>
      rw [if_neg (by decide)] at se
      simp only [Bool.false_eq_true, if_false]
      rw [se]
      exact all
  rcases h1.seg with ⟨ht, z, em⟩ | ⟨r2, er, hf⟩
  · exact go1 r1 [] z (by simp) em (.inl rfl) (.inl ⟨ht, rfl⟩)
  · exact go1 nm (44 :: r2) [] er (by simp) (.inr ⟨r2, rfl⟩) (.inr ⟨r2, rfl, rfl, hf⟩)
theorem num_text {n : Nat} (h : n < 10 ^ 39) : PySem.intText? (tx (TL.numL n)) = some (n : Int) ∧ (tx (TL.numL n)).length ≤ 640 := by
  have l := num39 h
  have tl : (tx (TL.numL n)).length = (TL.numL n).length := tx_len _
  refine ⟨?_, by omega⟩
  have := TL.int_num (n := n) (by omega)
  rw [str_num] at this
  exact this
end
theorem law_frame_at (ds : List D) (S : Sto) (Φ : D → Sto → Prop) (h : sp_frame_at ds S Φ) : w_frame_at { nx := fun _ S' => Φ .non S', rt := Φ } (ro n_frame_at ds) S := by
  obtain ⟨pre, r, f, t, rfl, hl, ok, ne, hr, qt, qf⟩ := h
  unfold n_frame_at
  simp only [ro, List.map_cons, List.map_nil, List.length_cons, List.length_nil, List.cons_append, List.nil_append, Nat.reduceAdd, Nat.reduceSub, List.replicate_succ, List.replicate_zero]
  have n2 : 2 ≤ LIM := by decide
  have n3 : 3 ≤ LIM := by decide
  cases f with
  | back nm n =>
    obtain ⟨hn, n1, n39⟩ := ok
    obtain ⟨iv, il⟩ := num_text n39
    refine frame_body (isd := false) (tl := []) rfl (by rw [List.length_append]; exact hl) (.inr ⟨rfl, rfl, rfl⟩) hn n1 n39 (by simp) hr ne qf fun r3 er h3 => ?_
    have ht := h3.nil
    have ei : ((pre.length + 1 + nm.length + 1 + (TL.numL n).length : Nat) : Int) + 1 = ((pre.length + (Fr.back nm n).t.length : Nat) : Int) := by simp only [Fr.t, List.length_append, List.length_cons, List.length_nil]; omega
    rw [wSeq]
    unfold w_frame_at_8
    simp only [wIfS, wTru, wVar, gt, onS_some, res_b, tru, view_b, Bool.false_eq_true, if_false, wSkip]
    unfold w_frame_at_9
    simp only [wRet, wTup, wCons, wNil, wC, wVar, wB, wOp, gt, onS_some, res_s, res_i, fInt, il, iv, true_and, List.length_cons, List.length_nil, Nat.reduceAdd, n3, n2, fAdd, view_i, ei]
    exact qt ht
  | data nm l w e =>
    obtain ⟨hn, l1, l2, hc⟩ := ok
    have n39 : l.length < 10 ^ 39 := Nat.lt_of_le_of_lt l2 (by decide)
    obtain ⟨iv, il⟩ := num_text n39
    refine frame_body (isd := true) (tl := mks w e ++ 58 :: (l ++ 59 :: [])) rfl (by rw [List.length_append]; exact hl) (.inl ⟨rfl, rfl, rfl⟩) hn l1 n39 (fun _ => l2) hr ne qf fun r3 er h3 => ?_
    rw [wSeq]
    unfold w_frame_at_8
    simp only [wIfS, wTru, wVar, gt, onS_some, res_b, tru, view_b, if_true, wRet, wCall, wCons, wNil, wOp, wC, wB, res_s, res_i, fAdd, view_i, fInt, il, iv, true_and, List.append_nil, List.length_cons, List.length_nil, Nat.reduceAdd]
    have eT : pre ++ r = (pre ++ (100 :: (nm ++ 44 :: (TL.numL l.length ++ [44])))) ++ r3 := by rw [er]; simp
    have lP : (pre ++ (100 :: (nm ++ 44 :: (TL.numL l.length ++ [44])))).length = pre.length + 1 + nm.length + 1 + (TL.numL l.length).length + 1 := by simp only [List.length_append, List.length_cons, List.length_nil]; omega
    refine ⟨pre ++ (100 :: (nm ++ 44 :: (TL.numL l.length ++ [44]))), r3, nm, l, w, e, t, ?_, ?_, l1, l2, hc, h3, fun ht => ?_, qf⟩
    · rw [eT, lP]
      rfl
    · have := congrArg List.length eT
      rw [List.length_append, List.length_append] at this
      omega
    · have ei : (pre ++ (100 :: (nm ++ 44 :: (TL.numL l.length ++ [44])))).length + (mks w e).length + 1 + l.length + 1 = pre.length + (Fr.data nm l w e).t.length := by rw [lP]; simp only [Fr.t, List.length_append, List.length_cons, List.length_nil]; omega
      rw [ei]
      exact qt ht
end Sq

set_option Elab.async false
set_option maxRecDepth 100000
set_option maxHeartbeats 4000000
set_option linter.all false
/-! All frames read. -/
namespace Sq
open PySem L2
local macro_rules | `(tactic| walk_at "wk") => `(tactic| simp only [wSeq, wAsg, wVar, wC, wOp, wTest, wIfS, wRet, wRetN, wIf, wCall, wCons, wNil, wName, wGTup, wGCons, wGNil, wPar, wPar3, wTup, wLst, wLstM, wAnd, wOr, wNot, wTru, tru, wAndV, wOrV, wNotV, wSkip, wDrop, wB, wNeg, fAdd, fSub, fMod, fMulA, fDiv, fEq, fEqB, fNe, fCmp, fI, fIsN, fNotN, isNon, fLen, lenS, fIx, gt, st, res_i, res_b, res_s, res_n, res_t, res_l, res_d, res_c, res_scr, view_i, view_b, view_s, view_n, view_t, view_l, view_d, view_c, Rt.res, Rt.view, rule_res, onS_some, ro, List.map_cons, List.map_nil, List.length_cons, List.length_nil, List.cons_append, List.nil_append, List.append_nil, List.replicate_succ, List.replicate_zero, Nat.reduceAdd, Nat.reduceSub, Nat.sub_self, so_inj, so_beq, at0, at1, at2, at3, gx0, gx1, gx2, gx3, nc0, nc1, nc2, nc3, nc4, nc6, lm0, lm1, lm2, lm3, lm4, lm6, String.reduceEq, Int.reduceEq, Int.reduceLT, Int.reduceLE, decide_true, decide_false, Bool.not_true, Bool.not_false, reduceIte, true_and, and_true, Bool.false_eq_true, reduceCtorEq, List.length_map, view_hl, *])
def flat (fs : List Fr) : List Nat := (fs.map Fr.t).flatten
def sp_read_frames : FSp := fun ds S Q => ∃ (fs : List Fr) (r : List Nat) (g : Fr), ds = [.str (tx (flat fs ++ r))] ∧ (∀ f, f ∈ fs → f.ok) ∧ g.ok ∧ (r = [] ∨ Fp g.t r false) ∧ (flat fs ++ r).length ≤ 9000000 ∧ fs.length ≤ 100000 ∧
  Q (.tup [.h S.length, .str (tx r)]) (S ++ [.lst (fs.map Fr.d)])
/-- read_frames: slots 0 text 1 found 2 at 3 frame 4 behind -/
def w_read_frames_p1 : WS :=
  (wAsg (wCall 2 sp_frame_at [] (wCons (wVar 0) (wCons (wVar 2) wNil))) (wGTup 2 (wGCons (wName 3) (wGCons (wName 4) wGNil))))
def w_read_frames_p2 : WS :=
  (wIfS (wTest (wOp fIsN (wVar 3) (wC .non))) (wRet (wTup (wCons (wVar 1) (wCons (wSl (wVar 0) (wPart (wVar 2)) wNoPart) wNil)))) wSkip)
def w_read_frames_p3 : WS :=
  (wDrop (wApp (wVar 1) (wVar 3)))
def w_read_frames_p4 : WS :=
  (wAsg (wVar 4) (wName 2))
def w_read_frames_loop1 : WS :=
  (wSeq (w_read_frames_p1) (wSeq (w_read_frames_p2) (wSeq (w_read_frames_p3) (w_read_frames_p4))))
def w_read_frames_0 : WS :=
  (wIfS (wNot (wTru (wIsB "str" "Rule" (wVar 0)))) wNever wSkip)
def w_read_frames_1 : WS :=
  (wPar 1 2 (wCons (wLstM wNil) (wCons (wC (.int 0)) wNil)))
def w_read_frames_2 : WS :=
  (wWhile (wTest (wOp (fCmp fun i j => decide (i < j)) (wVar 2) (wB fLen (wCons (wVar 0) wNil)))) (w_read_frames_loop1))
def w_read_frames_3 : WS :=
  (wRet (wTup (wCons (wVar 1) (wCons (wC (.str "")) wNil))))
def w_read_frames : WS :=
  (wSeq (w_read_frames_0) (wSeq (w_read_frames_1) (wSeq (w_read_frames_2) (w_read_frames_3))))
def n_read_frames : List Str := ["text", "found", "at", "frame", "behind"]
theorem flat_app (a b : List Fr) : flat (a ++ b) = flat a ++ flat b := by unfold flat; rw [List.map_append, List.flatten_append]
theorem flat_cons (a : Fr) (b : List Fr) : flat (a :: b) = a.t ++ flat b := by unfold flat; rw [List.map_cons, List.flatten_cons]
theorem t_ne (f : Fr) : f.t ≠ [] := by cases f <;> simp [Fr.t]
theorem res_fd (S : Sto) (f : Fr) : res S f.d = f.d := by cases f <;> rfl
theorem non_fd (f : Fr) : isNon f.d = false := by cases f <;> rfl
theorem law_read_frames (ds : List D) (S : Sto) (Φ : D → Sto → Prop) (h : sp_read_frames ds S Φ) : w_read_frames { nx := fun _ S' => Φ .non S', rt := Φ } (ro n_read_frames ds) S := by
  obtain ⟨fs, r, g, rfl, okf, okg, hr, hl, hf, q⟩ := h
  have ks : kindIs "str" "str" = true := by decide
  have n2 : 2 ≤ LIM := by decide
  have n0 : 0 ≤ LIM := by decide
  generalize hT : flat fs ++ r = T at hl
  have tlen : (tx T).length = T.length := tx_len T
  have lim : T.length ≤ LIM := by unfold LIM; omega
  have e0 : Str.ofString "" = tx [] := by decide +kernel
  have hL : ∀ m : M, (S ++ [m])[S.length]? = some m := fun m => by rw [List.getElem?_append_right (Nat.le_refl _)]; simp
  have rL : ∀ L : List D, res (S ++ [.lst L]) (.h S.length) = .h S.length := fun L => res_hl (hL _)
  have sL : ∀ m m' : M, (S ++ [m]).set S.length m' = S ++ [m'] := fun m m' => by rw [List.set_append_right _ _ (Nat.le_refl _), Nat.sub_self]; rfl
  unfold w_read_frames n_read_frames
  simp only [ro, List.map_cons, List.map_nil, List.length_cons, List.length_nil, List.cons_append, List.nil_append, Nat.reduceAdd, Nat.reduceSub, List.replicate_succ, List.replicate_zero]
  rw [wSeq]
  unfold w_read_frames_0
  simp only [wIfS, wNot, wTru, wIsB, wVar, gt, onS_some, res_s, view_s, kindT, ks, tru, view_b, Bool.not_true, Bool.false_eq_true, if_false, wSkip]
  rw [wSeq]
  unfold w_read_frames_1
  simp only [wPar, wCons, wNil, wLstM, wC, List.length_nil, n0, true_and, st]
  rw [wSeq]
  unfold w_read_frames_2
  refine ⟨fun m ρ S' => ∃ (done todo : List Fr) (s3 s4 : Option D), fs = done ++ todo ∧ m = todo.length ∧ S' = S ++ [.lst (done.map Fr.d)] ∧ ρ = [some (.str (tx T)), some (.h S.length), some (.int ((flat done).length : Int)), s3, s4], ⟨fs.length, [], fs, none, none, rfl, rfl, rfl, rfl⟩, ?_⟩
  rintro m ρ S' ⟨done, todo, s3, s4, ef, rfl, rfl, rfl⟩
  have eT : T = flat done ++ (flat todo ++ r) := by rw [← hT, ef, flat_app, List.append_assoc]
  have lT : T.length = (flat done).length + ((flat todo).length + r.length) := by rw [eT, List.length_append, List.length_append]
  have body : flat todo ++ r ≠ [] → w_read_frames_loop1 { nx := fun ρ' S'' => ∃ m', m' < todo.length ∧ ∃ (done todo : List Fr) (s3 s4 : Option D), fs = done ++ todo ∧ m' = todo.length ∧ S'' = S ++ [.lst (done.map Fr.d)] ∧ ρ' = [some (.str (tx T)), some (.h S.length), some (.int ((flat done).length : Int)), s3, s4], rt := Φ, ct := fun ρ' S'' => ∃ m', m' < todo.length ∧ ∃ (done todo : List Fr) (s3 s4 : Option D), fs = done ++ todo ∧ m' = todo.length ∧ S'' = S ++ [.lst (done.map Fr.d)] ∧ ρ' = [some (.str (tx T)), some (.h S.length), some (.int ((flat done).length : Int)), s3, s4], bk := w_read_frames_3 { nx := fun _ S' => Φ .non S', rt := Φ } } [some (.str (tx T)), some (.h S.length), some (.int ((flat done).length : Int)), s3, s4] (S ++ [.lst (done.map Fr.d)]) := by
    intro hne
    unfold w_read_frames_loop1
    rw [wSeq]
    unfold w_read_frames_p1
    simp only [wAsg, wCall, wCons, wNil, wVar, gt, onS_some, res_s, res_i, List.append_nil, List.length_cons, List.length_nil, Nat.reduceAdd, true_and]
    cases todo with
    | cons f todo =>
      refine ⟨flat done, flat (f :: todo) ++ r, f, true, by rw [eT], by rw [List.length_append]; omega, okf f (by rw [ef]; simp), hne, ⟨flat todo ++ r, by rw [flat_cons, List.append_assoc]⟩, fun _ => ?_, by simp⟩
      simp only [wGTup, view_t, List.length_cons, List.length_nil, Nat.reduceAdd, wGCons, wGNil, wName, st, true_and]
      rw [wSeq]
      unfold w_read_frames_p2
      simp only [wIfS, wTest, wOp, wVar, wC, gt, onS_some, res_fd, fIsN, non_fd, Bool.false_eq_true, if_false, wSkip]
      rw [wSeq]
      unfold w_read_frames_p3
      simp only [wDrop, wApp, wVar, gt, onS_some, rL, hL, res_fd, sL, true_and]
      refine ⟨?_, ?_⟩
      · rw [List.length_map]
        have := congrArg List.length ef
        rw [List.length_append, List.length_cons] at this
        unfold LIM; omega
      unfold w_read_frames_p4
      simp only [wAsg, wVar, gt, onS_some, res_i, wName, st]
      have e1 : ((flat done).length + f.t.length : Nat) = (flat (done ++ [f])).length := by rw [flat_app, List.length_append]; simp [flat]
      refine ⟨todo.length, by simp, done ++ [f], todo, _, _, by rw [ef]; simp, rfl, ?_, by rw [e1]⟩
      rw [List.map_append]; rfl
    | nil =>
      have en : flat [] ++ r = r := rfl
      rw [en] at hne
      have hp : Fp g.t r false := hr.elim (fun h => absurd h hne) id
      refine ⟨flat done, r, g, false, by rw [eT, en], by omega, okg, hne, hp, by simp, fun _ j => ?_⟩
      simp only [wGTup, view_t, List.length_cons, List.length_nil, Nat.reduceAdd, wGCons, wGNil, wName, st, true_and]
      rw [wSeq]
      unfold w_read_frames_p2
      have ec : cutS (tx T) (some ((flat done).length : Int)) none = tx r := by rw [eT, en]; exact cut_rest rfl
      have ed : done = fs := by rw [ef]; simp
      simp only [wIfS, wTest, wOp, wVar, wC, gt, onS_some, res_n, fIsN, isNon, if_true, wRet, wTup, wCons, wNil, wSl, wPart, wNoPart, rL, res_s, res_i, fSl, view_s, tlen, ec, List.length_cons, List.length_nil, Nat.reduceAdd, n2, true_and]
      rw [ed]
      exact ⟨lim, q⟩
  simp only [wTest, wOp, wVar, wB, wCons, wNil, gt, onS_some, res_s, res_i, fLen, lenS, view_s, tlen, if_pos lim, fCmp, fI, view_i, true_and]
  by_cases z : flat todo ++ r = []
  · have zl : (flat todo).length + r.length = 0 := by rw [← List.length_append, z]; rfl
    have d : decide (((flat done).length : Int) < (T.length : Int)) = false := decide_eq_false (by omega)
    simp only [d, Bool.false_eq_true, if_false]
    have hr0 : r = [] := List.eq_nil_of_length_eq_zero (by omega)
    have ht : todo = [] := by
      cases todo with
      | nil => rfl
      | cons f todo =>
        have := List.length_pos_iff.mpr (t_ne f)
        rw [flat_cons, List.length_append] at zl
        omega
    have ed : done = fs := by rw [ef, ht]; simp
    unfold w_read_frames_3
    simp only [wRet, wTup, wCons, wNil, wC, wVar, gt, onS_some, rL, List.length_cons, List.length_nil, Nat.reduceAdd, n2, true_and]
    rw [ed, e0, ← hr0]
    exact q
  · have zl : 0 < (flat todo).length + r.length := by rw [← List.length_append]; exact List.length_pos_iff.mpr z
    have d : decide (((flat done).length : Int) < (T.length : Int)) = true := decide_eq_true (by omega)
    simp only [d, if_true]
    exact body z
end Sq

set_option Elab.async false
set_option maxRecDepth 100000
set_option maxHeartbeats 4000000
set_option linter.all false
/-! Frames drawn. -/
namespace Sq
open PySem L2
local macro_rules | `(tactic| walk_at "wk") => `(tactic| simp only [wSeq, wAsg, wVar, wC, wOp, wTest, wIfS, wRet, wRetN, wIf, wCall, wCons, wNil, wName, wGTup, wGCons, wGNil, wPar, wPar3, wTup, wLst, wLstM, wAnd, wOr, wNot, wTru, tru, wAndV, wOrV, wNotV, wSkip, wDrop, wB, wNeg, fAdd, fSub, fMod, fMulA, fDiv, fEq, fEqB, fNe, fCmp, fI, fIsN, fNotN, isNon, fLen, lenS, fIx, gt, st, res_i, res_b, res_s, res_n, res_t, res_l, res_d, res_c, res_scr, view_i, view_b, view_s, view_n, view_t, view_l, view_d, view_c, Rt.res, Rt.view, rule_res, onS_some, ro, List.map_cons, List.map_nil, List.length_cons, List.length_nil, List.cons_append, List.nil_append, List.append_nil, List.replicate_succ, List.replicate_zero, Nat.reduceAdd, Nat.reduceSub, Nat.sub_self, so_inj, so_beq, at0, at1, at2, at3, gx0, gx1, gx2, gx3, nc0, nc1, nc2, nc3, nc4, nc6, lm0, lm1, lm2, lm3, lm4, lm6, String.reduceEq, Int.reduceEq, Int.reduceLT, Int.reduceLE, decide_true, decide_false, Bool.not_true, Bool.not_false, reduceIte, true_and, and_true, Bool.false_eq_true, reduceCtorEq, List.length_map, view_hl, *])
def sp_q_draw_letters : FSp := fun ds S Q => ∃ (k m : Nat), ds = [.h k, .int (m : Int)] ∧ S[k]? = some .bag ∧ m ≤ 1000 ∧ ∀ l : List Nat, l.length = m → (∀ c, c ∈ l → let95 c) → Q (.str (tx l)) S
def sp_q_draw_word : FSp := fun ds S Q => ∃ k : Nat, ds = [.h k] ∧ S[k]? = some .bag ∧ ∀ l : List Nat, NmOk l → Q (.str (tx l)) S
def sp_q_draw_number : FSp := fun ds S Q => ∃ k : Nat, ds = [.h k] ∧ S[k]? = some .bag ∧ ∀ n : Nat, 1 ≤ n → n < 10 ^ 39 → Q (.int (n : Int)) S
def sp_q_draw_frame : FSp := fun ds S Q => ∃ k : Nat, ds = [.h k] ∧ S[k]? = some .bag ∧ ∀ f : Fr, f.ok → Q f.d S
def let95B (c : Nat) : Bool := decide (32 ≤ c) && decide (c ≤ 126) && decide (c ≠ 37)
theorem let95_of {c : Nat} (h : let95B c = true) : let95 c := by
  unfold let95B at h
  simp only [Bool.and_eq_true, decide_eq_true_eq] at h
  exact ⟨h.1.1, h.1.2, h.2⟩
/-- _law_draw_letters: slots 0 _law_bag_here 1 _law_many 2 _law_signs 3 _law_k -/
def w_q_draw_letters : WS :=
  (wSeq (wAsg (wC (.str "abd;:,we0129 ~Z")) (wName 2)) (wSeq (wIfS (wTest (wOp fEq (wCall 2 sp_q_take [] (wCons (wVar 0) (wCons (wC (.int 2)) wNil))) (wC (.int 0)))) (wSeq (wAsg (wC (.str " !\"#$&'()*+,-./0123456789:;<=>?\x40[\\]^_`{|}~ABCDEFGHIJKLMNOPQRSTUVWXYZ")) (wName 2)) (wAsg (wOp fAdd (wVar 2) (wC (.str "abcdefghijklmnopqrstuvwxyz"))) (wName 2))) wSkip) (wRet (wJoin (wC (.str "")) (wLc (wRng1 (wCons (wVar 1) wNil)) (wName 3) wYes (wOp fIx (wVar 2) (wCall 2 sp_q_take [] (wCons (wVar 0) (wCons (wB fLen (wCons (wVar 2) wNil)) wNil)))) [3])))))
def n_q_draw_letters : List Str := ["_law_bag_here", "_law_many", "_law_signs", "_law_k"]
/-- _law_draw_word: slots 0 _law_bag_here 1 _law_signs 2 _law_word 3 _law_k -/
def w_q_draw_word : WS :=
  (wSeq (wAsg (wC (.str "abcdefghijklmnopqrstuvwxyz")) (wName 1)) (wSeq (wAsg (wJoin (wC (.str "")) (wLc (wRng1 (wCons (wOp fAdd (wC (.int 1)) (wCall 2 sp_q_take [] (wCons (wVar 0) (wCons (wC (.int 8)) wNil)))) wNil)) (wName 3) wYes (wOp fIx (wVar 1) (wCall 2 sp_q_take [] (wCons (wVar 0) (wCons (wC (.int 26)) wNil)))) [3])) (wName 2)) (wRet (wOp fIx (wLst (wCons (wVar 2) (wCons (wVar 2) (wCons (wC (.str "pipe")) (wCons (wC (.str "we")) wNil))))) (wCall 2 sp_q_take [] (wCons (wVar 0) (wCons (wC (.int 4)) wNil)))))))
def n_q_draw_word : List Str := ["_law_bag_here", "_law_signs", "_law_word", "_law_k"]
/-- _law_draw_number: slots 0 _law_bag_here 1 _law_power -/
def w_q_draw_number : WS :=
  (wSeq (wAsg (wB fInt (wCons (wOp fAdd (wC (.str "1")) (wOp fMulA (wC (.str "0")) (wCall 2 sp_q_take [] (wCons (wVar 0) (wCons (wC (.int 39)) wNil))))) wNil)) (wName 1)) (wRet (wOp fIx (wLst (wCons (wOp fAdd (wC (.int 1)) (wCall 2 sp_q_take [] (wCons (wVar 0) (wCons (wC (.int 12)) wNil)))) (wCons (wVar 1) (wCons (wOp fSub (wOp fMulA (wVar 1) (wC (.int 10))) (wC (.int 1))) wNil)))) (wCall 2 sp_q_take [] (wCons (wVar 0) (wCons (wC (.int 3)) wNil))))))
def n_q_draw_number : List Str := ["_law_bag_here", "_law_power"]
/-- _law_draw_frame: slots 0 _law_bag_here 1 _law_many -/
def w_q_draw_frame_0 : WS :=
  (wIfS (wTest (wOp fEq (wCall 2 sp_q_take [] (wCons (wVar 0) (wCons (wC (.int 3)) wNil))) (wC (.int 0)))) (wRet (wTup (wCons (wC (.str "back")) (wCons (wCall 1 sp_q_draw_word [] (wCons (wVar 0) wNil)) (wCons (wCall 1 sp_q_draw_number [] (wCons (wVar 0) wNil)) wNil))))) wSkip)
def w_q_draw_frame_1 : WS :=
  (wAsg (wOp fIx (wLst (wCons (wC (.int 1)) (wCons (wOp fAdd (wC (.int 1)) (wCall 2 sp_q_take [] (wCons (wVar 0) (wCons (wC (.int 9)) wNil)))) (wCons (wOp fAdd (wC (.int 1)) (wCall 2 sp_q_take [] (wCons (wVar 0) (wCons (wC (.int 200)) wNil)))) (wCons (wC (.int 200)) wNil))))) (wCall 2 sp_q_take [] (wCons (wVar 0) (wCons (wC (.int 4)) wNil)))) (wName 1))
def w_q_draw_frame_2 : WS :=
  (wRet (wTup (wCons (wC (.str "data")) (wCons (wCall 1 sp_q_draw_word [] (wCons (wVar 0) wNil)) (wCons (wCall 2 sp_q_draw_letters [] (wCons (wVar 0) (wCons (wVar 1) wNil))) (wCons (wOp fEq (wCall 2 sp_q_take [] (wCons (wVar 0) (wCons (wC (.int 2)) wNil))) (wC (.int 0))) (wCons (wOp fEq (wCall 2 sp_q_take [] (wCons (wVar 0) (wCons (wC (.int 2)) wNil))) (wC (.int 0))) wNil)))))))
def w_q_draw_frame : WS :=
  (wSeq (w_q_draw_frame_0) (wSeq (w_q_draw_frame_1) (w_q_draw_frame_2)))
def n_q_draw_frame : List Str := ["_law_bag_here", "_law_many"]
theorem pick_sg {S : Sto} {k : Nat} {ρ : Ro} {l : List Nat} {i j : Nat} {wn : WE} {Q : D → Sto → Prop} (hb : S[k]? = some .bag) (gi : gt ρ i = some (.str (tx l))) (gj : gt ρ j = some (.h k)) (l1 : 1 ≤ l.length) (l2 : l.length ≤ 1000) (hn : ∀ Q' : D → Sto → Prop, Q' (.int (l.length : Int)) S → wn ρ S Q')
    (q : ∀ c, c ∈ l → Q (.str (sg c)) S) : (wOp fIx (wVar i) (wCall 2 sp_q_take [] (wCons (wVar j) (wCons wn wNil)))) ρ S Q := by
  have r0 := res_hb hb
  simp only [wOp, wVar, wCall, wCons, wNil, gi, gj, onS_some, res_s, r0]
  refine hn _ ?_
  simp only [List.append_nil, List.length_cons, List.length_nil, Nat.reduceAdd, true_and]
  refine ⟨k, (l.length : Int), rfl, hb, by omega, by omega, fun v v0 v1 => ?_⟩
  obtain ⟨x, rfl⟩ := Int.eq_ofNat_of_zero_le v0
  exact ix_tx (by unfold LIM; omega) (by omega) (q _ (List.getElem_mem _))
theorem join_comp {S : Sto} {ρ : Ro} {i : Nat} {we : WE} {n : Nat} {P : Nat → Prop} {Q : D → Sto → Prop} (hn : n ≤ 1000) (he : ∀ (d : D) (Q' : D → Sto → Prop), (∀ c, P c → Q' (.str (sg c)) S) → we (st ρ i (some d)) S Q')
    (q : ∀ l : List Nat, l.length = n → (∀ c, c ∈ l → P c) → Q (.str (tx l)) S) :
    compD (wName i) wYes we ρ (fun acc S2 => match view S2 (D.lst acc) with
      | .lst ds => onS (strsD ds) fun ys => (ys.map (·.length)).sum + ys.length * (Str.ofString "").length ≤ 10000000 ∧ Q (.str (PySem.Txt.join (Str.ofString "") ys)) S2
      | _ => False) (rngD 0 n) [] S := by
  refine comp_all (fun _ c => P c) (fun c => D.str (sg c)) (by rw [rngD_length]; simp only [List.length_nil]; unfold LIM; omega) (fun d _ Q' hq => he d Q' hq) fun ys hys => ?_
  have ly : ys.length = n := by rw [← hys.len, rngD_length]
  have oky : ∀ c, c ∈ ys → P c := fun c hc => hys.right (fun _ _ _ h => h) c hc
  have ey : ([] : List D) ++ ys.map (fun c => D.str (sg c)) = (ys.map sg).map D.str := by rw [List.nil_append, List.map_map]; rfl
  rw [ey]
  simp only [view_l, strsD_map, onS_some]
  refine ⟨by rw [sum_sg]; omega, ?_⟩
  rw [join_sg]
  exact q ys ly oky
theorem law_q_draw_letters (ds : List D) (S : Sto) (Φ : D → Sto → Prop) (h : sp_q_draw_letters ds S Φ) : w_q_draw_letters { nx := fun _ S' => Φ .non S', rt := Φ } (ro n_q_draw_letters ds) S := by
  obtain ⟨k, m, rfl, hb, hm, q⟩ := h
  have r0 := res_hb hb
  unfold w_q_draw_letters n_q_draw_letters
  simp only [ro, List.map_cons, List.map_nil, List.length_cons, List.length_nil, List.cons_append, List.nil_append, Nat.reduceAdd, Nat.reduceSub, List.replicate_succ, List.replicate_zero]
  have tail : ∀ l : List Nat, 1 ≤ l.length → l.length ≤ 200 → (∀ c, c ∈ l → let95 c) →
      (wRet (wJoin (wC (.str "")) (wLc (wRng1 (wCons (wVar 1) wNil)) (wName 3) wYes (wOp fIx (wVar 2) (wCall 2 sp_q_take [] (wCons (wVar 0) (wCons (wB fLen (wCons (wVar 2) wNil)) wNil)))) [3]))) { nx := fun _ S' => Φ .non S', rt := Φ } [some (.h k), some (.int (m : Int)), some (.str (tx l)), none] S := by
    intro l l1 l2 hc
    simp only [wRet, wJoin, wC, wLc, wRng1, wCons, wNil, wVar, gt, onS_some, res_i]
    refine ⟨by unfold BIG; omega, by unfold BIG; omega, ?_⟩
    have em : Int.toNat (m : Int) = m := rfl
    rw [em]
    refine join_comp (P := let95) hm (fun d Q' hq => ?_) fun l hl hc => q l hl hc
    refine pick_sg (l := l) hb rfl rfl l1 (by omega) (fun Q' h => ?_) fun c h => hq c (hc c h)
    have tlen : (tx l).length = l.length := tx_len l
    have lim : l.length ≤ LIM := by unfold LIM; omega
    simp only [wB, wCons, wNil, wVar, wp, st, gt, onS_some, res_s, fLen, lenS, view_s, tlen, if_pos lim]
    exact h
  rw [wSeq]
  simp only [wAsg, wC, wName, st]
  rw [wSeq]
  simp only [wIfS, wTest, wOp, wCall, wCons, wNil, wVar, wC, gt, onS_some, r0, List.append_nil, List.length_cons, List.length_nil, Nat.reduceAdd, true_and]
  refine ⟨k, 2, rfl, hb, by decide, by decide, fun v v0 v1 => ?_⟩
  simp only [fEq, fEqB, view_i]
  have one : ((Str.ofString "abd;:,we0129 ~Z").cps.toList.all let95B) = true ∧ (Str.ofString "abd;:,we0129 ~Z").cps.toList.length = 15 := by decide +kernel
  have two : ((Str.ofString " !\"#$&'()*+,-./0123456789:;<=>?\x40[\\]^_`{|}~ABCDEFGHIJKLMNOPQRSTUVWXYZ").cps.toList.all let95B) = true ∧ (Str.ofString " !\"#$&'()*+,-./0123456789:;<=>?\x40[\\]^_`{|}~ABCDEFGHIJKLMNOPQRSTUVWXYZ").cps.toList.length = 68 := by decide +kernel
  by_cases z : v = 0
  · have e : decide (v = 0) = true := by simp [z]
    simp only [e, if_true]
    rw [wSeq]
    rw [of_tx (Str.ofString " !\"#$&'()*+,-./0123456789:;<=>?\x40[\\]^_`{|}~ABCDEFGHIJKLMNOPQRSTUVWXYZ"), sml_codes]
    generalize (Str.ofString " !\"#$&'()*+,-./0123456789:;<=>?\x40[\\]^_`{|}~ABCDEFGHIJKLMNOPQRSTUVWXYZ").cps.toList = b1 at two ⊢
    simp only [wAsg, wC, wName, st, wOp, wVar, gt, onS_some, res_s]
    refine fAdd_tx (by rw [two.2]; simp; decide) ?_
    refine tail _ (by simp [two.2]) (by simp [two.2]) fun c hc => ?_
    rcases List.mem_append.mp hc with hc | hc
    · exact let95_of (List.all_eq_true.mp two.1 c hc)
    · obtain ⟨x, hx, rfl⟩ := List.mem_map.mp hc
      have := List.mem_range.mp hx
      unfold let95; omega
  · have e : decide (v = 0) = false := by simp [z]
    simp only [e, Bool.false_eq_true, if_false, wSkip]
    rw [of_tx (Str.ofString "abd;:,we0129 ~Z")]
    exact tail _ (by rw [one.2]; decide) (by rw [one.2]; decide) fun c hc => let95_of (List.all_eq_true.mp one.1 c hc)
theorem nm_pipe : NmOk [112, 105, 112, 101] ∧ NmOk [119, 101] := by
  refine ⟨⟨by decide, by decide, fun c hc => ?_⟩, ⟨by decide, by decide, fun c hc => ?_⟩⟩
  · simp at hc; unfold low26; omega
  · simp at hc; unfold low26; omega
theorem law_q_draw_word (ds : List D) (S : Sto) (Φ : D → Sto → Prop) (h : sp_q_draw_word ds S Φ) : w_q_draw_word { nx := fun _ S' => Φ .non S', rt := Φ } (ro n_q_draw_word ds) S := by
  obtain ⟨k, rfl, hb, q⟩ := h
  have r0 := res_hb hb
  have n4 : 4 ≤ LIM := by decide
  unfold w_q_draw_word n_q_draw_word
  simp only [ro, List.map_cons, List.map_nil, List.length_cons, List.length_nil, List.cons_append, List.nil_append, Nat.reduceAdd, Nat.reduceSub, List.replicate_succ, List.replicate_zero]
  rw [wSeq]
  rw [sml_codes]
  simp only [wAsg, wC, wName, st]
  rw [wSeq]
  simp only [wAsg, wJoin, wC, wLc, wRng1, wCons, wNil, wOp, wCall, wVar, gt, onS_some, r0, List.append_nil, List.length_cons, List.length_nil, Nat.reduceAdd, true_and]
  refine ⟨k, 8, rfl, hb, by decide, by decide, fun v v0 v1 => ?_⟩
  obtain ⟨j, rfl⟩ := Int.eq_ofNat_of_zero_le v0
  have ej : (1 : Int) + (j : Int) = ((1 + j : Nat) : Int) := by omega
  simp only [fAdd, view_i, ej]
  refine ⟨by unfold BIG; omega, by unfold BIG; omega, ?_⟩
  have em : Int.toNat ((1 + j : Nat) : Int) = 1 + j := rfl
  rw [em]
  refine join_comp (n := 1 + j) (P := low26) (Q := fun d S1 => wName 2 d [some (.h k), some (.str (tx ((List.range 26).map (97 + ·)))), none, none] S1 (wRet (wOp fIx (wLst (wCons (wVar 2) (wCons (wVar 2) (wCons (wC (.str "pipe")) (wCons (wC (.str "we")) wNil))))) (wCall 2 sp_q_take [] (wCons (wVar 0) (wCons (wC (.int 4)) wNil)))) { nx := fun _ S' => Φ .non S', rt := Φ })) (by omega) (fun d Q' hq => ?_) fun l hl hc => ?_
  · have lr : ((List.range 26).map (97 + ·)).length = 26 := by decide
    refine pick_sg (l := (List.range 26).map (97 + ·)) (i := 1) (j := 0) (wn := wC (.int 26)) hb rfl rfl (by decide) (by decide) (fun Q' h => by rw [lr] at h; exact h) fun c h => hq c ?_
    obtain ⟨x, hx, rfl⟩ := List.mem_map.mp h
    have := List.mem_range.mp hx
    unfold low26; omega
  · have okl : NmOk l := ⟨by omega, by omega, hc⟩
    have ep : Str.ofString "pipe" = tx [112, 105, 112, 101] := by decide +kernel
    simp only [wName, st, wRet, wOp, wLst, wCons, wNil, wVar, wC, gt, onS_some, res_s, List.length_cons, List.length_nil, Nat.reduceAdd, n4, true_and, wCall, r0, List.append_nil, ep, we_codes]
    refine ⟨k, 4, rfl, hb, by decide, by decide, fun u u0 u1 => ?_⟩
    have hu : u = 0 ∨ u = 1 ∨ u = 2 ∨ u = 3 := by omega
    have a0 : atI [D.str (tx l), .str (tx l), .str (tx [112, 105, 112, 101]), .str (tx [119, 101])] 0 = some (.str (tx l)) := rfl
    have a1 : atI [D.str (tx l), .str (tx l), .str (tx [112, 105, 112, 101]), .str (tx [119, 101])] 1 = some (.str (tx l)) := rfl
    have a2 : atI [D.str (tx l), .str (tx l), .str (tx [112, 105, 112, 101]), .str (tx [119, 101])] 2 = some (.str (tx [112, 105, 112, 101])) := rfl
    have a3 : atI [D.str (tx l), .str (tx l), .str (tx [112, 105, 112, 101]), .str (tx [119, 101])] 3 = some (.str (tx [119, 101])) := rfl
    rcases hu with rfl | rfl | rfl | rfl
    · simp only [fIx, view_l, a0, onS_some]; exact q _ okl
    · simp only [fIx, view_l, a1, onS_some]; exact q _ okl
    · simp only [fIx, view_l, a2, onS_some]; exact q _ nm_pipe.1
    · simp only [fIx, view_l, a3, onS_some]; exact q _ nm_pipe.2
theorem scale39 : ∀ u : Fin 39, PySem.MulOk (Str.ofString "0") (u.val : Int) ∧ (Str.ofString "1" ++ PySem.Txt.mul (Str.ofString "0") (u.val : Int)).length ≤ 640 ∧ PySem.intText? (Str.ofString "1" ++ PySem.Txt.mul (Str.ofString "0") (u.val : Int)) = some ((10 ^ u.val : Nat) : Int) := by
  unfold PySem.MulOk
  decide +kernel
theorem law_q_draw_number (ds : List D) (S : Sto) (Φ : D → Sto → Prop) (h : sp_q_draw_number ds S Φ) : w_q_draw_number { nx := fun _ S' => Φ .non S', rt := Φ } (ro n_q_draw_number ds) S := by
  obtain ⟨k, rfl, hb, q⟩ := h
  have r0 := res_hb hb
  have n3 : 3 ≤ LIM := by decide
  unfold w_q_draw_number n_q_draw_number
  simp only [ro, List.map_cons, List.map_nil, List.length_cons, List.length_nil, List.cons_append, List.nil_append, Nat.reduceAdd, Nat.reduceSub, List.replicate_succ, List.replicate_zero]
  rw [wSeq]
  simp only [wAsg, wB, wCons, wNil, wOp, wC, wCall, wVar, gt, onS_some, r0, List.append_nil, List.length_cons, List.length_nil, Nat.reduceAdd, true_and]
  refine ⟨k, 39, rfl, hb, by decide, by decide, fun u u0 u1 => ?_⟩
  obtain ⟨j, rfl⟩ := Int.eq_ofNat_of_zero_le u0
  obtain ⟨t1, t2, t3⟩ := scale39 ⟨j, by omega⟩
  unfold fMulA
  refine ⟨t1, ?_⟩
  unfold fAdd
  refine ⟨?_, ?_⟩
  · rw [PySem.strLen_append] at t2
    exact Nat.le_trans t2 (by decide)
  unfold fInt
  refine ⟨t2, ?_⟩
  rw [t3]
  have s1 : 1 ≤ 10 ^ j := Nat.pow_pos (by decide)
  have s2 : 10 ^ j ≤ 10 ^ 38 := Nat.pow_le_pow_right (by decide) (by omega)
  simp only [onS_some, wName, st]
  generalize 10 ^ j = p at s1 s2 ⊢
  simp only [wRet, wOp, wLst, wCons, wNil, wC, wCall, wVar, gt, onS_some, r0, res_i, List.append_nil, List.length_cons, List.length_nil, Nat.reduceAdd, true_and]
  refine ⟨k, 12, rfl, hb, by decide, by decide, fun v v0 v1 => ?_⟩
  simp only [fAdd, view_i, fSub, fI, true_and]
  refine ⟨(wide_mul (sm (by omega) (by omega)) (sm (by omega) (by omega)) (by decide) (by decide) (by decide)).ok, n3, ?_⟩
  simp only [r0]
  refine ⟨k, 3, rfl, hb, by decide, by decide, fun w w0 w1 => ?_⟩
  obtain ⟨x, rfl⟩ := Int.eq_ofNat_of_zero_le v0
  have ea : (1 : Int) + (x : Int) = ((1 + x : Nat) : Int) := by omega
  have eb : (p : Int) * 10 - 1 = ((p * 10 - 1 : Nat) : Int) := by omega
  have a0 : atI [D.int (1 + (x : Int)), .int (p : Int), .int ((p : Int) * 10 - 1)] 0 = some (.int (1 + (x : Int))) := rfl
  have a1 : atI [D.int (1 + (x : Int)), .int (p : Int), .int ((p : Int) * 10 - 1)] 1 = some (.int (p : Int)) := rfl
  have a2 : atI [D.int (1 + (x : Int)), .int (p : Int), .int ((p : Int) * 10 - 1)] 2 = some (.int ((p : Int) * 10 - 1)) := rfl
  have hw : w = 0 ∨ w = 1 ∨ w = 2 := by omega
  rcases hw with rfl | rfl | rfl
  · simp only [fIx, view_l, a0, onS_some, ea]; exact q _ (by omega) (by omega)
  · simp only [fIx, view_l, a1, onS_some]; exact q _ s1 (by omega)
  · simp only [fIx, view_l, a2, onS_some, eb]; exact q _ (by omega) (by omega)
theorem law_q_draw_frame (ds : List D) (S : Sto) (Φ : D → Sto → Prop) (h : sp_q_draw_frame ds S Φ) : w_q_draw_frame { nx := fun _ S' => Φ .non S', rt := Φ } (ro n_q_draw_frame ds) S := by
  obtain ⟨k, rfl, hb, q⟩ := h
  have r0 := res_hb hb
  have n3 : 3 ≤ LIM := by decide
  have n4 : 4 ≤ LIM := by decide
  have n5 : 5 ≤ LIM := by decide
  unfold w_q_draw_frame n_q_draw_frame
  simp only [ro, List.map_cons, List.map_nil, List.length_cons, List.length_nil, List.cons_append, List.nil_append, Nat.reduceAdd, Nat.reduceSub, List.replicate_succ, List.replicate_zero]
  rw [wSeq]
  unfold w_q_draw_frame_0
  simp only [wIfS, wTest, wOp, wCall, wCons, wNil, wVar, wC, gt, onS_some, r0, List.append_nil, List.length_cons, List.length_nil, Nat.reduceAdd, true_and]
  refine ⟨k, 3, rfl, hb, by decide, by decide, fun v v0 v1 => ?_⟩
  simp only [fEq, fEqB, view_i]
  by_cases z : v = 0
  · have e : decide (v = 0) = true := by simp [z]
    simp only [e, if_true, wRet, wTup, wCons, wNil, wC, wCall, wVar, gt, onS_some, r0, List.append_nil, List.length_cons, List.length_nil, Nat.reduceAdd, true_and]
    refine ⟨k, rfl, hb, fun nm hn => ?_⟩
    simp only [r0]
    exact ⟨k, rfl, hb, fun n n1 n2 => ⟨n3, q (.back nm n) ⟨hn, n1, n2⟩⟩⟩
  have e : decide (v = 0) = false := by simp [z]
  simp only [e, Bool.false_eq_true, if_false, wSkip]
  rw [wSeq]
  unfold w_q_draw_frame_1
  simp only [wAsg, wOp, wLst, wCons, wNil, wC, wCall, wVar, gt, onS_some, r0, List.append_nil, List.length_cons, List.length_nil, Nat.reduceAdd, true_and]
  refine ⟨k, 9, rfl, hb, by decide, by decide, fun a a0 a1 => ?_⟩
  simp only [fAdd, view_i, r0]
  refine ⟨k, 200, rfl, hb, by decide, by decide, fun b b0 b1 => ?_⟩
  simp only [r0, n4, true_and]
  refine ⟨k, 4, rfl, hb, by decide, by decide, fun w w0 w1 => ?_⟩
  have fin : ∀ m : Int, 1 ≤ m → m ≤ 200 → w_q_draw_frame_2 { nx := fun _ S' => Φ .non S', rt := Φ } [some (.h k), some (.int m)] S := by
    intro m m1 m2
    obtain ⟨j, rfl⟩ := Int.eq_ofNat_of_zero_le (show 0 ≤ m by omega)
    unfold w_q_draw_frame_2
    simp only [wRet, wTup, wCons, wNil, wC, wOp, wCall, wVar, gt, onS_some, r0, res_i, List.append_nil, List.length_cons, List.length_nil, Nat.reduceAdd, true_and]
    refine ⟨k, rfl, hb, fun nm hn => ?_⟩
    simp only [r0]
    refine ⟨k, j, rfl, hb, by omega, fun l hl hc => ?_⟩
    simp only [r0]
    refine ⟨k, 2, rfl, hb, by decide, by decide, fun x x0 x1 => ?_⟩
    simp only [fEq, fEqB, view_i, r0]
    refine ⟨k, 2, rfl, hb, by decide, by decide, fun y y0 y1 => ?_⟩
    simp only [fEqB, view_i, n5, true_and]
    exact q (.data nm l (decide (x = 0)) (decide (y = 0))) ⟨hn, by omega, by omega, hc⟩
  have h0 : atI [D.int 1, .int (1 + a), .int (1 + b), .int 200] 0 = some (.int 1) := rfl
  have h1 : atI [D.int 1, .int (1 + a), .int (1 + b), .int 200] 1 = some (.int (1 + a)) := rfl
  have h2 : atI [D.int 1, .int (1 + a), .int (1 + b), .int 200] 2 = some (.int (1 + b)) := rfl
  have h3 : atI [D.int 1, .int (1 + a), .int (1 + b), .int 200] 3 = some (.int 200) := rfl
  have hw : w = 0 ∨ w = 1 ∨ w = 2 ∨ w = 3 := by omega
  rcases hw with rfl | rfl | rfl | rfl
  · simp only [fIx, view_l, h0, onS_some, wName, st]; exact fin _ (by omega) (by omega)
  · simp only [fIx, view_l, h1, onS_some, wName, st]; exact fin _ (by omega) (by omega)
  · simp only [fIx, view_l, h2, onS_some, wName, st]; exact fin _ (by omega) (by omega)
  · simp only [fIx, view_l, h3, onS_some, wName, st]; exact fin _ (by omega) (by omega)
end Sq

set_option Elab.async false
set_option maxRecDepth 100000
set_option maxHeartbeats 4000000
set_option linter.all false
/-! The law: frames shown and read. -/
namespace Sq
open PySem L2
local macro_rules | `(tactic| walk_at "wk") => `(tactic| simp only [wSeq, wAsg, wVar, wC, wOp, wTest, wIfS, wRet, wRetN, wIf, wCall, wCons, wNil, wName, wGTup, wGCons, wGNil, wPar, wPar3, wTup, wLst, wLstM, wAnd, wOr, wNot, wTru, tru, wAndV, wOrV, wNotV, wSkip, wDrop, wB, wNeg, fAdd, fSub, fMod, fMulA, fDiv, fEq, fEqB, fNe, fCmp, fI, fIsN, fNotN, isNon, fLen, lenS, fIx, gt, st, res_i, res_b, res_s, res_n, res_t, res_l, res_d, res_c, res_scr, view_i, view_b, view_s, view_n, view_t, view_l, view_d, view_c, Rt.res, Rt.view, rule_res, onS_some, ro, List.map_cons, List.map_nil, List.length_cons, List.length_nil, List.cons_append, List.nil_append, List.append_nil, List.replicate_succ, List.replicate_zero, Nat.reduceAdd, Nat.reduceSub, Nat.sub_self, so_inj, so_beq, at0, at1, at2, at3, gx0, gx1, gx2, gx3, nc0, nc1, nc2, nc3, nc4, nc6, lm0, lm1, lm2, lm3, lm4, lm6, String.reduceEq, Int.reduceEq, Int.reduceLT, Int.reduceLE, decide_true, decide_false, Bool.not_true, Bool.not_false, reduceIte, true_and, and_true, Bool.false_eq_true, reduceCtorEq, List.length_map, view_hl, *])
/-- _law_alike: slots 0 _law_found 1 _law_due -/
def w_q_alikeH : WS :=
  (wRet (wAndV (wOp fEqH (wVar 0) (wVar 1)) (wOp fEq (wB fReprH (wCons (wVar 0) wNil)) (wB fReprH (wCons (wVar 1) wNil)))))
def n_q_alikeH : List Str := ["_law_found", "_law_due"]
/-- law: slots 0 _law_script 1 _law_bag_here 2 _law_turn 3 _law_frames 4 _law_k 5 _law_texts 6 _law_further 7 _law_frame 8 _law_rest 9 _law_again 10 _law_told -/
def w_law_elt2 : WE :=
  (wCall 1 sp_q_draw_frame [] (wCons (wVar 1) wNil))
def w_law_elt3 : WE :=
  (wCall 1 sp_show_frame [] (wCons (wVar 7) wNil))
def w_law_elt4 : WE :=
  (wCall 1 sp_show_frame [] (wCons (wVar 7) wNil))
def w_law_p1 : WS :=
  (wAsg (wCall 1 sp_read_frames [] (wCons (wOp fAdd (wJoin (wC (.str "")) (wVar 5)) (wVar 8)) wNil)) (wName 10))
def w_law_p2 : WS :=
  (wIfS (wNot (wTru (wCall 2 sp_q_alikeH [] (wCons (wVar 10) (wCons (wTup (wCons (wVar 3) (wCons (wVar 8) wNil))) wNil))))) (wRet (wC (.bl false))) wSkip)
def w_law_p3 : WS :=
  (wDrop (wApp (wOp fIx (wVar 10) (wC (.int 0))) (wC .non)))
def w_law_loop5 : WS :=
  (wSeq (w_law_p1) (wSeq (w_law_p2) (w_law_p3)))
def w_law_p4 : WS :=
  (wAsg (wLc (wRng1 (wCons (wCall 2 sp_q_take [] (wCons (wVar 1) (wCons (wC (.int 6)) wNil))) wNil)) (wName 4) wYes (w_law_elt2) [4]) (wName 3))
def w_law_p5 : WS :=
  (wPar 5 6 (wCons (wLc (wItL (wVar 3)) (wName 7) wYes (w_law_elt3) [7]) (wCons (wCall 1 sp_show_frame [] (wCons (wCall 1 sp_q_draw_frame [] (wCons (wVar 1) wNil)) wNil)) wNil)))
def w_law_p6 : WS :=
  (wIfS (wNot (wTru (wCall 2 sp_q_alikeH [] (wCons (wLc (wItL (wVar 3)) (wName 7) wYes (w_law_elt4) [7]) (wCons (wVar 5) wNil))))) (wRet (wC (.bl false))) wSkip)
def w_law_p7 : WS :=
  (wAsg (wSl (wVar 6) wNoPart (wPart (wCall 2 sp_q_take [] (wCons (wVar 1) (wCons (wB fLen (wCons (wVar 6) wNil)) wNil))))) (wName 8))
def w_law_p8 : WS :=
  (wFor (wRng1 (wCons (wC (.int 3)) wNil)) (wName 9) (w_law_loop5))
def w_law_loop1 : WS :=
  (wSeq (w_law_p4) (wSeq (w_law_p5) (wSeq (w_law_p6) (wSeq (w_law_p7) (w_law_p8)))))
def w_law_0 : WS :=
  (wAsg (wCall 1 sp_q_bag [] (wCons (wVar 0) wNil)) (wName 1))
def w_law_1 : WS :=
  (wFor (wRng1 (wCons (wC (.int 5)) wNil)) (wName 2) (w_law_loop1))
def w_law_2 : WS :=
  (wIfS (wNot (wTru (wCall 2 sp_q_alikeH [] (wCons (wCall 1 sp_read_frames [] (wCons (wOp fMulA (wC (.str "ba,1;")) (wC (.int 1500))) wNil)) (wCons (wTup (wCons (wOp fMulA (wLst (wCons (wTup (wCons (wC (.str "back")) (wCons (wC (.str "a")) (wCons (wC (.int 1)) wNil)))) wNil)) (wC (.int 1500))) (wCons (wC (.str "")) wNil))) wNil))))) (wRet (wC (.bl false))) wSkip)
def w_law_3 : WS :=
  (wRet (wCall 2 sp_q_alikeH [] (wCons (wCall 1 sp_read_frames [] (wCons (wC (.str "")) wNil)) (wCons (wTup (wCons (wLst wNil) (wCons (wC (.str "")) wNil))) wNil))))
def w_law : WS :=
  (wSeq (w_law_0) (wSeq (w_law_1) (wSeq (w_law_2) (w_law_3))))
def n_law : List Str := ["_law_script", "_law_bag_here", "_law_turn", "_law_frames", "_law_k", "_law_texts", "_law_further", "_law_frame", "_law_rest", "_law_again", "_law_told"]
mutual
/-- plain, its numbers of few digits -/
def smk : D → Prop
  | .int i => i.natAbs.log2 < 180
  | .str s => PyData.strOk s = true
  | .non => True
  | .bl _ => True
  | .tup ds => smks ds
  | .lst ds => smks ds
  | _ => False
def smks : List D → Prop
  | [] => True
  | d :: ds => smk d ∧ smks ds
end
structure Shk (d : D) (p : PyData) : Prop where
  py : py d = some p
  sh : p.showable = true
  le : p.leavesShort 181 = true
  hd : p.hasDict = false
  cl : p.canLay0 = true
  wt : p.weight = wgt d
  dp : p.depth = dpt d
structure Shks (ds : List D) (ps : List PyData) : Prop where
  py : pys ds = some ps
  sh : PyData.showableAll ps = true
  le : PyData.leavesShortAll 181 ps = true
  hd : PyData.hasDictAll ps = false
  cl : PyData.canLayAll0 ps = true
  wt : PyData.weightAll ps = wgts ds
  dp : PyData.depthAll ps = dpts ds
mutual
theorem smk_shk : ∀ d : D, smk d → ∃ p, Shk d p
  | .non, _ => ⟨.none, rfl, rfl, rfl, rfl, rfl, rfl, rfl⟩
  | .bl b, _ => ⟨.bool b, rfl, rfl, rfl, rfl, rfl, rfl, rfl⟩
  | .int i, h => by
    have h' : i.natAbs.log2 < 180 := by simpa only [smk] using h
    refine ⟨.int i, rfl, by simp [PyData.showable]; omega, ?_, rfl, rfl, rfl, rfl⟩
    have z : (Str.ofString (toString i)).length ≤ 181 := by rw [PySem.ofString_length]; exact PySem.int_text_length_le (k := 180) (by decide) h'
    exact decide_eq_true z
  | .str s, h => by
    have h' : PyData.strOk s = true := by simpa only [smk] using h
    refine ⟨.str s, rfl, rfl, ?_, rfl, h', rfl, rfl⟩
    unfold PyData.strOk at h'
    rw [← Array.all_toList, List.all_eq_true] at h'
    simp only [PyData.leavesShort, List.all_eq_true, decide_eq_true_eq]
    intro c hc
    have := of_decide_eq_true (h' c hc)
    omega
  | .tup ds, h => by
    obtain ⟨ps, a, b, c, d, e, f, g⟩ := smks_shk ds (by simpa only [smk] using h)
    exact ⟨.tuple ps, by simp only [py, a, Option.map_some], by simpa only [PyData.showable] using b, by simpa only [PyData.leavesShort] using c, by simpa only [PyData.hasDict] using d, by simpa only [PyData.canLay0] using e, by simp only [PyData.weight, wgt, f], by simp only [PyData.depth, dpt, g]⟩
  | .lst ds, h => by
    obtain ⟨ps, a, b, c, d, e, f, g⟩ := smks_shk ds (by simpa only [smk] using h)
    exact ⟨.list ps, by simp only [py, a, Option.map_some], by simpa only [PyData.showable] using b, by simpa only [PyData.leavesShort] using c, by simpa only [PyData.hasDict] using d, by simpa only [PyData.canLay0] using e, by simp only [PyData.weight, wgt, f], by simp only [PyData.depth, dpt, g]⟩
  | .dct _, h => by simp only [smk] at h
  | .ins _ _, h => by simp only [smk] at h
  | .h _, h => by simp only [smk] at h
  | .scr _, h => by simp only [smk] at h
  | .exc _ _, h => by simp only [smk] at h
  | .fn _, h => by simp only [smk] at h
theorem smks_shk : ∀ ds : List D, smks ds → ∃ ps, Shks ds ps
  | [], _ => ⟨[], rfl, rfl, rfl, rfl, rfl, rfl, rfl⟩
  | d :: ds, h => by
    have h' : smk d ∧ smks ds := by simpa only [smks] using h
    obtain ⟨p, a1, b1, c1, d1, e1, f1, g1⟩ := smk_shk d h'.1
    obtain ⟨ps, a, b, c, d, e, f, g⟩ := smks_shk ds h'.2
    exact ⟨p :: ps, by simp only [pys, a1, a], by simp only [PyData.showableAll, b1, b, Bool.and_self], by simp only [PyData.leavesShortAll, c1, c, Bool.and_self], by simp only [PyData.hasDictAll, d1, d, Bool.or_self], by simp only [PyData.canLayAll0, e1, e, Bool.and_self], by simp only [PyData.weightAll, wgts, f1, f], by simp only [PyData.depthAll, dpts, g1, g]⟩
end
theorem smk_shp {d : D} (h : smk d) (w : wgt d ≤ 60000) (z : dpt d ≤ 60) : ∃ p, py d = some p ∧ ShP p := by
  obtain ⟨p, s⟩ := smk_shk d h
  have w' := w
  have z' := z
  rw [← s.wt] at w'
  rw [← s.dp] at z'
  refine ⟨p, s.py, s.sh, s.hd, z', ?_, ?_, SeqAt.eqv_refl p s.cl⟩
  · have y := PyData.shown_le 181 (by decide) p s.le
    have y2 : (181 + 2) * p.weight ≤ 183 * 60000 := Nat.mul_le_mul (by decide) w'
    rw [sizeLine_eq]
    omega
  · unfold SeqAt.shaped
    rw [s.cl, Bool.true_and, decide_eq_true_eq]
    omega
mutual
theorem py_pyH (S : Sto) : ∀ {d : D} {p : PyData}, py d = some p → pyH S d = some p
  | .non, _, e => e
  | .bl _, _, e => e
  | .int _, _, e => e
  | .str _, _, e => e
  | .tup ds, _, e => by
    unfold py at e
    obtain ⟨ps, e1, rfl⟩ := Option.map_eq_some_iff.mp e
    unfold pyH
    rw [pys_pysH S e1]; rfl
  | .lst ds, _, e => by
    unfold py at e
    obtain ⟨ps, e1, rfl⟩ := Option.map_eq_some_iff.mp e
    unfold pyH
    rw [pys_pysH S e1]; rfl
  | .h _, _, e => by simp [py] at e
  | .dct _, _, e => by simp [py] at e
  | .ins _ _, _, e => by simp [py] at e
  | .exc _ _, _, e => by simp [py] at e
  | .fn _, _, e => by simp [py] at e
  | .scr _, _, e => by simp [py] at e
theorem pys_pysH (S : Sto) : ∀ {ds : List D} {ps : List PyData}, pys ds = some ps → pysH S ds = some ps
  | [], _, e => e
  | d :: ds, _, e => by
    unfold pys at e
    split at e
    · rename_i p ps e1 e2
      cases e
      unfold pysH
      rw [py_pyH S e1, pys_pysH S e2]
    · cases e
end
theorem law_q_alikeH (ds : List D) (S : Sto) (Φ : D → Sto → Prop) (h : sp_q_alikeH ds S Φ) : w_q_alikeH { nx := fun _ S' => Φ .non S', rt := Φ } (ro n_q_alikeH ds) S := by
  obtain ⟨a, b, p, rfl, ra, rb, ea, eb, hp, q⟩ := h
  unfold w_q_alikeH n_q_alikeH
  simp only [wRet, wAndV, wOp, wB, wCons, wNil, wVar, ro, List.map_cons, List.map_nil, List.length_cons, List.length_nil, List.cons_append, List.nil_append, gt, onS_some, ra, rb]
  refine .inr ⟨p, p, ea, eb, hp.sp, hp.sp, ?_⟩
  rw [hp.ev]
  simp only [if_true]
  refine .inr ⟨a, p, by simp only [ra], ea, hp.sh, hp.hd, hp.dp, hp.ln, ?_⟩
  refine .inr ⟨b, p, by simp only [rb], eb, hp.sh, hp.hd, hp.dp, hp.ln, ?_⟩
  unfold fEq fEqB
  simp only [view_s, decide_true]
  exact q
theorem strOk_tx {l : List Nat} (h : ∀ c, c ∈ l → c < 1000) : PyData.strOk (tx l) = true := by
  unfold PyData.strOk
  rw [← Array.all_toList, List.all_eq_true]
  intro c hc
  have := h c hc
  exact decide_eq_true (by omega)
theorem fr_chars : ∀ f : Fr, f.ok → ∀ c, c ∈ f.t → c < 1000
  | .back nm n, h, c, hc => by
    simp only [Fr.t, List.mem_cons, List.mem_append, List.not_mem_nil, or_false] at hc
    rcases hc with rfl | hc | rfl | hc | rfl
    · decide
    · have := h.1.lo c hc; unfold low26 at this; omega
    · decide
    · have := TL.numL_digits n c hc; omega
    · decide
  | .data nm l w e, h, c, hc => by
    simp only [Fr.t, List.mem_cons, List.mem_append, List.not_mem_nil, or_false] at hc
    rcases hc with rfl | hc | rfl | hc | rfl | hc | rfl | hc | rfl
    · decide
    · have := h.1.lo c hc; unfold low26 at this; omega
    · decide
    · have := TL.numL_digits _ c hc; omega
    · decide
    · have := mks_in hc; simp at this; omega
    · decide
    · have := h.2.2.2 c hc; unfold let95 at this; omega
    · decide
theorem wgt_tx (l : List Nat) : wgt (.str (tx l)) = l.length := by
  have : (tx l).cps.size = l.length := tx_len l
  simp only [wgt, this]
theorem fr_smk : ∀ f : Fr, f.ok → smk f.d ∧ wgt f.d ≤ 220 ∧ dpt f.d = 1
  | .back nm n, h => by
    have l : ((n : Int)).natAbs.log2 < 180 := log2_small (b := 180) (by simp only [Int.natAbs_natCast]; exact Nat.lt_trans h.2.2 (by decide)) (by decide)
    refine ⟨?_, ?_, by simp [Fr.d, dpt, dpts]⟩
    · simp only [Fr.d, smk, smks, and_true]
      exact ⟨by decide +kernel, strOk_tx fun c hc => by have := h.1.lo c hc; unfold low26 at this; omega, l⟩
    · have e : wgt (.str (Str.ofString "back")) = 4 := by decide +kernel
      have a1 : wgt (.int (n : Int)) ≤ 180 := by simp only [wgt]; split <;> omega
      have := h.1.le
      show wgt (.str (Str.ofString "back")) + 1 + (wgt (.str (tx nm)) + 1 + (wgt (.int (n : Int)) + 1 + 0)) ≤ 220
      rw [e, wgt_tx]
      omega
  | .data nm l w e, h => by
    refine ⟨?_, ?_, by simp [Fr.d, dpt, dpts]⟩
    · simp only [Fr.d, smk, smks, and_true]
      exact ⟨by decide +kernel, strOk_tx fun c hc => by have := h.1.lo c hc; unfold low26 at this; omega, strOk_tx fun c hc => by have := h.2.2.2 c hc; unfold let95 at this; omega⟩
    · have e1 : wgt (.str (Str.ofString "data")) = 4 := by decide +kernel
      have := h.1.le
      have := h.2.2.1
      show wgt (.str (Str.ofString "data")) + 1 + (wgt (.str (tx nm)) + 1 + (wgt (.str (tx l)) + 1 + (0 + 1 + (0 + 1 + 0)))) ≤ 220
      rw [e1, wgt_tx, wgt_tx]
      omega
theorem frs_smk {W : Nat} : ∀ {fs : List Fr}, (∀ f, f ∈ fs → smk f.d ∧ wgt f.d ≤ W ∧ dpt f.d = 1) → smks (fs.map Fr.d) ∧ wgts (fs.map Fr.d) ≤ (W + 1) * fs.length ∧ dpts (fs.map Fr.d) ≤ 1
  | [], _ => ⟨trivial, by simp [wgts], by simp [dpts]⟩
  | f :: fs, h => by
    obtain ⟨a, b, c⟩ := h f (by simp)
    obtain ⟨a2, b2, c2⟩ := frs_smk (fs := fs) fun g hg => h g (by simp [hg])
    simp only [List.map_cons, smks, wgts, dpts, List.length_cons]
    refine ⟨⟨a, a2⟩, ?_, by omega⟩
    rw [Nat.mul_add, Nat.mul_one]
    omega
theorem txs_smk : ∀ {fs : List Fr}, (∀ f, f ∈ fs → f.ok) → smks (fs.map fun f => D.str (tx f.t)) ∧ wgts (fs.map fun f => D.str (tx f.t)) ≤ 301 * fs.length ∧ dpts (fs.map fun f => D.str (tx f.t)) = 0
  | [], _ => ⟨trivial, by simp [wgts], by simp [dpts]⟩
  | f :: fs, h => by
    have ok := h f (by simp)
    have := f.t_len ok
    obtain ⟨a2, b2, c2⟩ := txs_smk (fs := fs) fun g hg => h g (by simp [hg])
    simp only [List.map_cons, smks, smk, wgts, wgt_tx, dpts, dpt, List.length_cons, c2]
    exact ⟨⟨strOk_tx (fr_chars f ok), a2⟩, by omega, rfl⟩
/-- what read_frames tells, and what is due -/
theorem told_shp {W : Nat} {fs : List Fr} {r : List Nat} (hf : ∀ f, f ∈ fs → smk f.d ∧ wgt f.d ≤ W ∧ dpt f.d = 1) (hw : (W + 1) * fs.length ≤ 50000) (hr : ∀ c, c ∈ r → c < 1000) (hl : r.length ≤ 1000) {S : Sto} {j : Nat} (hj : S[j]? = some (.lst (fs.map Fr.d))) :
    ∃ p, ShP p ∧ pyH S (.tup [.h j, .str (tx r)]) = some p ∧ pyH S (.tup [.lst (fs.map Fr.d), .str (tx r)]) = some p := by
  obtain ⟨a, b, c⟩ := frs_smk hf
  have sr := strOk_tx hr
  obtain ⟨p, e, sp⟩ := smk_shp (d := .tup [.lst (fs.map Fr.d), .str (tx r)]) (by simp only [smk, smks, and_true]; exact ⟨a, sr⟩) (by
    show wgts (fs.map Fr.d) + 1 + (wgt (.str (tx r)) + 1 + 0) ≤ 60000
    rw [wgt_tx]; omega) (by simp only [dpt, dpts]; omega)
  refine ⟨p, sp, ?_, py_pyH S e⟩
  have e2 := py_pyH S e
  unfold pyH pysH pysH at e2 ⊢
  have e3 : pyH S (.h j) = pyH S (.lst (fs.map Fr.d)) := by
    unfold pyH
    rw [view_hl hj]
    unfold py
    obtain ⟨q, hq⟩ := smks_shk _ a
    rw [hq.py, pys_pysH S hq.py]
  rw [e3]
  exact e2
theorem join_fr {fs : List Fr} (h : ∀ f, f ∈ fs → f.ok) (hl : fs.length ≤ 100) : PySem.Txt.join (Str.ofString "") (fs.map fun f => tx f.t) = tx (flat fs) ∧ ((fs.map fun f => tx f.t).map (·.length)).sum + (fs.map fun f => tx f.t).length * (Str.ofString "").length ≤ 10000000 ∧ (flat fs).length ≤ 300 * fs.length := by
  have e : (Str.ofString "") = SX.S [] := by decide +kernel
  have e0 : (Str.ofString "").length = 0 := by decide +kernel
  have lens : ∀ {fs : List Fr}, (∀ f, f ∈ fs → f.ok) → (flat fs).length = ((fs.map fun f => tx f.t).map (·.length)).sum ∧ (flat fs).length ≤ 300 * fs.length := fun {fs} h => by
    induction fs with
    | nil => exact ⟨rfl, by simp [flat]⟩
    | cons f fs ih =>
      obtain ⟨a, b⟩ := ih fun g hg => h g (by simp [hg])
      have := f.t_len (h f (by simp))
      rw [flat_cons, List.length_append]
      simp only [List.map_cons, List.sum_cons, List.length_cons, tx_len, a]
      rw [← a]
      exact ⟨trivial, by omega⟩
  obtain ⟨a, b⟩ := lens h
  refine ⟨?_, by rw [e0, ← a]; omega, b⟩
  have e2 : (fs.map fun f => tx f.t) = (fs.map Fr.t).map SX.S := by rw [List.map_map]; rfl
  rw [e, e2, SX.join_S, joinL_nil]
  rfl
theorem foldl_cat (a : Array Nat) : ∀ (k : Nat) (acc : Array Nat), ((List.replicate k a).foldl (· ++ ·) acc).toList = acc.toList ++ (List.replicate k a.toList).flatten
  | 0, acc => by simp
  | k + 1, acc => by
    rw [List.replicate_succ, List.foldl_cons, foldl_cat a k]
    simp [List.replicate_succ]
theorem mul_tx {l : List Nat} (hl : l ≠ []) {k : Nat} (hk : 2 ≤ k) : PySem.Txt.mul (tx l) (k : Int) = tx (List.replicate k l).flatten := by
  unfold PySem.Txt.mul
  have h1 : ¬ ((k : Int) < 1) := by omega
  have h2 : ((k : Int) == 1 || (tx l).length == 0) = false := by
    have a1 : ((k : Int) == 1) = false := by simp; omega
    have a2 : ((tx l).length == 0) = false := by rw [tx_len]; simp [hl]
    rw [a1, a2]; rfl
  rw [if_neg h1, h2, if_neg Bool.false_ne_true]
  have e : (k : Int).toNat = k := rfl
  rw [e, of_tx ⟨_⟩]
  congr 1
  show ((List.replicate k l.toArray).foldl (· ++ ·) #[]).toList = _
  rw [foldl_cat]
  simp
def mf (n : Nat) : List Fr := List.replicate n (.back [97] 1)
theorem mf_flat (n : Nat) : (List.replicate n [98, 97, 44, 49, 59]).flatten = flat (mf n) := by
  have e : (Fr.back [97] 1).t = [98, 97, 44, 49, 59] := by decide +kernel
  unfold flat mf
  rw [List.map_replicate, e]
theorem mf_len (n : Nat) : (flat (mf n)).length = 5 * n := by
  rw [← mf_flat]
  induction n with
  | zero => rfl
  | succ n ih => rw [List.replicate_succ, List.flatten_cons, List.length_append, ih]; simp; omega
theorem mf_d (n : Nat) : (List.replicate n [D.tup [.str (Str.ofString "back"), .str (Str.ofString "a"), .int 1]]).flatten = (mf n).map Fr.d := by
  have ea : Str.ofString "a" = tx [97] := by decide +kernel
  have e : (Fr.back [97] 1).d = D.tup [.str (Str.ofString "back"), .str (Str.ofString "a"), .int 1] := by rw [ea]; rfl
  unfold mf
  rw [List.map_replicate, e]
  induction n with
  | zero => rfl
  | succ n ih => rw [List.replicate_succ, List.flatten_cons, ih]; rfl
theorem a_ok : (Fr.back [97] 1).ok := ⟨⟨by decide, by decide, fun c hc => by simp at hc; unfold low26; omega⟩, by decide, by decide⟩
theorem mf_ok {n : Nat} {f : Fr} (h : f ∈ mf n) : f = .back [97] 1 := by unfold mf at h; exact (List.mem_replicate.mp h).2
theorem a_smk : smk (Fr.back [97] 1).d ∧ wgt (Fr.back [97] 1).d ≤ 9 ∧ dpt (Fr.back [97] 1).d = 1 := by
  obtain ⟨a, _, c⟩ := fr_smk _ a_ok
  exact ⟨a, by decide +kernel, c⟩
/-! ### the law: frames shown and read -/
structure B1 (S : Sto) : Prop where
  b : S[0]? = some .bag
theorem B1.pos {S : Sto} (h : B1 S) : 0 < S.length := (List.getElem?_eq_some_iff.mp h.b).1
theorem B1.more {S : Sto} (h : B1 S) (m : M) : B1 (S ++ [m]) := ⟨by rw [List.getElem?_append_left h.pos]; exact h.b⟩
theorem gpt {ρ : Ro} {i j : Nat} {d : Option D} (h : i ≠ j) : gt (st ρ i d) j = gt ρ j := by rw [gt_st, if_neg (fun z => h z.1)]
theorem gon {ρ : Ro} {i : Nat} {d : Option D} (h : i < ρ.length) : gt (st ρ i d) i = d := by rw [gt_st, if_pos ⟨rfl, h⟩]
theorem res_tp (S : Sto) (l : List D) : res S (.tup l) = .tup l := rfl
theorem read_turn {S : Sto} {ρ : Ro} {κ : WK} {fs : List Fr} {g : Fr} {r : List Nat} (b : B1 S) (hl : ρ.length = 11) (g3 : gt ρ 3 = some (.lst (fs.map Fr.d))) (g5 : gt ρ 5 = some (.lst (fs.map fun f => D.str (tx f.t)))) (g8 : gt ρ 8 = some (.str (tx r))) (okf : ∀ f, f ∈ fs → f.ok) (nf : fs.length ≤ 5) (okg : g.ok)
    (hr : r = [] ∨ Fp g.t r false) (hr2 : ∀ c, c ∈ r → c < 1000) (hr3 : r.length ≤ 300) (q : ∀ (x : D) (S' : Sto), B1 S' → κ.nx (st ρ 10 (some x)) S') : w_law_loop5 κ ρ S := by
  obtain ⟨ej, el, ell⟩ := join_fr okf (by omega)
  have n2 : 2 ≤ LIM := by decide
  have hL : ∀ m : M, (S ++ [m])[S.length]? = some m := fun m => by rw [List.getElem?_append_right (Nat.le_refl _)]; simp
  have rL : ∀ L : List D, res (S ++ [.lst L]) (.h S.length) = .h S.length := fun L => res_hl (hL _)
  have sL : ∀ m m' : M, (S ++ [m]).set S.length m' = S ++ [m'] := fun m m' => by rw [List.set_append_right _ _ (Nat.le_refl _), Nat.sub_self]; rfl
  have em : (fs.map fun f => D.str (tx f.t)) = (fs.map fun f => tx f.t).map D.str := by rw [List.map_map]; rfl
  unfold w_law_loop5
  rw [wSeq]
  unfold w_law_p1
  simp only [wAsg, wCall, wCons, wNil, wOp, wJoin, wC, wVar, g5, g8, onS_some, res_l, res_s, view_l, em, strsD_map]
  refine ⟨el, ?_⟩
  rw [ej]
  refine fAdd_tx (by unfold LIM; omega) ?_
  simp only [List.append_nil, List.length_cons, List.length_nil, Nat.reduceAdd, true_and]
  refine ⟨fs, r, g, rfl, okf, okg, hr, by rw [List.length_append]; omega, by omega, ?_⟩
  simp only [wName]
  obtain ⟨p, sp, e1, e2⟩ := told_shp (W := 220) (fs := fs) (r := r) (S := S ++ [.lst (fs.map Fr.d)]) (j := S.length) (fun f hf => fr_smk f (okf f hf)) (by omega) hr2 (by omega) (hL _)
  have q' := fun S' hb => q (.tup [.h S.length, .str (tx r)]) S' hb
  have k3 : gt (st ρ 10 (some (.tup [.h S.length, .str (tx r)]))) 3 = some (.lst (fs.map Fr.d)) := by rw [gpt (by decide)]; exact g3
  have k8 : gt (st ρ 10 (some (.tup [.h S.length, .str (tx r)]))) 8 = some (.str (tx r)) := by rw [gpt (by decide)]; exact g8
  have k10 : gt (st ρ 10 (some (.tup [.h S.length, .str (tx r)]))) 10 = some (.tup [.h S.length, .str (tx r)]) := gon (by rw [hl]; decide)
  generalize st ρ 10 (some (.tup [.h S.length, .str (tx r)])) = ρ1 at q' k3 k8 k10 ⊢
  try dsimp only
  rw [wSeq]
  unfold w_law_p2
  simp only [wIfS, wNot, wTru, wCall, wCons, wNil, wVar, wTup, k3, k8, k10, onS_some, res_tp, res_l, res_s, List.append_nil, List.length_cons, List.length_nil, Nat.reduceAdd, n2, true_and]
  refine ⟨_, _, p, rfl, rfl, rfl, e1, e2, sp, ?_⟩
  simp only [tru, view_b, onS_some, Bool.not_true, Bool.false_eq_true, if_false, wSkip]
  unfold w_law_p3
  have a0 : atI [D.h S.length, .str (tx r)] 0 = some (.h S.length) := rfl
  simp only [wDrop, wApp, wOp, wVar, wC, k10, onS_some, res_tp, fIx, view_t, a0, hL, sL, true_and]
  refine ⟨by rw [List.length_map]; unfold LIM; omega, q' _ (b.more _)⟩
theorem law_turn {S : Sto} {ρ : Ro} {κ : WK} (b : B1 S) (hl : ρ.length = 11) (g1 : gt ρ 1 = some (.h 0)) (q : ∀ ρ' S', ρ'.length = 11 → gt ρ' 1 = some (.h 0) → B1 S' → κ.nx ρ' S') : w_law_loop1 κ ρ S := by
  have r0 := res_hb b.b
  unfold w_law_loop1
  rw [wSeq]
  unfold w_law_p4
  simp only [wAsg, wLc, wRng1, wCons, wNil, wCall, wVar, wC, g1, onS_some, r0, List.append_nil, List.length_cons, List.length_nil, Nat.reduceAdd, true_and]
  refine ⟨0, 6, rfl, b.b, by decide, by decide, fun v v0 v1 => ?_⟩
  refine ⟨by unfold BIG; omega, by unfold BIG; omega, ?_⟩
  refine comp_all (fun _ f => Fr.ok f) Fr.d (by rw [rngD_length]; simp only [List.length_nil]; unfold LIM; omega) (fun d _ Q' hq => ?_) fun fs hfs => ?_
  · unfold w_law_elt2
    have gw : gt (st (wp ρ [4]) 4 (some d)) 1 = some (.h 0) := by
      simp only [wp]
      rw [gpt (by decide), gpt (by decide)]; exact g1
    simp only [wCall, wCons, wNil, wVar, gw, onS_some, r0, List.append_nil, List.length_cons, List.length_nil, Nat.reduceAdd, true_and]
    exact ⟨0, rfl, b.b, hq⟩
  have nf : fs.length ≤ 5 := by have := hfs.len; rw [rngD_length] at this; omega
  have okf : ∀ f, f ∈ fs → f.ok := hfs.right fun _ _ _ h => h
  simp only [List.nil_append, wName]
  have k3 : gt (st ρ 3 (some (.lst (fs.map Fr.d)))) 3 = some (.lst (fs.map Fr.d)) := gon (by rw [hl]; decide)
  have k1 : gt (st ρ 3 (some (.lst (fs.map Fr.d)))) 1 = some (.h 0) := by rw [gpt (by decide)]; exact g1
  have kl : (st ρ 3 (some (.lst (fs.map Fr.d)))).length = 11 := by rw [st_length]; exact hl
  generalize st ρ 3 (some (.lst (fs.map Fr.d))) = ρ1 at k1 k3 kl ⊢
  try dsimp only
  rw [wSeq]
  unfold w_law_p5 w_law_elt3
  simp only [wPar, wCons, wNil, wLc, wItL, wVar, k3, onS_some, res_l]
  refine comp_map Fr.d (fun f => D.str (tx f.t)) (by simp only [List.length_nil]; unfold LIM; omega) (fun f hf Q' hq => ?_) ?_
  · have gw : gt (st (wp ρ1 [7]) 7 (some f.d)) 7 = some f.d := gon (by simp only [wp]; rw [st_length, kl]; decide)
    simp only [wCall, wCons, wNil, wVar, gw, onS_some, res_fd, List.append_nil, List.length_cons, List.length_nil, Nat.reduceAdd, true_and]
    exact ⟨f, rfl, okf f hf, hq⟩
  simp only [List.nil_append, wCall, wCons, wNil, wVar, k1, onS_some, r0, List.append_nil, List.length_cons, List.length_nil, Nat.reduceAdd, true_and]
  refine ⟨0, rfl, b.b, fun g okg => ⟨g, rfl, okg, ?_⟩⟩
  generalize hX : (fs.map fun f => D.str (tx f.t)) = X
  have u1 : gt (st (st ρ1 5 (some (.lst X))) 6 (some (.str (tx g.t)))) 1 = some (.h 0) := by rw [gpt (by decide), gpt (by decide)]; exact k1
  have u3 : gt (st (st ρ1 5 (some (.lst X))) 6 (some (.str (tx g.t)))) 3 = some (.lst (fs.map Fr.d)) := by rw [gpt (by decide), gpt (by decide)]; exact k3
  have u5 : gt (st (st ρ1 5 (some (.lst X))) 6 (some (.str (tx g.t)))) 5 = some (.lst X) := by rw [gpt (by decide)]; exact gon (by rw [kl]; decide)
  have u6 : gt (st (st ρ1 5 (some (.lst X))) 6 (some (.str (tx g.t)))) 6 = some (.str (tx g.t)) := gon (by rw [st_length, kl]; decide)
  have ul : (st (st ρ1 5 (some (.lst X))) 6 (some (.str (tx g.t)))).length = 11 := by rw [st_length, st_length]; exact kl
  try dsimp only
  show wSeq _ _ _ (st (st ρ1 5 (some (.lst X))) 6 (some (.str (tx g.t)))) S
  generalize st (st ρ1 5 (some (.lst X))) 6 (some (.str (tx g.t))) = ρ2 at u1 u3 u5 u6 ul ⊢
  rw [wSeq]
  unfold w_law_p6 w_law_elt4
  obtain ⟨a, w, c⟩ := txs_smk okf
  rw [hX] at a w c
  obtain ⟨p, e, sp⟩ := smk_shp (d := .lst X) (by simp only [smk]; exact a) (by simp only [wgt]; omega) (by simp only [dpt]; omega)
  simp only [wIfS, wNot, wTru, wCall, wCons, wNil, wLc, wItL, wVar, u3, onS_some, res_l]
  refine comp_map Fr.d (fun f => D.str (tx f.t)) (by simp only [List.length_nil]; unfold LIM; omega) (fun f hf Q' hq => ?_) ?_
  · have gw : gt (st (wp ρ2 [7]) 7 (some f.d)) 7 = some f.d := gon (by simp only [wp]; rw [st_length, ul]; decide)
    simp only [wCall, wCons, wNil, wVar, gw, onS_some, res_fd, List.append_nil, List.length_cons, List.length_nil, Nat.reduceAdd, true_and]
    exact ⟨f, rfl, okf f hf, hq⟩
  simp only [List.nil_append, hX, u5, onS_some, res_l, List.append_nil, List.length_cons, List.length_nil, Nat.reduceAdd, true_and]
  refine ⟨_, _, p, rfl, rfl, rfl, py_pyH S e, py_pyH S e, sp, ?_⟩
  simp only [tru, view_b, onS_some, Bool.not_true, Bool.false_eq_true, if_false, wSkip]
  rw [wSeq]
  unfold w_law_p7
  have gl := g.t_len okg
  have tlen : (tx g.t).length = g.t.length := tx_len g.t
  have lim : g.t.length ≤ LIM := by unfold LIM; omega
  have gp : 0 < g.t.length := List.length_pos_iff.mpr (t_ne g)
  simp only [wAsg, wSl, wNoPart, wPart, wVar, u6, u1, onS_some, res_s, wCall, wCons, wNil, r0, wB, fLen, lenS, view_s, tlen, if_pos lim, List.append_nil, List.length_cons, List.length_nil, Nat.reduceAdd, true_and]
  refine ⟨0, (g.t.length : Int), rfl, b.b, by omega, by omega, fun v v0 v1 => ?_⟩
  obtain ⟨j, rfl⟩ := Int.eq_ofNat_of_zero_le v0
  have ec : cutS (tx g.t) none (some (j : Int)) = tx (g.t.take j) := by
    unfold cutS
    rw [tlen, HT.sIx_none, HT.sIx_nat, List.drop_zero, Nat.sub_zero, Nat.min_eq_left (by omega)]
  simp only [fSl, view_s, tlen, ec]
  refine ⟨lim, ?_⟩
  have hr : g.t.take j = [] ∨ Fp g.t (g.t.take j) false := .inr ⟨g.t.drop j, by
    intro z
    have := congrArg List.length z
    rw [List.length_drop] at this
    simp at this
    omega, (List.take_append_drop j g.t).symm⟩
  have hr2 : ∀ c, c ∈ g.t.take j → c < 1000 := fun c hc => fr_chars g okg c (List.mem_of_mem_take hc)
  have hr3 : (g.t.take j).length ≤ 300 := by rw [List.length_take]; omega
  generalize g.t.take j = r at hr hr2 hr3 ⊢
  simp only [wName]
  have z1 : gt (st ρ2 8 (some (.str (tx r)))) 1 = some (.h 0) := by rw [gpt (by decide)]; exact u1
  have z3 : gt (st ρ2 8 (some (.str (tx r)))) 3 = some (.lst (fs.map Fr.d)) := by rw [gpt (by decide)]; exact u3
  have z5 : gt (st ρ2 8 (some (.str (tx r)))) 5 = some (.lst X) := by rw [gpt (by decide)]; exact u5
  have z8 : gt (st ρ2 8 (some (.str (tx r)))) 8 = some (.str (tx r)) := gon (by rw [ul]; decide)
  have zl : (st ρ2 8 (some (.str (tx r)))).length = 11 := by rw [st_length]; exact ul
  generalize st ρ2 8 (some (.str (tx r))) = ρ3 at z1 z3 z5 z8 zl ⊢
  unfold w_law_p8 wFor
  simp only [wRng1, wCons, wNil, wC]
  refine ⟨by decide, by decide, ?_⟩
  rw [← hX] at z5
  refine loop_inv (fun ρ' S' => B1 S' ∧ ρ'.length = 11 ∧ gt ρ' 1 = some (.h 0) ∧ gt ρ' 3 = some (.lst (fs.map Fr.d)) ∧ gt ρ' 5 = some (.lst (fs.map fun f => D.str (tx f.t))) ∧ gt ρ' 8 = some (.str (tx r))) (fun d hd ρ' S' κ' i q' => ?_) ⟨b, zl, z1, z3, z5, z8⟩ fun ρ' S' i => ?_
  · obtain ⟨b', l', y1, y3, y5, y8⟩ := i
    unfold wName
    refine read_turn (g := g) b' (by rw [st_length]; exact l') (by rw [gpt (by decide)]; exact y3) (by rw [gpt (by decide)]; exact y5) (by rw [gpt (by decide)]; exact y8) okf nf okg hr hr2 hr3 fun x S2 b2 => ?_
    refine q' _ _ ⟨b2, by rw [st_length, st_length]; exact l', by rw [gpt (by decide), gpt (by decide)]; exact y1, by rw [gpt (by decide), gpt (by decide)]; exact y3, by rw [gpt (by decide), gpt (by decide)]; exact y5, by rw [gpt (by decide), gpt (by decide)]; exact y8⟩
  · obtain ⟨b', l', y1, _⟩ := i
    exact q _ _ l' y1 b'
theorem law_many {S : Sto} {ρ : Ro} {κ : WK} (q : ∀ S', κ.nx ρ S') : w_law_2 κ ρ S := by
  have n2 : 2 ≤ LIM := by decide
  have n1 : 1 ≤ LIM := by decide
  have n3 : 3 ≤ LIM := by decide
  have eb : Str.ofString "ba,1;" = tx [98, 97, 44, 49, 59] := by decide +kernel
  have e0 : Str.ofString "" = tx [] := by decide +kernel
  have hL : ∀ m : M, (S ++ [m])[S.length]? = some m := fun m => by rw [List.getElem?_append_right (Nat.le_refl _)]; simp
  have emu := mul_tx (l := [98, 97, 44, 49, 59]) (by simp) (k := 1500) (by decide)
  have emd := mf_d 1500
  have len := mf_len 1500
  have en : Int.toNat 1500 = 1500 := rfl
  have ei : ((1500 : Nat) : Int) = 1500 := rfl
  rw [mf_flat, ei] at emu
  have nl : (mf 1500).length = 1500 := by unfold mf; rw [List.length_replicate]
  have hf : ∀ f, f ∈ mf 1500 → smk f.d ∧ wgt f.d ≤ 9 ∧ dpt f.d = 1 := fun f hf => by rw [mf_ok hf]; exact a_smk
  have okf : ∀ f, f ∈ mf 1500 → f.ok := fun f hf => by rw [mf_ok hf]; exact a_ok
  generalize mf 1500 = fs at emu emd len nl hf okf
  unfold w_law_2
  have mok : PySem.MulOk (tx [98, 97, 44, 49, 59]) 1500 := by unfold PySem.MulOk; decide +kernel
  simp only [wIfS, wNot, wTru, wCall, wCons, wNil, wOp, wC, eb, fMulA, view_s, emu]
  refine ⟨mok, ?_⟩
  simp only [List.append_nil, List.length_cons, List.length_nil, Nat.reduceAdd, true_and]
  refine ⟨fs, [], .back [97] 1, by rw [List.append_nil, emu], okf, a_ok, .inl rfl, by rw [List.append_nil, len]; decide, by rw [nl]; decide, ?_⟩
  obtain ⟨p, sp, e1, e2⟩ := told_shp (W := 9) (fs := fs) (r := []) (S := S ++ [.lst (fs.map Fr.d)]) (j := S.length) hf (by rw [nl]; decide) (by simp) (by simp) (hL _)
  simp only [wTup, wLst, wCons, wNil, wC, wOp, List.length_cons, List.length_nil, Nat.reduceAdd, n1, n2, n3, true_and, fMulA, view_l, view_i, en, emd]
  refine ⟨by decide, by decide, by decide, ?_⟩
  refine ⟨_, _, p, rfl, rfl, rfl, e1, by rw [e0]; exact e2, sp, ?_⟩
  simp only [tru, view_b, onS_some, Bool.not_true, Bool.false_eq_true, if_false, wSkip]
  exact q _
theorem law_law : LawD ["_law_script"] n_law w_law sp_law := by
  intro ds S Φ _ h
  obtain ⟨ns, rfl, rfl, q⟩ := h
  unfold w_law
  rw [wSeq]
  unfold w_law_0
  have hl : (ro n_law [D.scr ns]).length = 11 := rfl
  have g0 : gt (ro n_law [D.scr ns]) 0 = some (.scr ns) := rfl
  generalize ro n_law [D.scr ns] = ρ at hl g0 ⊢
  simp only [wAsg, wCall, wCons, wNil, wVar, g0, List.length_cons, List.length_nil, List.append_nil, onS_some, res_scr, Nat.reduceAdd, true_and]
  refine ⟨ns, rfl, ?_⟩
  simp only [List.length_nil, List.nil_append, wName]
  have b0 : B1 [M.bag] := ⟨rfl⟩
  generalize ([M.bag] : Sto) = T at b0 ⊢
  rw [wSeq]
  unfold w_law_1
  unfold wFor
  simp only [wRng1, wCons, wNil, wC]
  refine ⟨by decide, by decide, ?_⟩
  refine loop_inv (fun ρ' S' => B1 S' ∧ ρ'.length = 11 ∧ gt ρ' 1 = some (.h 0)) (fun d hd ρ' S' κ' i q' => ?_) ⟨b0, by rw [st_length]; exact hl, gon (by omega)⟩ fun ρ' S' i => ?_
  · obtain ⟨b, l, g⟩ := i
    unfold wName
    exact law_turn b (by rw [st_length]; exact l) (by rw [gpt (by decide)]; exact g) fun ρ2 S2 l2 g2 b2 => q' _ _ ⟨b2, l2, g2⟩
  try dsimp only
  rw [wSeq]
  refine law_many fun S2 => ?_
  unfold w_law_3
  have n2 : 2 ≤ LIM := by decide
  have n0 : 0 ≤ LIM := by decide
  have e0 : Str.ofString "" = tx [] := by decide +kernel
  have hL : ∀ m : M, (S2 ++ [m])[S2.length]? = some m := fun m => by rw [List.getElem?_append_right (Nat.le_refl _)]; simp
  obtain ⟨p, sp, e1, e2⟩ := told_shp (W := 9) (fs := []) (r := []) (S := S2 ++ [.lst []]) (j := S2.length) (by simp) (by simp) (by simp) (by simp) (hL _)
  simp only [wRet, wCall, wCons, wNil, wC, List.append_nil, List.length_cons, List.length_nil, Nat.reduceAdd, true_and]
  refine ⟨[], [], .back [97] 1, by rw [e0]; rfl, by simp, a_ok, .inl rfl, by simp [flat], by simp, ?_⟩
  simp only [wTup, wLst, wCons, wNil, wC, List.length_cons, List.length_nil, Nat.reduceAdd, n0, n2, true_and]
  refine ⟨_, _, p, rfl, rfl, rfl, e1, by rw [e0]; exact e2, sp, ?_⟩
  exact q _
end Sq

set_option Elab.async false
set_option maxRecDepth 100000
set_option maxHeartbeats 4000000
set_option linter.all false
namespace Sq
open PySem PySem.Spec PyProof.Rows L2
def top (i : Nat) : Stmt := PySem.Challenge.pw_sharedpipe_k40_frames_shown_and_read.main.body.getD i (.Pass ⟨0, 0, 0, 0⟩)
abbrev s_is_name : Stmt := top 7
theorem sc_is_name : FnScope n_is_name ["thing"] (C8.fnScope s_is_name) := C8.fnScope_by (by decide +kernel)
abbrev s_is_letters : Stmt := top 8
theorem sc_is_letters : FnScope n_is_letters ["thing"] (C8.fnScope s_is_letters) := C8.fnScope_by (by decide +kernel)
abbrev s_show_frame : Stmt := top 14
theorem sc_show_frame : FnScope n_show_frame ["frame"] (C8.fnScope s_show_frame) := C8.fnScope_by (by decide +kernel)
abbrev s_signs_at : Stmt := top 15
theorem sc_signs_at : FnScope n_signs_at ["text", "at", "signs", "end"] (C8.fnScope s_signs_at) := C8.fnScope_by (by decide +kernel)
abbrev s_is_count : Stmt := top 16
theorem sc_is_count : FnScope n_is_count ["digits", "is_data"] (C8.fnScope s_is_count) := C8.fnScope_by (by decide +kernel)
abbrev s_data_at : Stmt := top 18
theorem sc_data_at : FnScope n_data_at ["text", "at", "name", "many"] (C8.fnScope s_data_at) := C8.fnScope_by (by decide +kernel)
abbrev s_frame_at : Stmt := top 17
theorem sc_frame_at : FnScope n_frame_at ["text", "at"] (C8.fnScope s_frame_at) := C8.fnScope_by (by decide +kernel)
abbrev s_read_frames : Stmt := top 19
theorem sc_read_frames : FnScope n_read_frames ["text"] (C8.fnScope s_read_frames) := C8.fnScope_by (by decide +kernel)
abbrev s_q_bag : Stmt := top 21
theorem sc_q_bag : FnScope n_q_bag ["_law_script"] (C8.fnScope s_q_bag) := C8.fnScope_by (by decide +kernel)
abbrev s_q_take : Stmt := top 22
theorem sc_q_take : FnScope n_q_take ["_law_bag_here", "_law_many"] (C8.fnScope s_q_take) := C8.fnScope_by (by decide +kernel)
abbrev s_q_alikeH : Stmt := top 23
theorem sc_q_alikeH : FnScope n_q_alikeH ["_law_found", "_law_due"] (C8.fnScope s_q_alikeH) := C8.fnScope_by (by decide +kernel)
abbrev s_q_draw_letters : Stmt := top 24
theorem sc_q_draw_letters : FnScope n_q_draw_letters ["_law_bag_here", "_law_many"] (C8.fnScope s_q_draw_letters) := C8.fnScope_by (by decide +kernel)
abbrev s_q_draw_word : Stmt := top 25
theorem sc_q_draw_word : FnScope n_q_draw_word ["_law_bag_here"] (C8.fnScope s_q_draw_word) := C8.fnScope_by (by decide +kernel)
abbrev s_q_draw_number : Stmt := top 26
theorem sc_q_draw_number : FnScope n_q_draw_number ["_law_bag_here"] (C8.fnScope s_q_draw_number) := C8.fnScope_by (by decide +kernel)
abbrev s_q_draw_frame : Stmt := top 27
theorem sc_q_draw_frame : FnScope n_q_draw_frame ["_law_bag_here"] (C8.fnScope s_q_draw_frame) := C8.fnScope_by (by decide +kernel)
abbrev s_q_ftext : Stmt := top 28
theorem sc_q_ftext : FnScope n_q_ftext ["_law_frame"] (C8.fnScope s_q_ftext) := C8.fnScope_by (by decide +kernel)
abbrev s_law : Stmt := top 29
theorem sc_law : FnScope n_law ["_law_script"] (C8.fnScope s_law) := C8.fnScope_by (by decide +kernel)
structure Txt (K : PySem.W.Frag) (mg : Str → Option Value) : Prop where
  «d_is_name» : DD K mg "is_name" s_is_name ["thing"] []
  «d_is_letters» : DD K mg "is_letters" s_is_letters ["thing"] []
  «d_show_frame» : DD K mg "show_frame" s_show_frame ["frame"] []
  «d_signs_at» : DD K mg "signs_at" s_signs_at ["text", "at", "signs", "end"] []
  «d_is_count» : DD K mg "is_count" s_is_count ["digits", "is_data"] []
  «d_data_at» : DD K mg "data_at" s_data_at ["text", "at", "name", "many"] []
  «d_frame_at» : DD K mg "frame_at" s_frame_at ["text", "at"] []
  «d_read_frames» : DD K mg "read_frames" s_read_frames ["text"] []
  «d_q_bag» : DD K mg "_law_bag" s_q_bag ["_law_script"] []
  «d_q_take» : DD K mg "_law_take" s_q_take ["_law_bag_here", "_law_many"] []
  «d_q_alikeH» : DD K mg "_law_alike" s_q_alikeH ["_law_found", "_law_due"] []
  «d_q_draw_letters» : DD K mg "_law_draw_letters" s_q_draw_letters ["_law_bag_here", "_law_many"] []
  «d_q_draw_word» : DD K mg "_law_draw_word" s_q_draw_word ["_law_bag_here"] []
  «d_q_draw_number» : DD K mg "_law_draw_number" s_q_draw_number ["_law_bag_here"] []
  «d_q_draw_frame» : DD K mg "_law_draw_frame" s_q_draw_frame ["_law_bag_here"] []
  «d_q_ftext» : DD K mg "_law_text" s_q_ftext ["_law_frame"] []
  «d_law» : DL K mg "law" s_law "_law_script"
  «abs» : mg "abs" = none
  «all» : mg "all" = none
  «g_BARRED» : GK K mg "BARRED" (.int 37)
  «g_DIGITS» : GK K mg "DIGITS" (.str "0123456789")
  «g_MARKS» : GK K mg "MARKS" (.tup [.str "", .str "w", .str "e", .str "we"])
  «g_MOST_DIGITS» : GK K mg "MOST_DIGITS" (.int 39)
  «g_MOST_LETTERS» : GK K mg "MOST_LETTERS" (.int 200)
  «g_MOST_NAME» : GK K mg "MOST_NAME" (.int 8)
  «g_SMALL» : GK K mg "SMALL" (.str "abcdefghijklmnopqrstuvwxyz")
  «ib_Rule_str» : KIB K mg "Rule" "str"
  «int» : mg "int" = none
  «isinstance» : mg "isinstance" = none
  «len» : mg "len" = none
  «ord» : mg "ord" = none
  «range» : mg "range" = none
  «repr» : mg "repr" = none
  «str» : mg "str" = none
section
variable {P : Program} {w : World} {K : PySem.W.Frag} {mg : Str → Option Value} {base : Heap}
theorem c_is_name (T : Txt K mg) : C8.Cal P w K mg base 1 "is_name" (spOf K mg 1 sp_is_name) [] := T.d_is_name.cal sc_is_name (fun f cdv A outer sh H E hr => by
      exact ⟨_, (ss_cons (s_if (SW.st (sw_or (tt_not (tt_val (se_isB (T := "str") T.ib_Rule_str T.isinstance T.str (by decide) (by decide +kernel) (se_var 0)))) (sw_one2 (tt_not (tc2 cm_le cm_le se_int (se_cb call_len (fun _ => cb_len) T.len PySem.boot_len (sa_cons (se_var 0) sa_nil)) (se_glob T.g_MOST_NAME)))))) (ss_one (s_ret se_bl)) ss_nil) (ss_one (s_ret (se_cb (cr_all rfl) (fun _ => cb_all) T.all (by decide +kernel) (sa_cons (se_lc (own := [("sign", 1)]) rfl (sc_is_name.nd) (si_str (se_var 0)) (blkOk_by (own := [("sign", 1)]) (show blkC n_is_name (C8.fnScope s_is_name) _ [("sign", 1)] = true by decide +kernel)) (sb_name 1 (by decide) fun _ _ _ _ _ => pg_name (i := 1) (sc_is_name.nd) rfl (Or.inl rfl)) SF.yes (SX.of (fun _ _ _ _ _ => (sc1 cm_insg (se_var 1) (se_glob T.g_SMALL))) sh H)) sa_nil)))))⟩) (fun ds S Φ _ h => law_is_name ds S Φ h)
theorem c_is_letters (T : Txt K mg) : C8.Cal P w K mg base 1 "is_letters" (spOf K mg 1 sp_is_lettersT) [] := T.d_is_letters.cal sc_is_letters (fun f cdv A outer sh H E hr => by
      exact ⟨_, (ss_cons (s_if (SW.st (sw_or (tt_not (tt_val (se_isB (T := "str") T.ib_Rule_str T.isinstance T.str (by decide) (by decide +kernel) (se_var 0)))) (sw_one2 (tc1 (cm_eq hr.units) (se_var 0) se_str)))) (ss_one (s_ret se_bl)) ss_nil) (ss_one (s_ret (se_cb (cr_all rfl) (fun _ => cb_all) T.all (by decide +kernel) (sa_cons (se_lc (own := [("sign", 1)]) rfl (sc_is_letters.nd) (si_str (se_var 0)) (blkOk_by (own := [("sign", 1)]) (show blkC n_is_letters (C8.fnScope s_is_letters) _ [("sign", 1)] = true by decide +kernel)) (sb_name 1 (by decide) fun _ _ _ _ _ => pg_name (i := 1) (sc_is_letters.nd) rfl (Or.inl rfl)) SF.yes (SX.of (fun _ _ _ _ _ => (se_and (sc2 cm_leS cm_leS se_str (se_var 1) se_str) (se_one (sc1 (cm_ne hr.units) (se_cb call_ord (fun _ => cb_ord) T.ord (by decide +kernel) (sa_cons (se_var 1) sa_nil)) (se_glob T.g_BARRED))))) sh H)) sa_nil)))))⟩) (fun ds S Φ _ h => law_is_lettersT ds S Φ h)
theorem c_show_frame (T : Txt K mg) : C8.Cal P w K mg base 1 "show_frame" (spOf K mg 1 sp_show_frame) [] := T.d_show_frame.cal sc_show_frame (fun f cdv A outer sh H E hr => by
      exact ⟨_, (ss_cons (s_if (tc1 (cm_eq hr.units) (se_ix (se_var 0) se_int) se_str) (ss_one (s_ret (se_add (se_add (se_add (se_add se_str (se_ix (se_var 0) se_int)) se_str) (se_cty (call_str_int.or SkE.call_str_str) (fun _ => cb_str) T.str (by decide +kernel) (sa_cons (se_ix (se_var 0) se_int) sa_nil))) se_str))) ss_nil) (ss_cons (s_asg (se_var 0) (sg_tup rfl (sgs_cons (sg_name 1 (sc_show_frame.nd)) (sgs_cons (sg_name 2 (sc_show_frame.nd)) (sgs_cons (sg_name 3 (sc_show_frame.nd)) (sgs_cons (sg_name 4 (sc_show_frame.nd)) (sgs_cons (sg_name 5 (sc_show_frame.nd)) sgs_nil))))))) (ss_cons (s_asg (se_add (se_mulA se_str (se_cty (call_int1.or call_int_str) (fun _ => cb_int) T.int (by decide +kernel) (sa_cons (se_var 4) sa_nil))) (se_mulA se_str (se_cty (call_int1.or call_int_str) (fun _ => cb_int) T.int (by decide +kernel) (sa_cons (se_var 5) sa_nil)))) (sg_name 6 (sc_show_frame.nd))) (ss_one (s_ret (se_add (se_add (se_add (se_add (se_add (se_add (se_add (se_add se_str (se_var 2)) se_str) (se_cty (call_str_int.or SkE.call_str_str) (fun _ => cb_str) T.str (by decide +kernel) (sa_cons (se_cb call_len (fun _ => cb_len) T.len PySem.boot_len (sa_cons (se_var 3) sa_nil)) sa_nil))) se_str) (se_var 6)) se_str) (se_var 3)) se_str))))))⟩) (fun ds S Φ _ h => law_show_frame ds S Φ h)
theorem c_signs_at (T : Txt K mg) : C8.Cal P w K mg base 1 "signs_at" (spOf K mg 4 sp_signs_at) [] := T.d_signs_at.cal sc_signs_at (fun f cdv A outer sh H E hr => by
      exact ⟨_, (ss_cons (s_asg (se_var 1) (sg_name 4 (sc_signs_at.nd))) (ss_cons (s_while PassesOwn.never (SW.st (sw_and (tc1 cm_lt (se_var 4) (se_cb call_len (fun _ => cb_len) T.len PySem.boot_len (sa_cons (se_var 0) sa_nil))) (sw_one1 (tc1 cm_insg (se_ix (se_var 0) (se_var 4)) (se_var 2))))) (ss_one (s_aug' 4 (sc_signs_at.nd) ip_add rfl (.inl rfl) se_int))) (ss_cons (s_if (SW.st (sw_and (tc1 cm_lt (se_var 4) (se_cb call_len (fun _ => cb_len) T.len PySem.boot_len (sa_cons (se_var 0) sa_nil))) (sw_one1 (tc1 (cm_ne hr.units) (se_ix (se_var 0) (se_var 4)) (se_var 3))))) (ss_one s_never) ss_nil) (ss_one (s_ret (se_tup (sa_cons (se_sl (se_var 0) (so_some (se_var 1)) (so_some (se_var 4))) (sa_cons (se_var 4) sa_nil))))))))⟩) (fun ds S Φ _ h => law_signs_at ds S Φ h)
theorem c_is_count (T : Txt K mg) : C8.Cal P w K mg base 1 "is_count" (spOf K mg 2 sp_is_count) [] := T.d_is_count.cal sc_is_count (fun f cdv A outer sh H E hr => by
      exact ⟨_, (ss_cons (s_if (SW.st (sw_or (tc1 (cm_eq hr.units) (se_var 0) se_str) (sw_or (tc1 (cm_eq hr.units) (se_ix (se_var 0) se_int) se_str) (sw_one2 (tc1 cm_gt (se_cb call_len (fun _ => cb_len) T.len PySem.boot_len (sa_cons (se_var 0) sa_nil)) (se_glob T.g_MOST_DIGITS)))))) (ss_one (s_ret se_bl)) ss_nil) (ss_one (s_ret (se_or (se_not (se_var 1)) (se_one (se_and (sc1 cm_lt (se_cb call_len (fun _ => cb_len) T.len PySem.boot_len (sa_cons (se_var 0) sa_nil)) se_int) (se_one (sc1 cm_le (se_cty (call_int1.or call_int_str) (fun _ => cb_int) T.int (by decide +kernel) (sa_cons (se_var 0) sa_nil)) (se_glob T.g_MOST_LETTERS)))))))))⟩) (fun ds S Φ _ h => law_is_count ds S Φ h)
theorem c_data_at (T : Txt K mg) : C8.Cal P w K mg base 2 "data_at" (spOf K mg 4 sp_data_at) [] := T.d_data_at.cal sc_data_at (fun f cdv A outer sh H E hr => by
      have c_is_letters := c_is_letters (P := P) (w := w) (base := base) T; have c_signs_at := c_signs_at (P := P) (w := w) (base := base) T
      exact ⟨_, (ss_cons (s_asg (se_call c_signs_at hr (by omega) (fun _ _ => .nil) (sa_cons (se_var 0) (sa_cons (se_var 1) (sa_cons se_str (sa_cons se_str sa_nil))))) (sg_tup rfl (sgs_cons (sg_name 4 (sc_data_at.nd)) (sgs_cons (sg_name 5 (sc_data_at.nd)) sgs_nil)))) (ss_cons (s_if (tc1 cm_notIn (se_var 4) (se_glob T.g_MARKS)) (ss_one s_never) ss_nil) (ss_cons (s_asg (se_add (se_add (se_var 5) se_int) (se_var 3)) (sg_name 6 (sc_data_at.nd))) (ss_cons (s_asg (se_sl (se_var 0) (so_some (se_add (se_var 5) se_int)) (so_some (se_var 6))) (sg_name 7 (sc_data_at.nd))) (ss_cons (s_if (SW.st (sw_and (tc1 (cm_ne hr.units) (se_var 7) se_str) (sw_one1 (tt_not (tt_val (se_call c_is_letters hr (by omega) (fun _ _ => .nil) (sa_cons (se_var 7) sa_nil))))))) (ss_one s_never) ss_nil) (ss_cons (s_if (tc1 cm_ge (se_var 6) (se_cb call_len (fun _ => cb_len) T.len PySem.boot_len (sa_cons (se_var 0) sa_nil))) (ss_one (s_ret (se_tup (sa_cons se_non (sa_cons (se_var 1) sa_nil))))) ss_nil) (ss_cons (s_if (tc1 (cm_ne hr.units) (se_ix (se_var 0) (se_var 6)) se_str) (ss_one s_never) ss_nil) (ss_one (s_ret (se_tup (sa_cons (se_tup (sa_cons se_str (sa_cons (se_var 2) (sa_cons (se_var 7) (sa_cons (sc1 cm_insg se_str (se_var 4)) (sa_cons (sc1 cm_insg se_str (se_var 4)) sa_nil)))))) (sa_cons (se_add (se_var 6) se_int) sa_nil))))))))))))⟩) (fun ds S Φ _ h => law_data_at ds S Φ h)
theorem c_frame_at (T : Txt K mg) : C8.Cal P w K mg base 3 "frame_at" (spOf K mg 2 sp_frame_at) [] := T.d_frame_at.cal sc_frame_at (fun f cdv A outer sh H E hr => by
      have c_data_at := c_data_at (P := P) (w := w) (base := base) T; have c_is_count := c_is_count (P := P) (w := w) (base := base) T; have c_is_name := c_is_name (P := P) (w := w) (base := base) T; have c_signs_at := c_signs_at (P := P) (w := w) (base := base) T
      exact ⟨_, (ss_cons (s_if (tc1 cm_notInsg (se_ix (se_var 0) (se_var 1)) se_str) (ss_one s_never) ss_nil) (ss_cons (s_asg (sc1 (cm_eq hr.units) (se_ix (se_var 0) (se_var 1)) se_str) (sg_name 2 (sc_frame_at.nd))) (ss_cons (s_asg (se_call c_signs_at hr (by omega) (fun _ _ => .nil) (sa_cons (se_var 0) (sa_cons (se_add (se_var 1) se_int) (sa_cons (se_glob T.g_SMALL) (sa_cons se_str sa_nil))))) (sg_tup rfl (sgs_cons (sg_name 3 (sc_frame_at.nd)) (sgs_cons (sg_name 4 (sc_frame_at.nd)) sgs_nil)))) (ss_cons (s_if (SW.st (sw_and (tt_not (tt_val (se_call c_is_name hr (by omega) (fun _ _ => .nil) (sa_cons (se_var 3) sa_nil)))) (sw_one1 (SW.st (sw_or (tc1 cm_lt (se_var 4) (se_cb call_len (fun _ => cb_len) T.len PySem.boot_len (sa_cons (se_var 0) sa_nil))) (sw_one2 (tc1 (cm_ne hr.units) (se_var 3) se_str))))))) (ss_one s_never) ss_nil) (ss_cons (s_if (tc1 (cm_eq hr.units) (se_var 4) (se_cb call_len (fun _ => cb_len) T.len PySem.boot_len (sa_cons (se_var 0) sa_nil))) (ss_one (s_ret (se_tup (sa_cons se_non (sa_cons (se_var 1) sa_nil))))) ss_nil) (ss_cons (s_asg (se_call c_signs_at hr (by omega) (fun _ _ => .nil) (sa_cons (se_var 0) (sa_cons (se_add (se_var 4) se_int) (sa_cons (se_glob T.g_DIGITS) (sa_cons (se_if (tt_val (se_var 2)) se_str se_str) sa_nil))))) (sg_tup rfl (sgs_cons (sg_name 5 (sc_frame_at.nd)) (sgs_cons (sg_name 4 (sc_frame_at.nd)) sgs_nil)))) (ss_cons (s_if (SW.st (sw_and (tt_not (tt_val (se_call c_is_count hr (by omega) (fun _ _ => .nil) (sa_cons (se_var 5) (sa_cons (se_var 2) sa_nil))))) (sw_one1 (SW.st (sw_or (tc1 cm_lt (se_var 4) (se_cb call_len (fun _ => cb_len) T.len PySem.boot_len (sa_cons (se_var 0) sa_nil))) (sw_one2 (tc1 (cm_ne hr.units) (se_var 5) se_str))))))) (ss_one s_never) ss_nil) (ss_cons (s_if (tc1 (cm_eq hr.units) (se_var 4) (se_cb call_len (fun _ => cb_len) T.len PySem.boot_len (sa_cons (se_var 0) sa_nil))) (ss_one (s_ret (se_tup (sa_cons se_non (sa_cons (se_var 1) sa_nil))))) ss_nil) (ss_cons (s_if (tt_val (se_var 2)) (ss_one (s_ret (se_call c_data_at hr (by omega) (fun _ _ => .nil) (sa_cons (se_var 0) (sa_cons (se_add (se_var 4) se_int) (sa_cons (se_var 3) (sa_cons (se_cty (call_int1.or call_int_str) (fun _ => cb_int) T.int (by decide +kernel) (sa_cons (se_var 5) sa_nil)) sa_nil))))))) ss_nil) (ss_one (s_ret (se_tup (sa_cons (se_tup (sa_cons se_str (sa_cons (se_var 3) (sa_cons (se_cty (call_int1.or call_int_str) (fun _ => cb_int) T.int (by decide +kernel) (sa_cons (se_var 5) sa_nil)) sa_nil)))) (sa_cons (se_add (se_var 4) se_int) sa_nil))))))))))))))⟩) (fun ds S Φ _ h => law_frame_at ds S Φ h)
theorem c_read_frames (T : Txt K mg) : C8.Cal P w K mg base 4 "read_frames" (spOf K mg 1 sp_read_frames) [] := T.d_read_frames.cal sc_read_frames (fun f cdv A outer sh H E hr => by
      have c_frame_at := c_frame_at (P := P) (w := w) (base := base) T
      exact ⟨_, (ss_cons (s_if (tt_not (tt_val (se_isB (T := "str") T.ib_Rule_str T.isinstance T.str (by decide) (by decide +kernel) (se_var 0)))) (ss_one s_never) ss_nil) (ss_cons (s_par' 1 2 rfl (sc_read_frames.nd) rfl rfl (by decide) rfl rfl (sa_cons (se_lstM sa_nil) (sa_cons se_int sa_nil)) rfl) (ss_cons (s_while PassesOwn.never (tc1 cm_lt (se_var 2) (se_cb call_len (fun _ => cb_len) T.len PySem.boot_len (sa_cons (se_var 0) sa_nil))) (ss_cons (s_asg (se_call c_frame_at hr (by omega) (fun _ _ => .nil) (sa_cons (se_var 0) (sa_cons (se_var 2) sa_nil))) (sg_tup rfl (sgs_cons (sg_name 3 (sc_read_frames.nd)) (sgs_cons (sg_name 4 (sc_read_frames.nd)) sgs_nil)))) (ss_cons (s_if (tc1 cm_isN (se_var 3) se_non) (ss_one (s_ret (se_tup (sa_cons (se_var 1) (sa_cons (se_sl (se_var 0) (so_some (se_var 2)) so_none) sa_nil))))) ss_nil) (ss_cons (s_expr (se_app' (se_var 1) (se_var 3))) (ss_one (s_asg (se_var 4) (sg_name 2 (sc_read_frames.nd)))))))) (ss_one (s_ret (se_tup (sa_cons (se_var 1) (sa_cons se_str sa_nil))))))))⟩) (fun ds S Φ _ h => law_read_frames ds S Φ h)
theorem c_q_bag (T : Txt K mg) : C8.Cal P w K mg base 1 "_law_bag" (spOf K mg 1 sp_q_bag) [] := T.d_q_bag.calN sc_q_bag (fun f cdv A outer sh H E hr => by
      exact ⟨_, (ss_one (s_ret (se_lstM (sa_cons se_int (sa_cons se_int (sa_cons se_int (sa_cons (se_lc (own := [("_law_cell", 1)]) rfl (sc_q_bag.nd) (si_list (se_sl (se_var 0) so_none (so_some se_int))) (blkOk_by (own := [("_law_cell", 1)]) (show blkC n_q_bag (C8.fnScope s_q_bag) _ [("_law_cell", 1)] = true by decide +kernel)) (sb_name 1 (by decide) fun _ _ _ _ _ => pg_name (i := 1) (sc_q_bag.nd) rfl (Or.inl rfl)) SF.yes (SX.of (fun _ _ _ _ _ => (se_cb call_abs (fun _ => cb_abs) T.abs (by decide +kernel) (sa_cons (se_var 1) sa_nil))) sh H)) sa_nil)))))))⟩) (fun ds S Φ _ h => law_q_bag ds S Φ h)
theorem c_q_take (T : Txt K mg) : C8.Cal P w K mg base 1 "_law_take" (spOf K mg 2 sp_q_take) [] := T.d_q_take.calB sc_q_take (fun f cdv A outer sh H E hr => by
      exact ⟨_, (ss_cons (s_if (tc1 (cm_eq hr.units) (se_ix (se_var 0) se_int) se_int) (ss_cons (s_asg se_int (sg_name 2 (sc_q_take.nd))) (ss_cons (s_if (tc1 cm_lt (se_ix (se_var 0) se_int) (se_cb call_len (fun _ => cb_len) T.len PySem.boot_len (sa_cons (se_ix (se_var 0) se_int) sa_nil))) (ss_one (s_asg (se_ix (se_ix (se_var 0) se_int) (se_ix (se_var 0) se_int)) (sg_name 2 (sc_q_take.nd)))) ss_nil) (ss_cons (s_augL' ip_add (se_var 0) se_int se_int) (ss_cons (s_if (tc1 cm_ge (se_var 2) se_int) (ss_one (s_asg (se_var 2) (sg_subL (se_var 0) se_int))) ss_nil) (ss_cons (s_asg (se_add (se_add (se_mulA (se_ix (se_var 0) se_int) se_int) (se_mod (se_cty (call_int1.or call_int_str) (fun _ => cb_int) T.int (by decide +kernel) (sa_cons (se_var 2) sa_nil)) se_int)) (se_mulA se_int (se_ix (se_var 0) se_int))) (sg_name 3 (sc_q_take.nd))) (ss_one (s_asg (se_mod (se_cty (call_int1.or call_int_str) (fun _ => cb_int) T.int (by decide +kernel) (sa_cons (se_var 3) sa_nil)) se_int) (sg_subL (se_var 0) se_int)))))))) ss_nil) (ss_cons (s_if (tc1 cm_gt (se_ix (se_var 0) se_int) se_int) (ss_cons (s_asg (se_mod (se_cty (call_int1.or call_int_str) (fun _ => cb_int) T.int (by decide +kernel) (sa_cons (se_ix (se_var 0) se_int) sa_nil)) (se_var 1)) (sg_name 4 (sc_q_take.nd))) (ss_cons (s_asg (se_div (se_ix (se_var 0) se_int) (se_var 1)) (sg_subL (se_var 0) se_int)) (ss_one (s_ret (se_var 4))))) ss_nil) (ss_cons (s_asg (se_mod (se_cty (call_int1.or call_int_str) (fun _ => cb_int) T.int (by decide +kernel) (sa_cons (se_mulA (se_add (se_ix (se_var 0) se_int) se_int) se_int) sa_nil)) se_int) (sg_name 5 (sc_q_take.nd))) (ss_cons (s_asg (se_mod (se_cty (call_int1.or call_int_str) (fun _ => cb_int) T.int (by decide +kernel) (sa_cons (se_mulA (se_mod (se_cty (call_int1.or call_int_str) (fun _ => cb_int) T.int (by decide +kernel) (sa_cons (se_mulA (se_var 5) (se_var 5)) sa_nil)) se_int) se_int) sa_nil)) se_int) (sg_name 6 (sc_q_take.nd))) (ss_cons (s_if (tc1 cm_gt (se_var 1) se_int) (ss_one (s_ret (se_mod (se_cty (call_int1.or call_int_str) (fun _ => cb_int) T.int (by decide +kernel) (sa_cons (se_add (se_mulA (se_var 6) se_int) (se_var 5)) sa_nil)) (se_var 1)))) ss_nil) (ss_one (s_ret (se_mod (se_cty (call_int1.or call_int_str) (fun _ => cb_int) T.int (by decide +kernel) (sa_cons (se_div (se_var 6) se_int) sa_nil)) (se_var 1)))))))))⟩) (fun ds S Φ _ h => law_q_take ds S Φ h)
theorem c_q_alikeH (T : Txt K mg) : CalG P w K mg base 1 "_law_alike" (spOf K mg 2 sp_q_alikeH) [] := T.d_q_alikeH.calG sc_q_alikeH (fun f cdv A outer sh H E hg hr => by
      exact ⟨_, (ss_one (s_ret (se_and (sc1 (cm_eqH hr.units) (se_var 0) (se_var 1)) (se_one (sc1 (cm_eq hr.units) (se_cb (call_repr hg hr) (fun _ => cb_reprH) T.repr (by decide +kernel) (sa_cons (se_var 0) sa_nil)) (se_cb (call_repr hg hr) (fun _ => cb_reprH) T.repr (by decide +kernel) (sa_cons (se_var 1) sa_nil)))))))⟩) (fun ds S Φ _ h => law_q_alikeH ds S Φ h)
theorem c_q_draw_letters (T : Txt K mg) : C8.Cal P w K mg base 2 "_law_draw_letters" (spOf K mg 2 sp_q_draw_letters) [] := T.d_q_draw_letters.cal sc_q_draw_letters (fun f cdv A outer sh H E hr => by
      have c_q_take := c_q_take (P := P) (w := w) (base := base) T
      exact ⟨_, (ss_cons (s_asg se_str (sg_name 2 (sc_q_draw_letters.nd))) (ss_cons (s_if (tc1 (cm_eq hr.units) (se_call c_q_take hr (by omega) (fun _ _ => .nil) (sa_cons (se_var 0) (sa_cons se_int sa_nil))) se_int) (ss_cons (s_asg se_str (sg_name 2 (sc_q_draw_letters.nd))) (ss_one (s_asg (se_add (se_var 2) se_str) (sg_name 2 (sc_q_draw_letters.nd))))) ss_nil) (ss_one (s_ret (se_join se_str (se_lc (own := [("_law_k", 3)]) rfl (sc_q_draw_letters.nd) (si_rng1 T.range (sa_cons (se_var 1) sa_nil)) (blkOk_by (own := [("_law_k", 3)]) (show blkC n_q_draw_letters (C8.fnScope s_q_draw_letters) _ [("_law_k", 3)] = true by decide +kernel)) (sb_name 3 (by decide) fun _ _ _ _ _ => pg_name (i := 3) (sc_q_draw_letters.nd) rfl (Or.inl rfl)) SF.yes (SX.of (fun _ _ _ _ _ => (se_ix (se_var 2) (se_call c_q_take hr (by omega) (fun _ _ => .nil) (sa_cons (se_var 0) (sa_cons (se_cb call_len (fun _ => cb_len) T.len PySem.boot_len (sa_cons (se_var 2) sa_nil)) sa_nil))))) sh H)))))))⟩) (fun ds S Φ _ h => law_q_draw_letters ds S Φ h)
theorem c_q_draw_word (T : Txt K mg) : C8.Cal P w K mg base 2 "_law_draw_word" (spOf K mg 1 sp_q_draw_word) [] := T.d_q_draw_word.cal sc_q_draw_word (fun f cdv A outer sh H E hr => by
      have c_q_take := c_q_take (P := P) (w := w) (base := base) T
      exact ⟨_, (ss_cons (s_asg se_str (sg_name 1 (sc_q_draw_word.nd))) (ss_cons (s_asg (se_join se_str (se_lc (own := [("_law_k", 3)]) rfl (sc_q_draw_word.nd) (si_rng1 T.range (sa_cons (se_add se_int (se_call c_q_take hr (by omega) (fun _ _ => .nil) (sa_cons (se_var 0) (sa_cons se_int sa_nil)))) sa_nil)) (blkOk_by (own := [("_law_k", 3)]) (show blkC n_q_draw_word (C8.fnScope s_q_draw_word) _ [("_law_k", 3)] = true by decide +kernel)) (sb_name 3 (by decide) fun _ _ _ _ _ => pg_name (i := 3) (sc_q_draw_word.nd) rfl (Or.inl rfl)) SF.yes (SX.of (fun _ _ _ _ _ => (se_ix (se_var 1) (se_call c_q_take hr (by omega) (fun _ _ => .nil) (sa_cons (se_var 0) (sa_cons se_int sa_nil))))) sh H))) (sg_name 2 (sc_q_draw_word.nd))) (ss_one (s_ret (se_ix (se_lst (sa_cons (se_var 2) (sa_cons (se_var 2) (sa_cons se_str (sa_cons se_str sa_nil))))) (se_call c_q_take hr (by omega) (fun _ _ => .nil) (sa_cons (se_var 0) (sa_cons se_int sa_nil))))))))⟩) (fun ds S Φ _ h => law_q_draw_word ds S Φ h)
theorem c_q_draw_number (T : Txt K mg) : C8.Cal P w K mg base 2 "_law_draw_number" (spOf K mg 1 sp_q_draw_number) [] := T.d_q_draw_number.cal sc_q_draw_number (fun f cdv A outer sh H E hr => by
      have c_q_take := c_q_take (P := P) (w := w) (base := base) T
      exact ⟨_, (ss_cons (s_asg (se_cty (call_int1.or call_int_str) (fun _ => cb_int) T.int (by decide +kernel) (sa_cons (se_add se_str (se_mulA se_str (se_call c_q_take hr (by omega) (fun _ _ => .nil) (sa_cons (se_var 0) (sa_cons se_int sa_nil))))) sa_nil)) (sg_name 1 (sc_q_draw_number.nd))) (ss_one (s_ret (se_ix (se_lst (sa_cons (se_add se_int (se_call c_q_take hr (by omega) (fun _ _ => .nil) (sa_cons (se_var 0) (sa_cons se_int sa_nil)))) (sa_cons (se_var 1) (sa_cons (se_sub (se_mulA (se_var 1) se_int) se_int) sa_nil)))) (se_call c_q_take hr (by omega) (fun _ _ => .nil) (sa_cons (se_var 0) (sa_cons se_int sa_nil)))))))⟩) (fun ds S Φ _ h => law_q_draw_number ds S Φ h)
theorem c_q_draw_frame (T : Txt K mg) : C8.Cal P w K mg base 3 "_law_draw_frame" (spOf K mg 1 sp_q_draw_frame) [] := T.d_q_draw_frame.cal sc_q_draw_frame (fun f cdv A outer sh H E hr => by
      have c_q_draw_letters := c_q_draw_letters (P := P) (w := w) (base := base) T; have c_q_draw_number := c_q_draw_number (P := P) (w := w) (base := base) T; have c_q_draw_word := c_q_draw_word (P := P) (w := w) (base := base) T; have c_q_take := c_q_take (P := P) (w := w) (base := base) T
      exact ⟨_, (ss_cons (s_if (tc1 (cm_eq hr.units) (se_call c_q_take hr (by omega) (fun _ _ => .nil) (sa_cons (se_var 0) (sa_cons se_int sa_nil))) se_int) (ss_one (s_ret (se_tup (sa_cons se_str (sa_cons (se_call c_q_draw_word hr (by omega) (fun _ _ => .nil) (sa_cons (se_var 0) sa_nil)) (sa_cons (se_call c_q_draw_number hr (by omega) (fun _ _ => .nil) (sa_cons (se_var 0) sa_nil)) sa_nil)))))) ss_nil) (ss_cons (s_asg (se_ix (se_lst (sa_cons se_int (sa_cons (se_add se_int (se_call c_q_take hr (by omega) (fun _ _ => .nil) (sa_cons (se_var 0) (sa_cons se_int sa_nil)))) (sa_cons (se_add se_int (se_call c_q_take hr (by omega) (fun _ _ => .nil) (sa_cons (se_var 0) (sa_cons se_int sa_nil)))) (sa_cons se_int sa_nil))))) (se_call c_q_take hr (by omega) (fun _ _ => .nil) (sa_cons (se_var 0) (sa_cons se_int sa_nil)))) (sg_name 1 (sc_q_draw_frame.nd))) (ss_one (s_ret (se_tup (sa_cons se_str (sa_cons (se_call c_q_draw_word hr (by omega) (fun _ _ => .nil) (sa_cons (se_var 0) sa_nil)) (sa_cons (se_call c_q_draw_letters hr (by omega) (fun _ _ => .nil) (sa_cons (se_var 0) (sa_cons (se_var 1) sa_nil))) (sa_cons (sc1 (cm_eq hr.units) (se_call c_q_take hr (by omega) (fun _ _ => .nil) (sa_cons (se_var 0) (sa_cons se_int sa_nil))) se_int) (sa_cons (sc1 (cm_eq hr.units) (se_call c_q_take hr (by omega) (fun _ _ => .nil) (sa_cons (se_var 0) (sa_cons se_int sa_nil))) se_int) sa_nil))))))))))⟩) (fun ds S Φ _ h => law_q_draw_frame ds S Φ h)
theorem c_q_ftext (T : Txt K mg) : C8.Cal P w K mg base 1 "_law_text" (spOf K mg 1 sp_show_frame) [] := T.d_q_ftext.cal sc_q_ftext (fun f cdv A outer sh H E hr => by
      exact ⟨_, (ss_cons (s_if (tc1 (cm_eq hr.units) (se_ix (se_var 0) se_int) se_str) (ss_one (s_ret (se_add (se_add (se_add (se_add se_str (se_ix (se_var 0) se_int)) se_str) (se_cty (call_str_int.or SkE.call_str_str) (fun _ => cb_str) T.str (by decide +kernel) (sa_cons (se_ix (se_var 0) se_int) sa_nil))) se_str))) ss_nil) (ss_cons (s_asg (se_add (se_ix (se_lst (sa_cons se_str (sa_cons se_str sa_nil))) (se_cty (call_int1.or call_int_str) (fun _ => cb_int) T.int (by decide +kernel) (sa_cons (se_ix (se_var 0) se_int) sa_nil))) (se_ix (se_lst (sa_cons se_str (sa_cons se_str sa_nil))) (se_cty (call_int1.or call_int_str) (fun _ => cb_int) T.int (by decide +kernel) (sa_cons (se_ix (se_var 0) se_int) sa_nil)))) (sg_name 1 (sc_q_ftext.nd))) (ss_one (s_ret (se_add (se_add (se_add (se_add (se_add (se_add (se_add (se_add se_str (se_ix (se_var 0) se_int)) se_str) (se_cty (call_str_int.or SkE.call_str_str) (fun _ => cb_str) T.str (by decide +kernel) (sa_cons (se_cb call_len (fun _ => cb_len) T.len PySem.boot_len (sa_cons (se_ix (se_var 0) se_int) sa_nil)) sa_nil))) se_str) (se_var 1)) se_str) (se_ix (se_var 0) se_int)) se_str)))))⟩) (fun ds S Φ _ h => law_q_ftext ds S Φ h)
theorem b_law (T : Txt K mg) : BdG P w K mg base 4 n_law "law" s_law w_law := fun f cdv A outer sh H E hg hr => by
      have c_q_alikeH := c_q_alikeH (P := P) (w := w) (base := base) T; have c_q_bag := c_q_bag (P := P) (w := w) (base := base) T; have c_q_draw_frame := c_q_draw_frame (P := P) (w := w) (base := base) T; have c_q_ftext := c_q_ftext (P := P) (w := w) (base := base) T; have c_q_take := c_q_take (P := P) (w := w) (base := base) T; have c_read_frames := c_read_frames (P := P) (w := w) (base := base) T; have c_show_frame := c_show_frame (P := P) (w := w) (base := base) T
      exact ⟨_, (ss_cons (s_asg (se_call c_q_bag hr (by omega) (fun _ _ => .nil) (sa_cons (se_var 0) sa_nil)) (sg_name 1 (sc_law.nd))) (ss_cons (s_for PassesOwn.never rfl (si_rng1 T.range (sa_cons se_int sa_nil)) (sg_name 2 (sc_law.nd)) (ss_cons (s_setLc 3 (own := [("_law_k", 4)]) rfl (sc_law.nd) (si_rng1 T.range (sa_cons (se_call c_q_take hr (by omega) (fun _ _ => .nil) (sa_cons (se_var 1) (sa_cons se_int sa_nil))) sa_nil)) (blkOk_by (own := [("_law_k", 4)]) (show blkC n_law (C8.fnScope s_law) _ [("_law_k", 4)] = true by decide +kernel)) (sb_name 4 (by decide) fun _ _ _ _ _ => pg_name (i := 4) (sc_law.nd) rfl (Or.inl rfl)) SF.yes (SX.of (fun _ _ _ _ _ => (se_call c_q_draw_frame hr (by omega) (fun _ _ => .nil) (sa_cons (se_var 1) sa_nil))) sh H) (sw_true rfl rfl rfl (by decide +kernel))) (ss_cons (s_par' 5 6 rfl (sc_law.nd) rfl rfl (by decide) rfl rfl (sa_cons (se_lc (own := [("_law_frame", 7)]) rfl (sc_law.nd) (si_list (se_var 3)) (blkOk_by (own := [("_law_frame", 7)]) (show blkC n_law (C8.fnScope s_law) _ [("_law_frame", 7)] = true by decide +kernel)) (sb_name 7 (by decide) fun _ _ _ _ _ => pg_name (i := 7) (sc_law.nd) rfl (Or.inl rfl)) SF.yes (SX.of (fun _ _ _ _ _ => (se_call c_q_ftext hr (by omega) (fun _ _ => .nil) (sa_cons (se_var 7) sa_nil))) sh H)) (sa_cons (se_call c_q_ftext hr (by omega) (fun _ _ => .nil) (sa_cons (se_call c_q_draw_frame hr (by omega) (fun _ _ => .nil) (sa_cons (se_var 1) sa_nil)) sa_nil)) sa_nil)) rfl) (ss_cons (s_if (tt_not (tt_val (se_callG c_q_alikeH hg hr (by omega) (fun _ _ => .nil) (sa_cons (se_lc (own := [("_law_frame", 7)]) rfl (sc_law.nd) (si_list (se_var 3)) (blkOk_by (own := [("_law_frame", 7)]) (show blkC n_law (C8.fnScope s_law) _ [("_law_frame", 7)] = true by decide +kernel)) (sb_name 7 (by decide) fun _ _ _ _ _ => pg_name (i := 7) (sc_law.nd) rfl (Or.inl rfl)) SF.yes (SX.of (fun _ _ _ _ _ => (se_call c_show_frame hr (by omega) (fun _ _ => .nil) (sa_cons (se_var 7) sa_nil))) sh H)) (sa_cons (se_var 5) sa_nil))))) (ss_one (s_ret se_bl)) ss_nil) (ss_cons (s_asg (se_sl (se_var 6) so_none (so_some (se_call c_q_take hr (by omega) (fun _ _ => .nil) (sa_cons (se_var 1) (sa_cons (se_cb call_len (fun _ => cb_len) T.len PySem.boot_len (sa_cons (se_var 6) sa_nil)) sa_nil))))) (sg_name 8 (sc_law.nd))) (ss_one (s_for PassesOwn.never rfl (si_rng1 T.range (sa_cons se_int sa_nil)) (sg_name 9 (sc_law.nd)) (ss_cons (s_asg (se_call c_read_frames hr (by omega) (fun _ _ => .nil) (sa_cons (se_add (se_join se_str (se_var 5)) (se_var 8)) sa_nil)) (sg_name 10 (sc_law.nd))) (ss_cons (s_if (tt_not (tt_val (se_callG c_q_alikeH hg hr (by omega) (fun _ _ => .nil) (sa_cons (se_var 10) (sa_cons (se_tup (sa_cons (se_var 3) (sa_cons (se_var 8) sa_nil))) sa_nil))))) (ss_one (s_ret se_bl)) ss_nil) (ss_one (s_expr (se_app' (se_ix (se_var 10) se_int) se_non)))))))))))) (ss_cons (s_if (tt_not (tt_val (se_callG c_q_alikeH hg hr (by omega) (fun _ _ => .nil) (sa_cons (se_call c_read_frames hr (by omega) (fun _ _ => .nil) (sa_cons (se_mulA se_str se_int) sa_nil)) (sa_cons (se_tup (sa_cons (se_mulA (se_lst (sa_cons (se_tup (sa_cons se_str (sa_cons se_str (sa_cons se_int sa_nil)))) sa_nil)) se_int) (sa_cons se_str sa_nil))) sa_nil))))) (ss_one (s_ret se_bl)) ss_nil) (ss_one (s_ret (se_callG c_q_alikeH hg hr (by omega) (fun _ _ => .nil) (sa_cons (se_call c_read_frames hr (by omega) (fun _ _ => .nil) (sa_cons se_str sa_nil)) (sa_cons (se_tup (sa_cons (se_lst sa_nil) (sa_cons se_str sa_nil))) sa_nil))))))))⟩
end
theorem end_law {l : PySem.W.OpenLaw} {q : Program} {loose : List Str} {XP : (Str → Option Value) → Heap → Prop} {YP : World → Heap → Prop} {d : DefRec} {K : Params → PySem.W.Frag} (hn : l.most = some 63) (hdf : d.params.defaults = []) (hx : d.name = "law") (hY : ∀ (w : World) (h : Heap), YP w h → (K w.params).In h)
    (F : ∀ (w : World) (mg : Str → Option Value) (h : Heap), (K w.params).In h → h.Ns mainGlobals mg → Txt (K w.params) mg) :
    PySem.W.WalkO q loose XP YP l.row.toRowW d [] (fun f vs => PySem.call f vs) :=
  end_walk (T := Txt) hn (by decide) hdf hx ⟨rfl, by decide, by decide⟩ hY sc_law (fun _ _ t => t.d_law) (fun _ _ _ _ _ t => b_law t) law_law F
end Sq
open PySem PySem.W PyProof.Rows in
set_option maxRecDepth 100000 in
set_option maxHeartbeats 0 in
theorem PySem.Challenge.cw_sharedpipe_k40_frames_shown_and_read_holds : PySem.Challenge.rw_sharedpipe_k40_frames_shown_and_read.Holds := by
  w_on; o_law; k_head; (case hw => w_witness2)
  k_fill
  refine Sq.end_law (l := PySem.Challenge.rw_sharedpipe_k40_frames_shown_and_read) rfl rfl rfl (fun w h Y => PySem.W.kIn_of Y) ?F
  case F =>
    intro w mg h KX G
    refine' Sq.Txt.mk ?f_d_is_name ?f_d_is_letters ?f_d_show_frame ?f_d_signs_at ?f_d_is_count ?f_d_data_at ?f_d_frame_at ?f_d_read_frames ?f_d_q_bag ?f_d_q_take ?f_d_q_alikeH ?f_d_q_draw_letters ?f_d_q_draw_word ?f_d_q_draw_number ?f_d_q_draw_frame ?f_d_q_ftext ?f_d_law ?f_abs ?f_all ?f_g_BARRED ?f_g_DIGITS ?f_g_MARKS ?f_g_MOST_DIGITS ?f_g_MOST_LETTERS ?f_g_MOST_NAME ?f_g_SMALL ?f_ib_Rule_str ?f_int ?f_isinstance ?f_len ?f_ord ?f_range ?f_repr ?f_str
    case f_d_is_name =>
      refine' Sq.DD.of KX G ?a ?l ?c ?k (fun _ _ _ _ _ _ us hl => match us, hl with | [_], _ => rfl)
      (case a => k_is)
      (case l => k_is)
      (case c => k_is)
      (case k => k_is)
    case f_d_is_letters =>
      refine' Sq.DD.of KX G ?a ?l ?c ?k (fun _ _ _ _ _ _ us hl => match us, hl with | [_], _ => rfl)
      (case a => k_is)
      (case l => k_is)
      (case c => k_is)
      (case k => k_is)
    case f_d_show_frame =>
      refine' Sq.DD.of KX G ?a ?l ?c ?k (fun _ _ _ _ _ _ us hl => match us, hl with | [_], _ => rfl)
      (case a => k_is)
      (case l => k_is)
      (case c => k_is)
      (case k => k_is)
    case f_d_signs_at =>
      refine' Sq.DD.of KX G ?a ?l ?c ?k (fun _ _ _ _ _ _ us hl => match us, hl with | [_, _, _, _], _ => rfl)
      (case a => k_is)
      (case l => k_is)
      (case c => k_is)
      (case k => k_is)
    case f_d_is_count =>
      refine' Sq.DD.of KX G ?a ?l ?c ?k (fun _ _ _ _ _ _ us hl => match us, hl with | [_, _], _ => rfl)
      (case a => k_is)
      (case l => k_is)
      (case c => k_is)
      (case k => k_is)
    case f_d_data_at =>
      refine' Sq.DD.of KX G ?a ?l ?c ?k (fun _ _ _ _ _ _ us hl => match us, hl with | [_, _, _, _], _ => rfl)
      (case a => k_is)
      (case l => k_is)
      (case c => k_is)
      (case k => k_is)
    case f_d_frame_at =>
      refine' Sq.DD.of KX G ?a ?l ?c ?k (fun _ _ _ _ _ _ us hl => match us, hl with | [_, _], _ => rfl)
      (case a => k_is)
      (case l => k_is)
      (case c => k_is)
      (case k => k_is)
    case f_d_read_frames =>
      refine' Sq.DD.of KX G ?a ?l ?c ?k (fun _ _ _ _ _ _ us hl => match us, hl with | [_], _ => rfl)
      (case a => k_is)
      (case l => k_is)
      (case c => k_is)
      (case k => k_is)
    case f_d_q_bag =>
      refine' Sq.DD.of KX G ?a ?l ?c ?k (fun _ _ _ _ _ _ us hl => match us, hl with | [_], _ => rfl)
      (case a => k_is)
      (case l => k_is)
      (case c => k_is)
      (case k => k_is)
    case f_d_q_take =>
      refine' Sq.DD.of KX G ?a ?l ?c ?k (fun _ _ _ _ _ _ us hl => match us, hl with | [_, _], _ => rfl)
      (case a => k_is)
      (case l => k_is)
      (case c => k_is)
      (case k => k_is)
    case f_d_q_alikeH =>
      refine' Sq.DD.of KX G ?a ?l ?c ?k (fun _ _ _ _ _ _ us hl => match us, hl with | [_, _], _ => rfl)
      (case a => k_is)
      (case l => k_is)
      (case c => k_is)
      (case k => k_is)
    case f_d_q_draw_letters =>
      refine' Sq.DD.of KX G ?a ?l ?c ?k (fun _ _ _ _ _ _ us hl => match us, hl with | [_, _], _ => rfl)
      (case a => k_is)
      (case l => k_is)
      (case c => k_is)
      (case k => k_is)
    case f_d_q_draw_word =>
      refine' Sq.DD.of KX G ?a ?l ?c ?k (fun _ _ _ _ _ _ us hl => match us, hl with | [_], _ => rfl)
      (case a => k_is)
      (case l => k_is)
      (case c => k_is)
      (case k => k_is)
    case f_d_q_draw_number =>
      refine' Sq.DD.of KX G ?a ?l ?c ?k (fun _ _ _ _ _ _ us hl => match us, hl with | [_], _ => rfl)
      (case a => k_is)
      (case l => k_is)
      (case c => k_is)
      (case k => k_is)
    case f_d_q_draw_frame =>
      refine' Sq.DD.of KX G ?a ?l ?c ?k (fun _ _ _ _ _ _ us hl => match us, hl with | [_], _ => rfl)
      (case a => k_is)
      (case l => k_is)
      (case c => k_is)
      (case k => k_is)
    case f_d_q_ftext =>
      refine' Sq.DD.of KX G ?a ?l ?c ?k (fun _ _ _ _ _ _ us hl => match us, hl with | [_], _ => rfl)
      (case a => k_is)
      (case l => k_is)
      (case c => k_is)
      (case k => k_is)
    case f_d_law =>
      refine' Sq.DL.of KX G ?a ?l ?c ?k (fun _ _ _ _ _ _ us hl => match us, hl with | [_], _ => rfl)
      (case a => k_is)
      (case l => k_is)
      (case c => k_is)
      (case k => k_is)
    case f_abs =>
      refine' PySem.W.mg_none_of KX G ?a
      (case a => k_is)
    case f_all =>
      refine' PySem.W.mg_none_of KX G ?a
      (case a => k_is)
    case f_g_BARRED =>
      refine' Sq.GK.int KX G ?a
      (case a => k_is)
    case f_g_DIGITS =>
      refine' Sq.GK.str KX G ?a
      (case a => k_is)
    case f_g_MARKS =>
      refine' Sq.GK.tup ["", "w", "e", "we"] KX G ?a ?t ?oc ?ot ?hz ?r
      (case a => k_is)
      (case t => k_is)
      (case oc => rfl)
      (case ot => rfl)
      (case hz => decide)
      (case r => exact (.cons ⟨_, rfl⟩ (.cons ⟨_, rfl⟩ (.cons ⟨_, rfl⟩ (.cons ⟨_, rfl⟩ (.nil))))))
    case f_g_MOST_DIGITS =>
      refine' Sq.GK.int KX G ?a
      (case a => k_is)
    case f_g_MOST_LETTERS =>
      refine' Sq.GK.int KX G ?a
      (case a => k_is)
    case f_g_MOST_NAME =>
      refine' Sq.GK.int KX G ?a
      (case a => k_is)
    case f_g_SMALL =>
      refine' Sq.GK.str KX G ?a
      (case a => k_is)
    case f_ib_Rule_str =>
      refine' Sq.KIB.none (PySem.W.mg_none_of KX G ?a)
      (case a => k_is)
    case f_int =>
      refine' PySem.W.mg_none_of KX G ?a
      (case a => k_is)
    case f_isinstance =>
      refine' PySem.W.mg_none_of KX G ?a
      (case a => k_is)
    case f_len =>
      refine' PySem.W.mg_none_of KX G ?a
      (case a => k_is)
    case f_ord =>
      refine' PySem.W.mg_none_of KX G ?a
      (case a => k_is)
    case f_range =>
      refine' PySem.W.mg_none_of KX G ?a
      (case a => k_is)
    case f_repr =>
      refine' PySem.W.mg_none_of KX G ?a
      (case a => k_is)
    case f_str =>
      refine' PySem.W.mg_none_of KX G ?a
      (case a => k_is)
#print axioms PySem.Challenge.cw_sharedpipe_k40_frames_shown_and_read_holds
