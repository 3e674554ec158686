import PyProof.Rows.All
import Wide.All
import OpenK.AllK
import Wide.FinOn
import HandS.ForMost
import HandS.Wide
import HandS.Flow
import HandS.IsInst
import HandS.Exc
import HandS.TryOnly
import HandS.ExcOwn
import HandS.CallSlots
import HandS.Codes
import HandS.Records
import HandS.Dict
import HandS.Star
import HandS.Property
import HandS.More
import PyProof.StrOps2
import PyProof.StrBlock2
import PyProof.ReprRoads
import HandS.Defaults
import PyProof.ReprLen
import HandS.Style
import HandS.SetBool
import HandS.Strs
import HandS.Conv
import HandS.Iter
import PyProof.LongRange
import PyProof.ListRange
import PyProof.InstEq
import KE.KExcSuper
import HandS.ExcInit
import HandS.Small
import HandS.ExcField
import KE.KExcIs
import KE.KWithOwn
import HandS.NoneIn
import KE.KOpsOwn
import PyProof.Rows.Range3
import PyProof.Conv_bool
import PySem.Challenge.RW_sharedpipe_k21_accounts_compared
set_option Elab.async false
set_option maxRecDepth 100000
set_option maxHeartbeats 4000000
set_option linter.all false
namespace Sq
open PySem L2
def xho (a : Addr) (oe : Obj) : HO := .ext fun h => h.get? a = some oe
inductive D where
  | non | bl (b : Bool) | int (i : Int) | str (s : Str)
  | tup (ds : List D) | lst (ds : List D) | dct (kvs : List (Key × D))
  | ins (c : Str) (fs : List (Str × D)) | h (n : Nat) | scr (ns : List Int) | exc (c : Str) (fs : List (Str × D)) | fn (x : Str)
inductive M where
  | frz (d : D) | bag | lst (ds : List D) | dct (kvs : List (Key × D)) | ins (c : Str) (fs : List (Str × D)) | lck (o : HO) (kvs : List (Key × D))
abbrev Ro := List (Option D)
abbrev Sto := List M
section
variable (K : PySem.W.Frag) (mg : Str → Option Value)
mutual
inductive Rp (I : Hp) (μ : List Addr) : V → D → Prop
  | non : Rp I μ .non .non
  | bl {b : Bool} : Rp I μ (.bl b) (.bl b)
  | int {i : Int} : Rp I μ (.int i) (.int i)
  | str {s : Str} : Rp I μ (.str s) (.str s)
  | tup {a : Addr} {vs : List V} {ds : List D} : SqT K I a vs → RpL I μ vs ds → Rp I μ (.ref a) (.tup ds)
  | lst {a : Addr} {vs : List V} {ds : List D} : I a = some (.lst vs) → RpL I μ vs ds → Rp I μ (.ref a) (.lst ds)
  | dct {a : Addr} {o : Obj} {kv : List (Key × V)} {kd : List (Key × D)} : I a = some (.frz o (.dK kv)) → RpK I μ kv kd → Rp I μ (.ref a) (.dct kd)
  | fn {a : Addr} {x : Str} : mg x = some (.ref a) → Rp I μ (.ref a) (.fn x)
  | ins {a C dx : Addr} {c : Str} {fv : List (Str × V)} {fd : List (Str × D)} : mg c = some (.ref C) → I a = some (.ins C dx fv) → RpF I μ fv fd → Rp I μ (.ref a) (.ins c fd)
  | h {a : Addr} {n : Nat} : μ[n]? = some a → Rp I μ (.ref a) (.h n)
  | scr {a : Addr} {ns : List Int} : SqL K I a (ns.map V.int) → Rp I μ (.ref a) (.scr ns)
  | exc0 {a C : Addr} {c : Str} {oe : Obj} : mg c = some (.ref C) → I a = some (xho a oe) → Zc (.ref C) none oe → (∃ vs, oe.data = .fields vs) → Rp I μ (.ref a) (.exc c [])
  | exc1 {a C dd : Addr} {c : Str} {oe : Obj} {fv : List (Str × V)} {fd : List (Str × D)} : mg c = some (.ref C) → I a = some (xho a oe) → Zc (.ref C) (some dd) oe → (∃ vs, oe.data = .fields vs) → I dd = some (.xd fv) → RpF I μ fv fd → Rp I μ (.ref a) (.exc c fd)
inductive RpL (I : Hp) (μ : List Addr) : List V → List D → Prop
  | nil : RpL I μ [] []
  | cons {v : V} {d : D} {vs : List V} {ds : List D} : Rp I μ v d → RpL I μ vs ds → RpL I μ (v :: vs) (d :: ds)
inductive RpK (I : Hp) (μ : List Addr) : List (Key × V) → List (Key × D) → Prop
  | nil : RpK I μ [] []
  | cons {k : Key} {v : V} {d : D} {vs : List (Key × V)} {ds : List (Key × D)} : Rp I μ v d → RpK I μ vs ds → RpK I μ ((k, v) :: vs) ((k, d) :: ds)
inductive RpF (I : Hp) (μ : List Addr) : List (Str × V) → List (Str × D) → Prop
  | nil : RpF I μ [] []
  | cons {k : Str} {v : V} {d : D} {vs : List (Str × V)} {ds : List (Str × D)} : Rp I μ v d → RpF I μ vs ds → RpF I μ ((k, v) :: vs) ((k, d) :: ds)
end
structure Ext (I : Hp) (μ : List Addr) (I' : Hp) (μ' : List Addr) : Prop where
  hp : Same I I'
  mu : ∀ (n : Nat) (a : Addr), μ[n]? = some a → μ'[n]? = some a
end
theorem Ext.refl {I : Hp} {μ : List Addr} : Ext I μ I μ := ⟨Same.refl I, fun _ _ h => h⟩
theorem Ext.trans {I I1 I2 : Hp} {μ μ1 μ2 : List Addr} (a : Ext I μ I1 μ1) (b : Ext I1 μ1 I2 μ2) : Ext I μ I2 μ2 :=
  ⟨a.hp.trans b.hp, fun n x h => b.mu n x (a.mu n x h)⟩
theorem same_l {K : PySem.W.Frag} {H H' : Hp} {a : Addr} {xs : List V} (e : Same H H') (h : SqL K H a xs) : SqL K H' a xs := e.seq h
theorem same_t {K : PySem.W.Frag} {H H' : Hp} {a : Addr} {xs : List V} (e : Same H H') (h : SqT K H a xs) : SqT K H' a xs := by
  rcases h with (h | ⟨o, h⟩) | h
  · exact .inl (.inl (e _ _ h))
  · exact .inl (.inr ⟨o, e _ _ h⟩)
  · exact .inr h
section
variable {K : PySem.W.Frag} {mg : Str → Option Value} {I I' : Hp} {μ μ' : List Addr}
mutual
theorem Rp.ext (e : Ext I μ I' μ') : ∀ {v : V} {d : D}, Rp K mg I μ v d → Rp K mg I' μ' v d
  | _, _, .non => .non
  | _, _, .bl => .bl
  | _, _, .int => .int
  | _, _, .str => .str
  | _, _, .tup h r => .tup (same_t e.hp h) (RpL.ext e r)
  | _, _, .lst h r => .lst (e.hp _ _ h) (RpL.ext e r)
  | _, _, .dct h r => .dct (e.hp _ _ h) (RpK.ext e r)
  | _, _, .fn m => .fn m
  | _, _, .ins m h r => .ins m (e.hp _ _ h) (RpF.ext e r)
  | _, _, .h q => .h (e.mu _ _ q)
  | _, _, .scr h => .scr (same_l e.hp h)
  | _, _, .exc0 m h z q => .exc0 m (e.hp _ _ h) z q
  | _, _, .exc1 m h z q l r => .exc1 m (e.hp _ _ h) z q (e.hp _ _ l) (RpF.ext e r)
theorem RpL.ext (e : Ext I μ I' μ') : ∀ {v : List V} {d : List D}, RpL K mg I μ v d → RpL K mg I' μ' v d
  | _, _, .nil => .nil
  | _, _, .cons h r => .cons (Rp.ext e h) (RpL.ext e r)
theorem RpK.ext (e : Ext I μ I' μ') : ∀ {v : List (Key × V)} {d : List (Key × D)}, RpK K mg I μ v d → RpK K mg I' μ' v d
  | _, _, .nil => .nil
  | _, _, .cons h r => .cons (Rp.ext e h) (RpK.ext e r)
theorem RpF.ext (e : Ext I μ I' μ') : ∀ {v : List (Str × V)} {d : List (Str × D)}, RpF K mg I μ v d → RpF K mg I' μ' v d
  | _, _, .nil => .nil
  | _, _, .cons h r => .cons (Rp.ext e h) (RpF.ext e r)
end
theorem RpL.length {vs : List V} {ds : List D} (r : RpL K mg I μ vs ds) : vs.length = ds.length := by
  induction ds generalizing vs with
  | nil => cases r; rfl
  | cons d ds ih => cases r with | cons h t => simp [ih t]
theorem RpL.get {vs : List V} {ds : List D} (r : RpL K mg I μ vs ds) {i : Nat} {d : D} (h : ds[i]? = some d) : ∃ v, vs[i]? = some v ∧ Rp K mg I μ v d := by
  induction ds generalizing vs i with
  | nil => simp at h
  | cons e ds ih =>
    cases r with
    | cons r t =>
      cases i with
      | zero => simp at h; subst h; exact ⟨_, rfl, r⟩
      | succ i => simpa using ih t (by simpa using h)
theorem RpL.getV {vs : List V} {ds : List D} (r : RpL K mg I μ vs ds) {i : Nat} {v : V} (h : vs[i]? = some v) : ∃ d, ds[i]? = some d ∧ Rp K mg I μ v d := by
  induction vs generalizing ds i with
  | nil => simp at h
  | cons e vs ih =>
    cases r with
    | cons r t =>
      cases i with
      | zero => simp at h; subst h; exact ⟨_, rfl, r⟩
      | succ i => simpa using ih t (by simpa using h)
theorem RpL.append {vs ws : List V} {ds es : List D} (r : RpL K mg I μ vs ds) (q : RpL K mg I μ ws es) : RpL K mg I μ (vs ++ ws) (ds ++ es) := by
  induction ds generalizing vs with
  | nil => cases r; exact q
  | cons d ds ih => cases r with | cons h t => exact .cons h (ih t)
theorem RpL.take {vs : List V} {ds : List D} (r : RpL K mg I μ vs ds) (n : Nat) : RpL K mg I μ (vs.take n) (ds.take n) := by
  induction n generalizing vs ds with
  | zero => simpa using RpL.nil
  | succ n ih => cases r with
    | nil => simpa using RpL.nil
    | cons h t => simpa using RpL.cons h (ih t)
theorem RpL.drop {vs : List V} {ds : List D} (r : RpL K mg I μ vs ds) (n : Nat) : RpL K mg I μ (vs.drop n) (ds.drop n) := by
  induction n generalizing vs ds with
  | zero => simpa using r
  | succ n ih => cases r with
    | nil => simpa using RpL.nil
    | cons h t => simpa using ih t
theorem RpL.set {vs : List V} {ds : List D} (r : RpL K mg I μ vs ds) {v : V} {d : D} (h : Rp K mg I μ v d) (n : Nat) : RpL K mg I μ (vs.set n v) (ds.set n d) := by
  induction n generalizing vs ds with
  | zero => cases r with
    | nil => simpa using RpL.nil
    | cons _ t => simpa using RpL.cons h t
  | succ n ih => cases r with
    | nil => simpa using RpL.nil
    | cons q t => simpa using RpL.cons q (ih t)
theorem RpL.ints {ns : List Int} : RpL K mg I μ (ns.map V.int) (ns.map D.int) := by
  induction ns with
  | nil => exact .nil
  | cons n ns ih => exact .cons .int ih
end
structure BagOk (x y z : Int) (cs : List Int) : Prop where
  len : cs.length ≤ 63
  x0 : 0 ≤ x
  y0 : 0 ≤ y
  y1 : y < 2147483647
  z0 : 0 ≤ z
  pos : ∀ c, c ∈ cs → 0 ≤ c
section
variable (K : PySem.W.Frag) (mg : Str → Option Value)
def MOk (I : Hp) (μ : List Addr) (H : Hp) (a : Addr) : M → Prop
  | .frz d => H a ≠ none ∧ Rp K mg I μ (.ref a) d
  | .bag => I a = none ∧ ∃ (x y z : Int) (l : Addr) (cs : List Int), H a = some (.lst [.int x, .int y, .int z, .ref l]) ∧ I l = some (.lst (cs.map V.int)) ∧ BagOk x y z cs
  | .lst ds => I a = none ∧ ∃ vs, H a = some (.lst vs) ∧ RpL K mg I μ vs ds
  | .dct kd => I a = none ∧ ∃ kv, H a = some (.dK kv) ∧ RpK K mg I μ kv kd
  | .lck o kd => I a = none ∧ H a = some o ∧ ∃ od kv, o = .frz od (.dK kv) ∧ RpK K mg I μ kv kd
  | .ins c fd => I a = none ∧ ∃ (C dx : Addr) (fv : List (Str × V)), mg c = some (.ref C) ∧ H a = some (.ins C dx fv) ∧ RpF K mg I μ fv fd
structure Zt where
  z : Hp
  g : Hp → List Addr → Prop
  cl : ∀ (I : Hp) (μ : List Addr) (I' : Hp) (μ' : List Addr), Ext I μ I' μ' → g I μ → g I' μ'
structure Ok (Z : Zt) (I : Hp) (μ : List Addr) (S : Sto) (H : Hp) : Prop where
  fra : ∀ (a : Addr) (o : HO), Z.z a = some o → H a = some o ∧ I a = none ∧ a ∉ μ
  gnd : Z.g I μ
  sub : Same I H
  len : μ.length = S.length
  nd : μ.Nodup
  ob : ∀ (n : Nat) (a : Addr) (m : M), μ[n]? = some a → S[n]? = some m → MOk K mg I μ H a m
end
section
variable {K : PySem.W.Frag} {mg : Str → Option Value} {Z : Zt} {I I' : Hp} {μ μ' : List Addr} {S S' : Sto} {H H' : Hp} {a : Addr}
theorem MOk.there {m : M} (h : MOk K mg I μ H a m) : H a ≠ none := by
  cases m with
  | frz d => exact h.1
  | bag => obtain ⟨_, _, _, _, _, _, e, _⟩ := h; rw [e]; simp
  | lst ds => obtain ⟨_, _, e, _⟩ := h; rw [e]; simp
  | dct kd => obtain ⟨_, _, e, _⟩ := h; rw [e]; simp
  | lck o kd => obtain ⟨_, e, _⟩ := h; rw [e]; simp
  | ins c fd => obtain ⟨_, _, _, _, _, e, _⟩ := h; rw [e]; simp
theorem MOk.ext {m : M} (h : MOk K mg I μ H a m) (e : Ext I μ I' μ') (ha : H' a = H a) (hi : H a ≠ none → I a = none → I' a = none) : MOk K mg I' μ' H' a m := by
  have t := h.there
  cases m with
  | frz d => exact ⟨by rw [ha]; exact h.1, h.2.ext e⟩
  | bag =>
    obtain ⟨i, x, y, z, l, cs, q, ql, r⟩ := h
    exact ⟨hi t i, x, y, z, l, cs, by rw [ha]; exact q, e.hp _ _ ql, r⟩
  | lst ds => obtain ⟨i, vs, q, r⟩ := h; exact ⟨hi t i, vs, by rw [ha]; exact q, r.ext e⟩
  | dct kd => obtain ⟨i, vs, q, r⟩ := h; exact ⟨hi t i, vs, by rw [ha]; exact q, r.ext e⟩
  | lck o kd => obtain ⟨i, q, od, kv, z, r⟩ := h; exact ⟨hi t i, by rw [ha]; exact q, od, kv, z, r.ext e⟩
  | ins c fd => obtain ⟨i, C, dx, fv, m, q, r⟩ := h; exact ⟨hi t i, C, dx, fv, m, by rw [ha]; exact q, r.ext e⟩
theorem Ok.at (o : Ok K mg Z I μ S H) {n : Nat} {m : M} (h : S[n]? = some m) : ∃ a, μ[n]? = some a ∧ MOk K mg I μ H a m := by
  have hn : n < S.length := (List.getElem?_eq_some_iff.mp h).1
  have hm : n < μ.length := by rw [o.len]; exact hn
  exact ⟨μ[n], List.getElem?_eq_getElem hm, o.ob n _ m (List.getElem?_eq_getElem hm) h⟩
theorem Ok.there (o : Ok K mg Z I μ S H) {n : Nat} (h : μ[n]? = some a) : H a ≠ none := by
  have hn : n < μ.length := (List.getElem?_eq_some_iff.mp h).1
  have hs : n < S.length := by rw [← o.len]; exact hn
  exact (o.ob n a _ h (List.getElem?_eq_getElem hs)).there
theorem Ext.new {p : Addr} {o : HO} (h : I p = none) : Ext I μ (upd I p o) μ := ⟨fun b u e => by rw [upd_ne (ne_of_none e h)]; exact e, fun _ _ q => q⟩
theorem free_of (e : Same I H) {p : Addr} (h : H p = none) : I p = none := e.free h
theorem Ok.fne (k : Ok K mg Z I μ S H) {p b : Addr} {o : HO} (h : H p = none) (e : Z.z b = some o) : b ≠ p := fun z => by
  subst z; have := (k.fra b o e).1; rw [h] at this; cases this
theorem Ok.new {p : Addr} {o : HO} (k : Ok K mg Z I μ S H) (h : H p = none) : Ok K mg Z (upd I p o) μ S (upd H p o) where
  fra := fun b u e => let ⟨x, y, z⟩ := k.fra b u e; ⟨by rw [upd_ne (k.fne h e)]; exact x, by rw [upd_ne (k.fne h e)]; exact y, z⟩
  gnd := Z.cl _ _ _ _ (Ext.new (free_of k.sub h)) k.gnd
  sub := fun b u e => by
    by_cases q : b = p
    · subst q; rw [upd_same] at e ⊢; exact e
    · rw [upd_ne q] at e ⊢; exact k.sub b u e
  len := k.len
  nd := k.nd
  ob := fun n b m hb hm => by
    have q : b ≠ p := fun z => by subst z; exact (k.there hb) h
    exact (k.ob n b m hb hm).ext (Ext.new (free_of k.sub h)) (upd_ne q) fun _ i => by rw [upd_ne q]; exact i
theorem Ok.lay {p : Addr} {o : HO} (k : Ok K mg Z I μ S H) (h : H p = none) : Ok K mg Z I μ S (upd H p o) where
  fra := fun b u e => let ⟨x, y, z⟩ := k.fra b u e; ⟨by rw [upd_ne (k.fne h e)]; exact x, y, z⟩
  gnd := k.gnd
  sub := fun b u e => by
    rw [upd_ne (ne_of_none e (free_of k.sub h))]; exact k.sub b u e
  len := k.len
  nd := k.nd
  ob := fun n b m hb hm => by
    have q : b ≠ p := fun z => by subst z; exact (k.there hb) h
    exact (k.ob n b m hb hm).ext Ext.refl (upd_ne q) fun _ i => i
theorem mu_push {p : Addr} {n : Nat} {b : Addr} (h : μ[n]? = some b) : (μ ++ [p])[n]? = some b := by
  rw [List.getElem?_append_left (List.getElem?_eq_some_iff.mp h).1]; exact h
theorem Ext.push {p : Addr} : Ext I μ I (μ ++ [p]) := ⟨Same.refl I, fun _ _ h => mu_push h⟩
theorem Ok.push {p : Addr} {o : HO} {m : M} (k : Ok K mg Z I μ S H) (h : H p = none) (hm : MOk K mg I (μ ++ [p]) (upd H p o) p m) : Ok K mg Z I (μ ++ [p]) (S ++ [m]) (upd H p o) where
  fra := fun b u e => let ⟨x, y, z⟩ := k.fra b u e; ⟨by rw [upd_ne (k.fne h e)]; exact x, y, fun q => by
    rcases List.mem_append.mp q with q | q
    · exact z q
    · simp at q; exact k.fne h e q⟩
  gnd := Z.cl _ _ _ _ Ext.push k.gnd
  sub := (k.lay (o := o) h).sub
  len := by simp [k.len]
  nd := by
    refine List.nodup_append.mpr ⟨k.nd, by simp, fun b hb c hc => ?_⟩
    simp at hc
    subst hc
    intro z
    subst z
    obtain ⟨n, hn⟩ := List.getElem?_of_mem hb
    exact (k.there hn) h
  ob := fun n b m' hb hm' => by
    by_cases hn : n < μ.length
    · rw [List.getElem?_append_left hn] at hb
      rw [List.getElem?_append_left (by rw [← k.len]; exact hn)] at hm'
      have q : b ≠ p := fun z => by subst z; exact (k.there hb) h
      exact (k.ob n b m' hb hm').ext Ext.push (upd_ne q) fun _ i => i
    · have hl : n < (μ ++ [p]).length := (List.getElem?_eq_some_iff.mp hb).1
      have e : n = μ.length := by simp at hl; omega
      subst e
      rw [List.getElem?_append_right (Nat.le_refl _)] at hb
      rw [List.getElem?_append_right (by rw [k.len]; exact Nat.le_refl _)] at hm'
      simp [k.len] at hb hm'
      subst hb hm'
      exact hm
theorem Ok.put {n : Nat} {o : HO} {m : M} (k : Ok K mg Z I μ S H) (h : μ[n]? = some a) (hi : I a = none) (hm : MOk K mg I μ (upd H a o) a m) : Ok K mg Z I μ (S.set n m) (upd H a o) where
  fra := fun b u e => let ⟨x, y, z⟩ := k.fra b u e; ⟨by rw [upd_ne (fun q => z (by rw [q]; exact List.mem_of_getElem? h))]; exact x, y, z⟩
  gnd := k.gnd
  sub := fun b u e => by rw [upd_ne (ne_of_none e hi)]; exact k.sub b u e
  len := by simp [k.len]
  nd := k.nd
  ob := fun j b m' hb hm' => by
    by_cases e : j = n
    · subst e
      rw [h] at hb
      cases hb
      rw [List.getElem?_set_self (by rw [← k.len]; exact (List.getElem?_eq_some_iff.mp h).1)] at hm'
      cases hm'
      exact hm
    · rw [List.getElem?_set_ne (fun z => e z.symm)] at hm'
      have q : b ≠ a := fun z => by
        subst z
        have h1 := List.getElem?_eq_some_iff.mp hb
        have h2 := List.getElem?_eq_some_iff.mp h
        exact e ((List.getElem_inj k.nd).mp (h1.2.trans h2.2.symm))
      exact (k.ob j b m' hb hm').ext Ext.refl (upd_ne q) fun _ i => i
theorem Ok.freeze {n : Nat} {ds : List D} (k : Ok K mg Z I μ S H) (h : S[n]? = some (.lst ds)) : ∃ a I', μ[n]? = some a ∧ Ext I μ I' μ ∧ Ok K mg Z I' μ (S.set n (.frz (.lst ds))) H ∧ Rp K mg I' μ (.ref a) (.lst ds) := by
  obtain ⟨a, ha, hi, vs, hv, r⟩ := k.at h
  have e : Ext I μ (upd I a (.lst vs)) μ := Ext.new hi
  refine ⟨a, upd I a (.lst vs), ha, e, ⟨fun b u q => let ⟨x, y, z⟩ := k.fra b u q; ⟨x, by rw [upd_ne (fun q => z (by rw [q]; exact List.mem_of_getElem? ha))]; exact y, z⟩, Z.cl _ _ _ _ e k.gnd, fun b u q => ?_, by simp [k.len], k.nd, fun j b m hb hm => ?_⟩, .lst upd_same (r.ext e)⟩
  · by_cases z : b = a
    · subst z; rw [upd_same] at q; cases q; exact hv
    · rw [upd_ne z] at q; exact k.sub b u q
  · by_cases z : j = n
    · subst z
      rw [ha] at hb
      cases hb
      rw [List.getElem?_set_self (by rw [← k.len]; exact (List.getElem?_eq_some_iff.mp ha).1)] at hm
      cases hm
      exact ⟨by rw [hv]; simp, .lst upd_same (r.ext e)⟩
    · rw [List.getElem?_set_ne (fun q => z q.symm)] at hm
      have q : b ≠ a := fun x => by
        subst x
        have h1 := List.getElem?_eq_some_iff.mp hb
        have h2 := List.getElem?_eq_some_iff.mp ha
        exact z ((List.getElem_inj k.nd).mp (h1.2.trans h2.2.symm))
      exact (k.ob j b m hb hm).ext e rfl fun _ i => by rw [upd_ne q]; exact i
theorem Ok.openB {n : Nat} (k : Ok K mg Z I μ S H) (h : S[n]? = some .bag) : ∃ (x y z : Int) (cs : List Int), BagOk x y z cs ∧ Ok K mg Z I μ (S.set n (.lst [.int x, .int y, .int z, .lst (cs.map D.int)])) H := by
  obtain ⟨a, ha, hi, x, y, z, l, cs, hH, hl, b⟩ := k.at h
  refine ⟨x, y, z, cs, b, k.fra, k.gnd, k.sub, by simp [k.len], k.nd, fun j c m hb hm => ?_⟩
  by_cases e : j = n
  · subst e
    rw [ha] at hb
    cases hb
    rw [List.getElem?_set_self (by rw [← k.len]; exact (List.getElem?_eq_some_iff.mp ha).1)] at hm
    cases hm
    exact ⟨hi, _, hH, .cons .int (.cons .int (.cons .int (.cons (.lst hl RpL.ints) .nil)))⟩
  · rw [List.getElem?_set_ne (fun q => e q.symm)] at hm
    exact k.ob j c m hb hm
theorem RpL.ints_inv {vs : List V} {ns : List Int} (r : RpL K mg I μ vs (ns.map D.int)) : vs = ns.map V.int := by
  induction ns generalizing vs with
  | nil => cases r; rfl
  | cons n ns ih => cases r with | cons h t => cases h; rw [ih t]; rfl
theorem Ok.closeB {n : Nat} {x y z : Int} {cs : List Int} (k : Ok K mg Z I μ S H) (h : S[n]? = some (.lst [.int x, .int y, .int z, .lst (cs.map D.int)])) (b : BagOk x y z cs) : Ok K mg Z I μ (S.set n .bag) H := by
  obtain ⟨a, ha, hi, vs, hH, r⟩ := k.at h
  refine ⟨k.fra, k.gnd, k.sub, by simp [k.len], k.nd, fun j c m hb hm => ?_⟩
  by_cases e : j = n
  · subst e
    rw [ha] at hb
    cases hb
    rw [List.getElem?_set_self (by rw [← k.len]; exact (List.getElem?_eq_some_iff.mp ha).1)] at hm
    cases hm
    cases r with | cons r1 r =>
    cases r with | cons r2 r =>
    cases r with | cons r3 r =>
    cases r with | cons r4 r =>
    cases r
    cases r1
    cases r2
    cases r3
    cases r4 with
    | lst hl t => exact ⟨hi, x, y, z, _, cs, hH, by rw [hl, t.ints_inv], b⟩
  · rw [List.getElem?_set_ne (fun q => e q.symm)] at hm
    exact k.ob j c m hb hm
end
end Sq
set_option maxHeartbeats 4000000
namespace Sq
open PySem L2
abbrev WE := Ro → Sto → (D → Sto → Prop) → Prop
abbrev WT := Ro → Sto → (Bool → Sto → Prop) → Prop
abbrev WA := Ro → Sto → (List D → Sto → Prop) → Prop
def gt : Ro → Nat → Option D
  | [], _ => none
  | x :: _, 0 => x
  | _ :: r, n + 1 => gt r n
def st : Ro → Nat → Option D → Ro
  | [], _, _ => []
  | _ :: r, 0, d => d :: r
  | x :: r, n + 1, d => x :: st r n d
def onS {α : Type} (o : Option α) (k : α → Prop) : Prop :=
  match o with
  | some a => k a
  | none => False
@[simp] theorem onS_some {α : Type} (a : α) (k : α → Prop) : onS (some a) k = k a := rfl
@[simp] theorem onS_none {α : Type} (k : α → Prop) : onS none k = False := rfl
theorem onS_iff {α : Type} {o : Option α} {k : α → Prop} (h : onS o k) : ∃ a, o = some a ∧ k a := by
  cases o with
  | none => exact h.elim
  | some a => exact ⟨a, rfl, h⟩
theorem gt_st : ∀ (ρ : Ro) (i j : Nat) (d : Option D), gt (st ρ i d) j = if i = j ∧ i < ρ.length then d else gt ρ j
  | [], _, _, _ => by simp [st, gt]
  | x :: r, 0, 0, d => by simp [st, gt]
  | x :: r, 0, j + 1, d => by simp [st, gt]
  | x :: r, i + 1, 0, d => by simp [st, gt]
  | x :: r, i + 1, j + 1, d => by simp [st, gt, gt_st r i j d]
theorem st_length : ∀ (ρ : Ro) (i : Nat) (d : Option D), (st ρ i d).length = ρ.length
  | [], _, _ => rfl
  | x :: r, 0, d => rfl
  | x :: r, i + 1, d => by simp [st, st_length r i d]
theorem gt_lt : ∀ {ρ : Ro} {i : Nat} {d : D}, gt ρ i = some d → i < ρ.length
  | [], _, _, h => by simp [gt] at h
  | x :: r, 0, _, h => by simp
  | x :: r, i + 1, d, h => by have := gt_lt (ρ := r) (i := i) (d := d) (by simpa [gt] using h); simpa using this
structure RpS (K : PySem.W.Frag) (mg : Str → Option Value) (I : Hp) (μ : List Addr) (σ : L2.St) (ρ : Ro) : Prop where
  len : σ.length = ρ.length
  get : ∀ (i : Nat) (d : D), gt ρ i = some d → ∃ v, σ[i]? = some (some v) ∧ Rp K mg I μ v d
section
variable {K : PySem.W.Frag} {mg : Str → Option Value} {I I' : Hp} {μ μ' : List Addr} {S S' : Sto} {H H' : Hp} {σ : L2.St} {ρ : Ro}
theorem RpS.ext (r : RpS K mg I μ σ ρ) (e : Ext I μ I' μ') : RpS K mg I' μ' σ ρ :=
  ⟨r.len, fun i d h => let ⟨v, q, z⟩ := r.get i d h; ⟨v, q, z.ext e⟩⟩
theorem RpS.put (r : RpS K mg I μ σ ρ) {v : V} {d : D} (h : Rp K mg I μ v d) (i : Nat) : RpS K mg I μ (σ.set i (some v)) (st ρ i (some d)) := by
  refine ⟨by rw [List.length_set, st_length]; exact r.len, fun j e q => ?_⟩
  rw [gt_st] at q
  split at q
  · rename_i c
    obtain ⟨rfl, hl⟩ := c
    cases q
    exact ⟨v, by rw [List.getElem?_set_self (by rw [r.len]; exact hl)], h⟩
  · rename_i c
    obtain ⟨w, q1, q2⟩ := r.get j e q
    refine ⟨w, ?_, q2⟩
    by_cases z : i = j
    · subst z
      exact absurd ⟨rfl, gt_lt q⟩ c
    · rw [List.getElem?_set_ne z]; exact q1
end
def Kp (K : PySem.W.Frag) (mg : Str → Option Value) (Z : Zt) (I : Hp) (μ : List Addr) (Φ : D → Sto → Prop) (Q : VK) : Prop :=
  ∀ (v : V) (d : D) (I' : Hp) (μ' : List Addr) (S' : Sto) (H' : Hp), Ext I μ I' μ' → Ok K mg Z I' μ' S' H' → Rp K mg I' μ' v d → Φ d S' → Q v H'
def Kb (K : PySem.W.Frag) (mg : Str → Option Value) (Z : Zt) (I : Hp) (μ : List Addr) (Φ : Bool → Sto → Prop) (Q : Bool → Hp → Prop) : Prop :=
  ∀ (b : Bool) (I' : Hp) (μ' : List Addr) (S' : Sto) (H' : Hp), Ext I μ I' μ' → Ok K mg Z I' μ' S' H' → Φ b S' → Q b H'
def Ka (K : PySem.W.Frag) (mg : Str → Option Value) (Z : Zt) (I : Hp) (μ : List Addr) (Φ : List D → Sto → Prop) (Q : List V → Hp → Prop) : Prop :=
  ∀ (vs : List V) (ds : List D) (I' : Hp) (μ' : List Addr) (S' : Sto) (H' : Hp), Ext I μ I' μ' → Ok K mg Z I' μ' S' H' → RpL K mg I' μ' vs ds → Φ ds S' → Q vs H'
def Sim (K : PySem.W.Frag) (mg : Str → Option Value) (Z : Zt) (te : TE) (w : WE) : Prop :=
  ∀ (σ : L2.St) (ρ : Ro) (I : Hp) (μ : List Addr) (S : Sto) (H : Hp) (Q : VK) (Φ : D → Sto → Prop), RpS K mg I μ σ ρ → Ok K mg Z I μ S H → w ρ S Φ → Kp K mg Z I μ Φ Q → te σ H Q
def SimT (K : PySem.W.Frag) (mg : Str → Option Value) (Z : Zt) (te : TT) (w : WT) : Prop :=
  ∀ (σ : L2.St) (ρ : Ro) (I : Hp) (μ : List Addr) (S : Sto) (H : Hp) (Q : Bool → Hp → Prop) (Φ : Bool → Sto → Prop), RpS K mg I μ σ ρ → Ok K mg Z I μ S H → w ρ S Φ → Kb K mg Z I μ Φ Q → te σ H Q
def SimA (K : PySem.W.Frag) (mg : Str → Option Value) (Z : Zt) (te : TA) (w : WA) : Prop :=
  ∀ (σ : L2.St) (ρ : Ro) (I : Hp) (μ : List Addr) (S : Sto) (H : Hp) (Q : List V → Hp → Prop) (Φ : List D → Sto → Prop), RpS K mg I μ σ ρ → Ok K mg Z I μ S H → w ρ S Φ → Ka K mg Z I μ Φ Q → te σ H Q
abbrev Xk := Str → List (Str × D) → Ro → Sto → Prop
abbrev Xf := Str → List (Str × D) → Sto → Prop
def XRp (K : PySem.W.Frag) (mg : Str → Option Value) (I : Hp) (μ : List Addr) (c : Str) (fs : List (Str × D)) (cls : Value) (d : Option Addr) : Prop :=
  ∃ C, mg c = some (.ref C) ∧ cls = .ref C ∧ match d with
    | none => fs = []
    | some dd => ∃ fv, I dd = some (.xd fv) ∧ RpF K mg I μ fv fs
theorem XRp.ext {K : PySem.W.Frag} {mg : Str → Option Value} {I I' : Hp} {μ μ' : List Addr} {c : Str} {fs : List (Str × D)} {cls : Value} {d : Option Addr} (r : XRp K mg I μ c fs cls d) (e : Ext I μ I' μ') : XRp K mg I' μ' c fs cls d := by
  obtain ⟨C, h, q, z⟩ := r
  refine ⟨C, h, q, ?_⟩
  cases d with
  | none => exact z
  | some dd => obtain ⟨fv, y, r⟩ := z; exact ⟨fv, e.hp _ _ y, r.ext e⟩
structure Gam where
  W : WX
  Ψ : Xk
def G0 : Gam := ⟨fun _ _ _ _ => False, fun _ _ _ _ => False⟩
def Lk (X : Cx) (Γ : Gam) (Z : Zt) : Prop := ∀ (c : Str) (fs : List (Str × D)) (cls : Value) (d : Option Addr) (σ : L2.St) (ρ : Ro) (I : Hp) (μ : List Addr) (S : Sto) (H : Hp), Ok X.K X.mg Z I μ S H → RpS X.K X.mg I μ σ ρ → XRp X.K X.mg I μ c fs cls d → Γ.Ψ c fs ρ S → Γ.W cls d σ H
theorem Lk.zero {X : Cx} {Z : Zt} : Lk X G0 Z := fun _ _ _ _ _ _ _ _ _ _ _ _ _ h => h
structure SE (X : Cx) (Γ : Gam) (e : Expr) (te : TE) (w : WE) : Prop where
  pe : PE X e te
  si : ∀ Z : Zt, Lk X Γ Z → Sim X.K X.mg Z te w
structure ST (X : Cx) (Γ : Gam) (e : Expr) (te : TT) (w : WT) : Prop where
  pt : PT X e te
  si : ∀ Z : Zt, Lk X Γ Z → SimT X.K X.mg Z te w
structure SA (X : Cx) (Γ : Gam) (es : List Expr) (te : TA) (w : WA) : Prop where
  pa : PA X es te
  si : ∀ Z : Zt, Lk X Γ Z → SimA X.K X.mg Z te w
section
variable {K : PySem.W.Frag} {mg : Str → Option Value} {Z : Zt} {I I1 : Hp} {μ μ1 : List Addr}
theorem Kp.ext {Φ : D → Sto → Prop} {Q : VK} (k : Kp K mg Z I μ Φ Q) (e : Ext I μ I1 μ1) : Kp K mg Z I1 μ1 Φ Q :=
  fun v d I' μ' S' H' e' o r q => k v d I' μ' S' H' (e.trans e') o r q
theorem Kb.ext {Φ : Bool → Sto → Prop} {Q : Bool → Hp → Prop} (k : Kb K mg Z I μ Φ Q) (e : Ext I μ I1 μ1) : Kb K mg Z I1 μ1 Φ Q :=
  fun v I' μ' S' H' e' o q => k v I' μ' S' H' (e.trans e') o q
theorem Ka.ext {Φ : List D → Sto → Prop} {Q : List V → Hp → Prop} (k : Ka K mg Z I μ Φ Q) (e : Ext I μ I1 μ1) : Ka K mg Z I1 μ1 Φ Q :=
  fun v d I' μ' S' H' e' o r q => k v d I' μ' S' H' (e.trans e') o r q
end
def res (S : Sto) : D → D
  | .h n => match S[n]? with
    | some (.frz d) => d
    | _ => .h n
  | d => d
theorem res_rp {K : PySem.W.Frag} {mg : Str → Option Value} {Z : Zt} {I : Hp} {μ : List Addr} {S : Sto} {H : Hp} {v : V} {d : D} (o : Ok K mg Z I μ S H) (r : Rp K mg I μ v d) : Rp K mg I μ v (res S d) := by
  cases r with
  | h q =>
    rename_i a n
    unfold res
    simp only
    split
    · rename_i d' e
      have := o.ob n a _ q e
      exact this.2
    · exact .h q
  | _ => first | exact .non | exact .bl | exact .int | exact .str | (constructor <;> assumption)
def wVar (i : Nat) : WE := fun ρ S Q => onS (gt ρ i) fun d => Q (res S d) S
def wC (d : D) : WE := fun _ S Q => Q d S
section
variable {X : Cx} {Γ : Gam}
theorem se_var (i : Nat) {x : Str} {pos : Pos} (hN : X.N[i]? = some x := by rfl) (hv : Vis X.env.scope x := by first | exact Or.inl rfl | exact Or.inr (Or.inl rfl) | exact Or.inr (Or.inr rfl)) (hd : (x == ("__debug__" : Str)) = false := by decide)
    (hcd : (x == ("__classdict__" : Str)) = false := by decide) : SE X Γ (.Name x pos) (tVar i) (wVar i) := by
  refine ⟨pe_var hN hv hd hcd, fun Z lk σ ρ I μ S H Q Φ rs ok h k => ?_⟩
  obtain ⟨d, e, q⟩ := onS_iff h
  obtain ⟨v, e1, r⟩ := rs.get i d e
  exact ⟨v, e1, k v _ I μ S H .refl ok (res_rp ok r) q⟩
theorem se_int {i j pos} : SE X Γ (.Constant (.int i) j pos) (tC (.int i)) (wC (.int i)) := ⟨pe_int, fun _ _ _ _ I μ S H _ _ _ ok h k => k _ _ I μ S H .refl ok .int h⟩
theorem se_bl {i j pos} : SE X Γ (.Constant (.bool i) j pos) (tC (.bl i)) (wC (.bl i)) := ⟨pe_bl, fun _ _ _ _ I μ S H _ _ _ ok h k => k _ _ I μ S H .refl ok .bl h⟩
theorem se_str {i j pos} : SE X Γ (.Constant (.str i) j pos) (tC (.str i)) (wC (.str i)) := ⟨pe_str, fun _ _ _ _ I μ S H _ _ _ ok h k => k _ _ I μ S H .refl ok .str h⟩
theorem se_non {j pos} : SE X Γ (.Constant .none j pos) (tC .non) (wC .non) := ⟨pe_non, fun _ _ _ _ I μ S H _ _ _ ok h k => k _ _ I μ S H .refl ok .non h⟩
end
def GK (K : PySem.W.Frag) (mg : Str → Option Value) (x : Str) (d : D) : Prop := ∃ (v : V) (u : Value), mg x = some u ∧ RelV v u ∧ ∀ (I : Hp) (μ : List Addr), Rp K mg I μ v d
def tG (mg : Str → Option Value) (x : Str) : TE := fun _ H Q => ∃ (v : V) (u : Value), mg x = some u ∧ RelV v u ∧ Q v H
theorem se_glob {X : Cx} {x : Str} {d : D} {pos : Pos} (c : GK X.K X.mg x d) (hg : Gl X x := by rfl) (hd : (x == ("__debug__" : Str)) = false := by decide) : SE X Γ (.Name x pos) (tG X.mg x) (wC d) := by
  refine ⟨⟨fun pins s σ H Q I h => ?_⟩, fun Z lk σ ρ I μ S H Q Φ rs ok h k => ?_⟩
  · obtain ⟨v, u, hm, r, q⟩ := h
    exact (pe_glob hg hm r hd).run pins s σ H Q I q
  · obtain ⟨v, u, hm, r, q⟩ := c
    exact ⟨v, u, hm, r, k v d I μ S H .refl ok (q I μ) h⟩
abbrev F2 := Sto → D → D → (D → Sto → Prop) → Prop
def OpD (K : PySem.W.Frag) (mg : Str → Option Value) (Z : Zt) (r : R2) (f : F2) : Prop :=
  ∀ (I : Hp) (μ : List Addr) (S : Sto) (H : Hp) (x y : V) (a b : D) (Q : VK) (Φ : D → Sto → Prop), Ok K mg Z I μ S H → Rp K mg I μ x a → Rp K mg I μ y b → f S a b Φ → Kp K mg Z I μ Φ Q → r x y H Q
def wOp (f : F2) (wa wb : WE) : WE := fun ρ S Q => wa ρ S fun x S1 => wb ρ S1 fun y S2 => f S2 x y Q
theorem sim_op {K : PySem.W.Frag} {mg : Str → Option Value} {Z : Zt} {ta tb : TE} {wa wb : WE} {r : R2} {f : F2} (ha : Sim K mg Z ta wa) (hb : Sim K mg Z tb wb) (hf : OpD K mg Z r f) : Sim K mg Z (tOp r ta tb) (wOp f wa wb) := fun σ ρ I μ S H Q Φ rs ok h k =>
  ha σ ρ I μ S H _ _ rs ok h fun x a I1 μ1 S1 H1 e1 o1 r1 q1 => hb σ ρ I1 μ1 S1 H1 _ _ (rs.ext e1) o1 q1 fun y b I2 μ2 S2 H2 e2 o2 r2 q2 =>
    hf I2 μ2 S2 H2 x y a b Q Φ o2 (r1.ext e2) r2 q2 (k.ext (e1.trans e2))
section
variable {X : Cx} {Γ : Gam} {a b : Expr} {ta tb : TE} {wa wb : WE} {pos : Pos}
end
def F2.or (f g : F2) : F2 := fun S x y Q => f S x y Q ∨ g S x y Q
theorem OpD.or {K : PySem.W.Frag} {mg : Str → Option Value} {Z : Zt} {r r' : R2} {f g : F2} (h : OpD K mg Z r f) (h' : OpD K mg Z r' g) : OpD K mg Z (fun x y H Q => r x y H Q ∨ r' x y H Q) (f.or g) := fun I μ S H x y a b Q Φ ok ra rb q k => by
  rcases q with q | q
  · exact .inl (h I μ S H x y a b Q Φ ok ra rb q k)
  · exact .inr (h' I μ S H x y a b Q Φ ok ra rb q k)
theorem OpD.imp {K : PySem.W.Frag} {mg : Str → Option Value} {Z : Zt} {r : R2} {f g : F2} (h : OpD K mg Z r f) (hi : ∀ S x y Q, g S x y Q → f S x y Q) : OpD K mg Z r g := fun I μ S H x y a b Q Φ ok ra rb q k => h I μ S H x y a b Q Φ ok ra rb (hi _ _ _ _ q) k
theorem rp_int {K : PySem.W.Frag} {mg : Str → Option Value} {I : Hp} {μ : List Addr} {v : V} {i : Int} (h : Rp K mg I μ v (.int i)) : v = .int i := by cases h; rfl
theorem rp_bl {K : PySem.W.Frag} {mg : Str → Option Value} {I : Hp} {μ : List Addr} {v : V} {i : Bool} (h : Rp K mg I μ v (.bl i)) : v = .bl i := by cases h; rfl
theorem rp_str {K : PySem.W.Frag} {mg : Str → Option Value} {I : Hp} {μ : List Addr} {v : V} {i : Str} (h : Rp K mg I μ v (.str i)) : v = .str i := by cases h; rfl
theorem rp_non {K : PySem.W.Frag} {mg : Str → Option Value} {I : Hp} {μ : List Addr} {v : V} (h : Rp K mg I μ v .non) : v = .non := by cases h; rfl
def fI (C : Int → Int → Prop) (g : Int → Int → D) : F2 := fun S x y Q => match x, y with
  | .int i, .int j => C i j ∧ Q (g i j) S
  | _, _ => False
theorem opd_I {K : PySem.W.Frag} {mg : Str → Option Value} {Z : Zt} {C : Int → Int → Prop} {g : Int → Int → V} {g' : Int → Int → D} (hg : ∀ i j I μ, Rp K mg I μ (g i j) (g' i j)) : OpD K mg Z (rI C g) (fI C g') := by
  intro I μ S H x y a b Q Φ ok ra rb q k
  unfold fI at q
  split at q
  · rename_i i j
    rw [rp_int ra, rp_int rb]
    exact ⟨i, j, rfl, rfl, q.1, k _ _ I μ S H .refl ok (hg i j I μ) q.2⟩
  · exact q.elim
theorem opd_I0 {K : PySem.W.Frag} {mg : Str → Option Value} {Z : Zt} {g : Int → Int → V} {g' : Int → Int → D} (hg : ∀ i j I μ, Rp K mg I μ (g i j) (g' i j)) : OpD K mg Z (rI0 g) (fI (fun _ _ => True) g') := by
  intro I μ S H x y a b Q Φ ok ra rb q k
  unfold fI at q
  split at q
  · rename_i i j
    rw [rp_int ra, rp_int rb]
    exact ⟨i, j, rfl, rfl, k _ _ I μ S H .refl ok (hg i j I μ) q.2⟩
  · exact q.elim
def wNil : WA := fun _ S Q => Q [] S
def wCons (wa : WE) (wr : WA) : WA := fun ρ S Q => wa ρ S fun x S1 => wr ρ S1 fun xs S2 => Q (x :: xs) S2
section
variable {X : Cx} {Γ : Gam} {e : Expr} {es : List Expr} {te : TE} {t : TA} {we : WE} {wr : WA} {pos : Pos}
theorem sa_nil : SA X Γ [] tNil wNil := ⟨pa_nil, fun _ _ _ _ I μ S H _ _ _ ok h k => k _ _ I μ S H .refl ok .nil h⟩
theorem sa_cons (ha : SE X Γ e te we) (hr : SA X Γ es t wr) (hs : starEach (e :: es) X.env = (false, eval e X.env) :: starEach es X.env := by rfl) : SA X Γ (e :: es) (tCons te t) (wCons we wr) :=
  ⟨pa_cons ha.pe hr.pa hs, fun Z lk σ ρ I μ S H Q Φ rs ok h k => ha.si Z lk σ ρ I μ S H _ _ rs ok h fun x a I1 μ1 S1 H1 e1 o1 r1 q1 => hr.si Z lk σ ρ I1 μ1 S1 H1 _ _ (rs.ext e1) o1 q1 fun y b I2 μ2 S2 H2 e2 o2 r2 q2 =>
    k _ _ I2 μ2 S2 H2 (e1.trans e2) o2 (.cons (r1.ext e2) r2) q2⟩
def LIM : Nat := 10000000
theorem lim {n : Nat} (h : n ≤ LIM) : n ≤ sizeLine := Nat.le_trans h (by rw [sizeLine_eq]; decide)
theorem lim_lt {n : Nat} (h : n < LIM) : n < sizeLine := Nat.lt_of_lt_of_le h (lim (Nat.le_refl _))
def wTup (wr : WA) : WE := fun ρ S Q => wr ρ S fun ds S1 => ds.length ≤ LIM ∧ Q (.tup ds) S1
def wLst (wr : WA) : WE := fun ρ S Q => wr ρ S fun ds S1 => ds.length ≤ LIM ∧ Q (.lst ds) S1
theorem se_tup {x1} (h : SA X Γ es t wr) : SE X Γ (.Tuple es x1 pos) (tTup t) (wTup wr) :=
  ⟨pe_tup h.pa, fun Z lk σ ρ I μ S H Q Φ rs ok hw k => h.si Z lk σ ρ I μ S H _ _ rs ok hw fun vs ds I1 μ1 S1 H1 e1 o1 r1 q1 => ⟨lim (by rw [r1.length]; exact q1.1), fun p hp => by
    have i := free_of o1.sub hp
    exact k _ _ _ μ1 S1 _ (e1.trans (Ext.new i)) (o1.new hp) (.tup (SqT.of upd_same) (r1.ext (Ext.new i))) q1.2⟩⟩
theorem se_lst (h : SA X Γ es t wr) : SE X Γ (.List es pos) (tLst t) (wLst wr) :=
  ⟨pe_lst h.pa, fun Z lk σ ρ I μ S H Q Φ rs ok hw k => h.si Z lk σ ρ I μ S H _ _ rs ok hw fun vs ds I1 μ1 S1 H1 e1 o1 r1 q1 => ⟨lim (by rw [r1.length]; exact q1.1), fun p hp => by
    have i := free_of o1.sub hp
    exact k _ _ _ μ1 S1 _ (e1.trans (Ext.new i)) (o1.new hp) (.lst upd_same (r1.ext (Ext.new i))) q1.2⟩⟩
def wLstM (wr : WA) : WE := fun ρ S Q => wr ρ S fun ds S1 => ds.length ≤ LIM ∧ Q (.h S1.length) (S1 ++ [.lst ds])
theorem mu_last {K : PySem.W.Frag} {mg : Str → Option Value} {Z : Zt} {I : Hp} {μ : List Addr} {S : Sto} {H : Hp} (o : Ok K mg Z I μ S H) (p : Addr) : (μ ++ [p])[S.length]? = some p := by
  rw [← o.len, List.getElem?_append_right (Nat.le_refl _)]; simp
theorem se_lstM (h : SA X Γ es t wr) : SE X Γ (.List es pos) (tLst t) (wLstM wr) :=
  ⟨pe_lst h.pa, fun Z lk σ ρ I μ S H Q Φ rs ok hw k => h.si Z lk σ ρ I μ S H _ _ rs ok hw fun vs ds I1 μ1 S1 H1 e1 o1 r1 q1 => ⟨lim (by rw [r1.length]; exact q1.1), fun p hp => by
    have i := free_of o1.sub hp
    exact k _ _ _ _ _ _ (e1.trans Ext.push) (o1.push (m := .lst ds) hp ⟨i, vs, upd_same, r1.ext Ext.push⟩) (.h (mu_last o1 p)) q1.2⟩⟩
end
end Sq
set_option maxHeartbeats 4000000
namespace Sq
open PySem L2
def view (S : Sto) : D → D
  | .h n => match S[n]? with
    | some (.frz d) => d
    | some (.lst ds) => .lst ds
    | some (.dct k) => .dct k
    | some (.lck _ k) => .dct k
    | _ => .h n
  | d => d
section
variable {K : PySem.W.Frag} {mg : Str → Option Value} {Z : Zt} {I : Hp} {μ : List Addr} {S : Sto} {H : Hp} {v : V} {d : D}
theorem view_lst (o : Ok K mg Z I μ S H) (r : Rp K mg I μ v d) {ds : List D} (e : view S d = .lst ds) : ∃ (p : Addr) (vs : List V), v = .ref p ∧ H p = some (.lst vs) ∧ RpL K mg I μ vs ds := by
  have base : ∀ {v : V} {ds : List D}, Rp K mg I μ v (.lst ds) → ∃ (p : Addr) (vs : List V), v = .ref p ∧ H p = some (.lst vs) ∧ RpL K mg I μ vs ds := fun r => by
    cases r with | lst h q => exact ⟨_, _, rfl, o.sub _ _ h, q⟩
  cases r with
  | h q =>
    rename_i a n
    unfold view at e
    simp only at e
    split at e
    · rename_i d' c
      subst e
      exact base (o.ob n a _ q c).2
    · rename_i xs c
      cases e
      obtain ⟨_, vs, z, y⟩ := o.ob n a _ q c
      exact ⟨a, vs, rfl, z, y⟩
    · cases e
    · cases e
    · cases e
  | lst h q =>
    cases e
    exact ⟨_, _, rfl, o.sub _ _ h, q⟩
  | _ => cases e
theorem view_tup (o : Ok K mg Z I μ S H) (r : Rp K mg I μ v d) {ds : List D} (e : view S d = .tup ds) : ∃ (p : Addr) (vs : List V), v = .ref p ∧ SqT K I p vs ∧ SqT K H p vs ∧ RpL K mg I μ vs ds := by
  have base : ∀ {v : V} {ds : List D}, Rp K mg I μ v (.tup ds) → ∃ (p : Addr) (vs : List V), v = .ref p ∧ SqT K I p vs ∧ SqT K H p vs ∧ RpL K mg I μ vs ds := fun r => by
    cases r with | tup h q => exact ⟨_, _, rfl, h, same_t o.sub h, q⟩
  cases r with
  | h q =>
    rename_i a n
    unfold view at e
    simp only at e
    split at e
    · rename_i d' c
      subst e
      exact base (o.ob n a _ q c).2
    · cases e
    · cases e
    · cases e
    · cases e
  | tup h q =>
    cases e
    exact ⟨_, _, rfl, h, same_t o.sub h, q⟩
  | _ => cases e
theorem view_dct (o : Ok K mg Z I μ S H) (r : Rp K mg I μ v d) {ds : List (Key × D)} (e : view S d = .dct ds) : ∃ (p : Addr) (vs : List (Key × V)), v = .ref p ∧ Rd H p (.dK vs) ∧ RpK K mg I μ vs ds := by
  have base : ∀ {v : V} {ds : List (Key × D)}, Rp K mg I μ v (.dct ds) → ∃ (p : Addr) (vs : List (Key × V)), v = .ref p ∧ Rd H p (.dK vs) ∧ RpK K mg I μ vs ds := fun r => by
    cases r with | dct h q => exact ⟨_, _, rfl, .inr ⟨_, o.sub _ _ h⟩, q⟩
  cases r with
  | h q =>
    rename_i a n
    unfold view at e
    simp only at e
    split at e
    · rename_i d' c
      subst e
      exact base (o.ob n a _ q c).2
    · cases e
    · rename_i xs c
      cases e
      obtain ⟨_, vs, z, y⟩ := o.ob n a _ q c
      exact ⟨a, vs, rfl, .inl z, y⟩
    · rename_i o' xs c
      cases e
      obtain ⟨_, z, od, kv, rfl, y⟩ := o.ob n a _ q c
      exact ⟨a, kv, rfl, .inr ⟨_, z⟩, y⟩
    · cases e
  | dct h q =>
    cases e
    exact ⟨_, _, rfl, .inr ⟨_, o.sub _ _ h⟩, q⟩
  | _ => cases e
theorem view_sc (o : Ok K mg Z I μ S H) (r : Rp K mg I μ v d) {e : D} (h : view S d = e) : (∀ i, e = .int i → v = .int i) ∧ (∀ i, e = .bl i → v = .bl i) ∧ (∀ i, e = .str i → v = .str i) ∧ (e = .non → v = .non) := by
  subst h
  have base : ∀ {v : V} {e : D}, Rp K mg I μ v e → (∀ i, e = .int i → v = .int i) ∧ (∀ i, e = .bl i → v = .bl i) ∧ (∀ i, e = .str i → v = .str i) ∧ (e = .non → v = .non) := fun r =>
    ⟨fun i q => by subst q; exact rp_int r, fun i q => by subst q; exact rp_bl r, fun i q => by subst q; exact rp_str r, fun q => by subst q; exact rp_non r⟩
  cases r with
  | h q =>
    rename_i a n
    unfold view
    simp only
    split
    · rename_i d' c
      exact base (o.ob n a _ q c).2
    · exact ⟨fun _ q => (nomatch q), fun _ q => (nomatch q), fun _ q => (nomatch q), fun q => (nomatch q)⟩
    · exact ⟨fun _ q => (nomatch q), fun _ q => (nomatch q), fun _ q => (nomatch q), fun q => (nomatch q)⟩
    · exact ⟨fun _ q => (nomatch q), fun _ q => (nomatch q), fun _ q => (nomatch q), fun q => (nomatch q)⟩
    · exact ⟨fun _ q => (nomatch q), fun _ q => (nomatch q), fun _ q => (nomatch q), fun q => (nomatch q)⟩
  | non => exact base .non
  | bl => exact base .bl
  | int => exact base .int
  | str => exact base .str
  | tup h q => exact base (.tup h q)
  | lst h q => exact base (.lst h q)
  | dct h q => exact base (.dct h q)
  | ins m h q => exact base (.ins m h q)
  | scr h => exact base (.scr h)
  | exc0 a b c d => exact base (.exc0 a b c d)
  | exc1 a b c d e f => exact base (.exc1 a b c d e f)
  | fn a => exact base (.fn a)
theorem view_int (o : Ok K mg Z I μ S H) (r : Rp K mg I μ v d) {i : Int} (h : view S d = .int i) : v = .int i := (view_sc o r h).1 i rfl
theorem view_bl (o : Ok K mg Z I μ S H) (r : Rp K mg I μ v d) {i : Bool} (h : view S d = .bl i) : v = .bl i := (view_sc o r h).2.1 i rfl
theorem view_str (o : Ok K mg Z I μ S H) (r : Rp K mg I μ v d) {i : Str} (h : view S d = .str i) : v = .str i := (view_sc o r h).2.2.1 i rfl
theorem view_non (o : Ok K mg Z I μ S H) (r : Rp K mg I μ v d) (h : view S d = .non) : v = .non := (view_sc o r h).2.2.2 rfl
end
def fAdd : F2 := fun S x y Q => match view S x, view S y with
  | .int i, .int j => Q (.int (i + j)) S
  | .lst a, .lst b => a.length + b.length ≤ LIM ∧ Q (.lst (a ++ b)) S
  | .tup a, .tup b => a ≠ [] ∧ b ≠ [] ∧ a.length + b.length ≤ LIM ∧ Q (.tup (a ++ b)) S
  | .str a, .str b => a.length + b.length ≤ LIM ∧ Q (.str (a ++ b)) S
  | _, _ => False
def rAddA (K : PySem.W.Frag) : R2 := fun x y H Q => rI0 (fun i j => .int (i + j)) x y H Q ∨ rCat x y H Q ∨ rCatT K x y H Q ∨ ∃ i j, x = .str i ∧ y = .str j ∧ i.length + j.length ≤ sizeLine ∧ Q (.str (i ++ j)) H
theorem or_add {X : Cx} : OpR X (binaryOp .Add) (rAddA X.K) := op_add.or (op_cat.or (op_catT.or op_add_str))
theorem opd_add {K : PySem.W.Frag} {mg : Str → Option Value} {Z : Zt} : OpD K mg Z (rAddA K) fAdd := by
  intro I μ S H x y a b Q Φ ok ra rb q k
  unfold fAdd at q
  split at q
  · rename_i i j e1 e2
    rw [view_int ok ra e1, view_int ok rb e2]
    exact .inl ⟨i, j, rfl, rfl, k _ _ I μ S H .refl ok .int q⟩
  · rename_i i j e1 e2
    obtain ⟨p, vs, rfl, h1, r1⟩ := view_lst ok ra e1
    obtain ⟨p2, ws, rfl, h2, r2⟩ := view_lst ok rb e2
    refine .inr (.inl ⟨p, p2, vs, ws, rfl, rfl, h1, h2, lim (by rw [r1.length, r2.length]; exact q.1), fun l hl => ?_⟩)
    have i := free_of ok.sub hl
    exact k _ _ _ μ S _ (Ext.new i) (ok.new hl) (.lst upd_same ((r1.append r2).ext (Ext.new i))) q.2
  · rename_i i j e1 e2
    obtain ⟨p, vs, rfl, _, h1, r1⟩ := view_tup ok ra e1
    obtain ⟨p2, ws, rfl, _, h2, r2⟩ := view_tup ok rb e2
    have n1 : vs ≠ [] := fun z => q.1 (List.eq_nil_of_length_eq_zero (by rw [← r1.length, z]; rfl))
    have n2 : ws ≠ [] := fun z => q.2.1 (List.eq_nil_of_length_eq_zero (by rw [← r2.length, z]; rfl))
    refine .inr (.inr (.inl ⟨p, p2, vs, ws, rfl, rfl, h1, h2, n1, lim (by rw [r1.length, r2.length]; exact q.2.2.1), ?_⟩))
    refine ⟨fun z => absurd z n2, fun _ l hl => ?_⟩
    have i := free_of ok.sub hl
    exact k _ _ _ μ S _ (Ext.new i) (ok.new hl) (.tup (SqT.of upd_same) ((r1.append r2).ext (Ext.new i))) q.2.2.2
  · rename_i i j e1 e2
    rw [view_str ok ra e1, view_str ok rb e2]
    exact .inr (.inr (.inr ⟨i, j, rfl, rfl, lim q.1, k _ _ I μ S H .refl ok .str q.2⟩))
  · exact q.elim
def fSub : F2 := fI (fun _ _ => True) fun i j => .int (i - j)
def fMod : F2 := fI (fun _ j => 0 < j) fun i j => .int (i % j)
def fDiv : F2 := fI CDivW fun i j => .int (i / j)
def reps {α : Type} : Nat → List α → List α
  | 0, _ => []
  | n + 1, xs => xs ++ reps n xs
def fMul : F2 := fun S x y Q => match view S x, view S y with
  | .int i, .int j => IntMulOk i j ∧ Q (.int (i * j)) S
  | _, _ => False
mutual
def py : D → Option PyData
  | .non => some .none
  | .bl b => some (.bool b)
  | .int i => some (.int i)
  | .str s => some (.str s)
  | .tup ds => (pys ds).map .tuple
  | .lst ds => (pys ds).map .list
  | _ => none
def pys : List D → Option (List PyData)
  | [] => some []
  | d :: ds => match py d, pys ds with
    | some p, some ps => some (p :: ps)
    | _, _ => none
end
section
variable {K : PySem.W.Frag} {mg : Str → Option Value} {Z : Zt} {I : Hp} {μ : List Addr} {H : Hp}
mutual
theorem Rp.dp (s : Same I H) : ∀ {v : V} {d : D} {p : PyData}, Rp K mg I μ v d → py d = some p → Dp K H v p
  | _, _, _, .non, e => by cases e; exact .non
  | _, _, _, .bl, e => by cases e; exact .bl _
  | _, _, _, .int, e => by cases e; exact .int _
  | _, _, _, .str, e => by cases e; exact .str _
  | _, .tup ds, _, .tup h r, e => by
    unfold py at e
    cases q : pys ds with
    | none => rw [q] at e; cases e
    | some ps => rw [q] at e; cases e; exact .tup (same_t s h) (RpL.dp s r q)
  | _, .lst ds, _, .lst h r, e => by
    unfold py at e
    cases q : pys ds with
    | none => rw [q] at e; cases e
    | some ps => rw [q] at e; cases e; exact .lst (SqL.of (s _ _ h)) (RpL.dp s r q)
  | _, _, _, .dct h r, e => by cases e
  | _, _, _, .ins m h r, e => by cases e
  | _, _, _, .h q, e => by cases e
  | _, _, _, .scr q, e => by cases e
  | _, _, _, .exc0 _ _ _ _, e => by cases e
  | _, _, _, .exc1 _ _ _ _ _ _, e => by cases e
  | _, _, _, .fn _, e => by cases e
theorem RpL.dp (s : Same I H) : ∀ {v : List V} {d : List D} {p : List PyData}, RpL K mg I μ v d → pys d = some p → DpAll K H v p
  | _, _, _, .nil, e => by cases e; exact .nil
  | _, d :: ds, _, .cons h r, e => by
    unfold pys at e
    cases q1 : py d with
    | none => rw [q1] at e; cases e
    | some p =>
      cases q2 : pys ds with
      | none => rw [q1, q2] at e; cases e
      | some ps => rw [q1, q2] at e; cases e; exact .cons (Rp.dp s h q1) (RpL.dp s r q2)
end
theorem view_dp {S : Sto} {v : V} {d : D} {p : PyData} (o : Ok K mg Z I μ S H) (r : Rp K mg I μ v d) (e : py (view S d) = some p) : Dp K H v p := by
  cases r with
  | h q =>
    rename_i a n
    unfold view at e
    simp only at e
    split at e
    · rename_i d' c
      exact (o.ob n a _ q c).2.dp o.sub e
    · rename_i ds c
      obtain ⟨_, vs, z, y⟩ := o.ob n a _ q c
      unfold py at e
      cases q : pys ds with
      | none => rw [q] at e; cases e
      | some ps => rw [q] at e; cases e; exact .lst (SqL.of z) (y.dp o.sub q)
    · cases e
    · cases e
    · cases e
  | non => exact Rp.dp o.sub (K := K) (mg := mg) (I := I) (μ := μ) .non e
  | bl => exact Rp.dp o.sub (K := K) (mg := mg) (I := I) (μ := μ) .bl e
  | int => exact Rp.dp o.sub (K := K) (mg := mg) (I := I) (μ := μ) .int e
  | str => exact Rp.dp o.sub (K := K) (mg := mg) (I := I) (μ := μ) .str e
  | tup h q => exact Rp.dp o.sub (Rp.tup h q) e
  | lst h q => exact Rp.dp o.sub (Rp.lst h q) e
  | dct h q => cases e
  | ins m h q => cases e
  | scr h => cases e
  | exc0 _ _ _ _ => cases e
  | exc1 _ _ _ _ _ _ => cases e
  | fn _ => cases e
end
def fEqB (g : Bool → Bool) : F2 := fun S x y Q => match view S x, view S y with
  | .int i, .int j => Q (.bl (g (decide (i = j)))) S
  | .str i, .str j => Q (.bl (g (decide (i = j)))) S
  | .bl i, .bl j => Q (.bl (g (decide (i = j)))) S
  | .non, .non => Q (.bl (g true)) S
  | .non, .int _ => Q (.bl (g false)) S
  | .int _, .non => Q (.bl (g false)) S
  | .non, .str _ => Q (.bl (g false)) S
  | .str _, .non => Q (.bl (g false)) S
  | .non, .bl _ => Q (.bl (g false)) S
  | .bl _, .non => Q (.bl (g false)) S
  | .int _, .str _ => Q (.bl (g false)) S
  | .str _, .int _ => Q (.bl (g false)) S
  | .bl _, .str _ => Q (.bl (g false)) S
  | .str _, .bl _ => Q (.bl (g false)) S
  | a, b => onS (py a) fun p => onS (py b) fun q => SeqAt.shaped p = true ∧ SeqAt.shaped q = true ∧ Q (.bl (g (PyData.eqv p q))) S
def fEq : F2 := fEqB fun b => b
def fNe : F2 := fEqB not
def rEqA (K : PySem.W.Frag) : R2 := fun x y H Q => rEq x y H Q ∨ rEqD K x y H Q
def rNeA (K : PySem.W.Frag) : R2 := fun x y H Q => rNe x y H Q ∨ rNeD K x y H Q
theorem opd_eqB {K : PySem.W.Frag} {mg : Str → Option Value} {Z : Zt} {g : Bool → Bool} {r : R2}
    (h1 : ∀ x y H Q, scal x y = true → Q (.bl (g (decide (x = y)))) H → r x y H Q)
    (h2 : ∀ x y H Q p q, Dp K H x p → Dp K H y q → SeqAt.shaped p = true → SeqAt.shaped q = true → Q (.bl (g (PyData.eqv p q))) H → r x y H Q) : OpD K mg Z r (fEqB g) := by
  intro I μ S H x y a b Q Φ ok ra rb q k
  unfold fEqB at q
  have fin : ∀ c : Bool, Φ (.bl c) S → Q (.bl c) H := fun c z => k _ _ I μ S H .refl ok .bl z
  split at q <;> first
    | (rename_i i j e1 e2; rw [view_int ok ra e1, view_int ok rb e2]; exact h1 _ _ _ _ rfl (fin _ (by simpa using q)))
    | (rename_i i j e1 e2; rw [view_str ok ra e1, view_str ok rb e2]; exact h1 _ _ _ _ rfl (fin _ (by simpa using q)))
    | (rename_i i j e1 e2; rw [view_bl ok ra e1, view_bl ok rb e2]; exact h1 _ _ _ _ rfl (fin _ (by simpa using q)))
    | (rename_i e1 e2; rw [view_non ok ra e1, view_non ok rb e2]; exact h1 _ _ _ _ rfl (fin _ (by simpa using q)))
    | (rename_i i e1 e2; rw [view_non ok ra e1, view_int ok rb e2]; exact h1 _ _ _ _ rfl (fin _ (by simpa using q)))
    | (rename_i i e1 e2; rw [view_int ok ra e1, view_non ok rb e2]; exact h1 _ _ _ _ rfl (fin _ (by simpa using q)))
    | (rename_i i e1 e2; rw [view_non ok ra e1, view_str ok rb e2]; exact h1 _ _ _ _ rfl (fin _ (by simpa using q)))
    | (rename_i i e1 e2; rw [view_str ok ra e1, view_non ok rb e2]; exact h1 _ _ _ _ rfl (fin _ (by simpa using q)))
    | (rename_i i e1 e2; rw [view_non ok ra e1, view_bl ok rb e2]; exact h1 _ _ _ _ rfl (fin _ (by simpa using q)))
    | (rename_i i e1 e2; rw [view_bl ok ra e1, view_non ok rb e2]; exact h1 _ _ _ _ rfl (fin _ (by simpa using q)))
    | (rename_i i j e1 e2; rw [view_int ok ra e1, view_str ok rb e2]; exact h1 _ _ _ _ rfl (fin _ (by simpa using q)))
    | (rename_i i j e1 e2; rw [view_str ok ra e1, view_int ok rb e2]; exact h1 _ _ _ _ rfl (fin _ (by simpa using q)))
    | (rename_i i j e1 e2; rw [view_bl ok ra e1, view_str ok rb e2]; exact h1 _ _ _ _ rfl (fin _ (by simpa using q)))
    | (rename_i i j e1 e2; rw [view_str ok ra e1, view_bl ok rb e2]; exact h1 _ _ _ _ rfl (fin _ (by simpa using q)))
    | skip
  obtain ⟨p, e1, q⟩ := onS_iff q
  obtain ⟨p2, e2, s1, s2, q⟩ := onS_iff q
  exact h2 _ _ _ _ p p2 (view_dp ok ra e1) (view_dp ok rb e2) s1 s2 (fin _ q)
theorem opd_eq {K : PySem.W.Frag} {mg : Str → Option Value} {Z : Zt} : OpD K mg Z (rEqA K) fEq :=
  opd_eqB (fun x y H Q h q => .inl ⟨h, q⟩) fun x y H Q p q a b c d z => .inr ⟨p, q, a, b, c, d, z⟩
theorem opd_ne {K : PySem.W.Frag} {mg : Str → Option Value} {Z : Zt} : OpD K mg Z (rNeA K) fNe :=
  opd_eqB (fun x y H Q h q => .inl ⟨h, q⟩) fun x y H Q p q a b c d z => .inr ⟨p, q, a, b, c, d, z⟩
def fCmp (g : Int → Int → Bool) : F2 := fI (fun _ _ => True) fun i j => .bl (g i j)
def isNon : D → Bool
  | .non => true
  | _ => false
def fIsN : F2 := fun S x y Q => match y with
  | .non => Q (.bl (isNon x)) S
  | _ => False
def fNotN : F2 := fun S x y Q => match y with
  | .non => Q (.bl (!isNon x)) S
  | _ => False
theorem isNon_rp {K : PySem.W.Frag} {mg : Str → Option Value} {I : Hp} {μ : List Addr} {v : V} {d : D} (r : Rp K mg I μ v d) : decide (v = .non) = isNon d := by
  cases r <;> simp [isNon]
theorem opd_isN {K : PySem.W.Frag} {mg : Str → Option Value} {Z : Zt} : OpD K mg Z (fun x y H Q => y = .non ∧ Q (.bl (decide (x = .non))) H) fIsN := by
  intro I μ S H x y a b Q Φ ok ra rb q k
  unfold fIsN at q
  split at q
  · rw [isNon_rp ra]
    exact ⟨rp_non rb, k _ _ I μ S H .refl ok .bl q⟩
  · exact q.elim
def scV : D → Option V
  | .non => some .non
  | .bl b => some (.bl b)
  | .int i => some (.int i)
  | .str s => some (.str s)
  | _ => none
def scVs : List D → Option (List V)
  | [] => some []
  | d :: ds => match scV d, scVs ds with
    | some v, some vs => some (v :: vs)
    | _, _ => none
theorem scV_rp {K : PySem.W.Frag} {mg : Str → Option Value} {I : Hp} {μ : List Addr} {v w : V} {d : D} (r : Rp K mg I μ v d) (e : scV d = some w) : v = w ∧ flatV w = true := by
  cases r <;> simp [scV] at e <;> subst e <;> exact ⟨rfl, rfl⟩
theorem scVs_rp {K : PySem.W.Frag} {mg : Str → Option Value} {I : Hp} {μ : List Addr} : ∀ {vs ws : List V} {ds : List D}, RpL K mg I μ vs ds → scVs ds = some ws → vs = ws ∧ ws.all flatV = true
  | _, _, [], .nil, e => by cases e; exact ⟨rfl, rfl⟩
  | _, _, d :: ds, .cons h r, e => by
    unfold scVs at e
    cases q1 : scV d with
    | none => rw [q1] at e; cases e
    | some p =>
      cases q2 : scVs ds with
      | none => rw [q1, q2] at e; cases e
      | some ps =>
        rw [q1, q2] at e
        cases e
        obtain ⟨rfl, f1⟩ := scV_rp h q1
        obtain ⟨rfl, f2⟩ := scVs_rp r q2
        exact ⟨rfl, by simp [f1, f2]⟩
def fIn (neg : Bool) : F2 := fun S x y Q => onS (scV x) fun v => match view S y with
  | .lst ds => onS (scVs ds) fun vs => Q (.bl (if neg then !inV v vs else inV v vs)) S
  | .tup ds => onS (scVs ds) fun vs => Q (.bl (if neg then !inV v vs else inV v vs)) S
  | _ => False
theorem opd_in {K : PySem.W.Frag} {mg : Str → Option Value} {Z : Zt} {neg : Bool} : OpD K mg Z (rIn K neg) (fIn neg) := by
  intro I μ S H x y a b Q Φ ok ra rb q k
  obtain ⟨w, e, q⟩ := onS_iff q
  obtain ⟨rfl, f⟩ := scV_rp ra e
  split at q
  · rename_i ds e1
    obtain ⟨p, vs, rfl, h1, r1⟩ := view_lst ok rb e1
    obtain ⟨ws, e2, q⟩ := onS_iff q
    obtain ⟨rfl, f2⟩ := scVs_rp r1 e2
    exact ⟨p, vs, rfl, .inl (SqL.of h1), f, f2, k _ _ I μ S H .refl ok .bl q⟩
  · rename_i ds e1
    obtain ⟨p, vs, rfl, _, h1, r1⟩ := view_tup ok rb e1
    obtain ⟨ws, e2, q⟩ := onS_iff q
    obtain ⟨rfl, f2⟩ := scVs_rp r1 e2
    exact ⟨p, vs, rfl, .inr h1, f, f2, k _ _ I μ S H .refl ok .bl q⟩
  · exact q.elim
section
variable {X : Cx} {Γ : Gam} {a b c : Expr} {ta tb tc : TE} {wa wb wc : WE} {pos : Pos}
theorem se_op {op : Operator} {r : R2} {f : F2} (ho : OpR X (binaryOp op) r) (hf : ∀ Z, OpD X.K X.mg Z r f) (ha : SE X Γ a ta wa) (hb : SE X Γ b tb wb) : SE X Γ (.BinOp a op b pos) (tOp r ta tb) (wOp f wa wb) :=
  ⟨pe_op ho ha.pe hb.pe, fun Z lk => sim_op (ha.si Z lk) (hb.si Z lk) (hf Z)⟩
theorem se_add (ha : SE X Γ a ta wa) (hb : SE X Γ b tb wb) : SE X Γ (.BinOp a .Add b pos) (tOp (rAddA X.K) ta tb) (wOp fAdd wa wb) := se_op or_add (fun _ => opd_add) ha hb
theorem se_sub (ha : SE X Γ a ta wa) (hb : SE X Γ b tb wb) : SE X Γ (.BinOp a .Sub b pos) (tOp (rI0 fun i j => .int (i - j)) ta tb) (wOp fSub wa wb) := se_op op_sub (fun _ => opd_I0 fun _ _ _ _ => .int) ha hb
theorem op_mulX {X : Cx} : OpR X (binaryOp .Mult) (rI PySem.IntMulOk fun i j => .int (i * j)) := opI fun _ _ _ _ _ _ _ hc q => PyProof.Rows.mul_int q hc
theorem se_mod (ha : SE X Γ a ta wa) (hb : SE X Γ b tb wb) : SE X Γ (.BinOp a .Mod b pos) (tOp (rI (fun _ j => 0 < j) fun i j => .int (i % j)) ta tb) (wOp fMod wa wb) := se_op op_mod (fun _ => opd_I fun _ _ _ _ => .int) ha hb
theorem se_div (ha : SE X Γ a ta wa) (hb : SE X Γ b tb wb) : SE X Γ (.BinOp a .FloorDiv b pos) (tOp (rI CDivW fun i j => .int (i / j)) ta tb) (wOp fDiv wa wb) := se_op op_fdivW (fun _ => opd_I fun _ _ _ _ => .int) ha hb
theorem se_cmp {op : CmpOp} {r : R2} {f : F2} (ho : OpR X (compareOp op) r) (hf : ∀ Z, OpD X.K X.mg Z r f) (hm : behindInMarks op b = false) (ha : SE X Γ a ta wa) (hb : SE X Γ b tb wb) : SE X Γ (.Compare a [op] [b] pos) (tOp r ta tb) (wOp f wa wb) :=
  ⟨pe_cmpR ho ha.pe hb.pe hm, fun Z lk => sim_op (ha.si Z lk) (hb.si Z lk) (hf Z)⟩
def wTest (we : WE) : WT := fun ρ S Q => we ρ S fun d S1 => match d with
  | .bl b => Q b S1
  | _ => False
theorem sim_test {K : PySem.W.Frag} {mg : Str → Option Value} {Z : Zt} {te : TE} {we : WE} (h : Sim K mg Z te we) : SimT K mg Z (tTest te) (wTest we) := fun σ ρ I μ S H Q Φ rs ok hw k =>
  h σ ρ I μ S H _ _ rs ok hw fun v d I1 μ1 S1 H1 e1 o1 r1 q1 => by
    split at q1
    · cases r1
      exact ⟨_, rfl, k _ I1 μ1 S1 H1 e1 o1 q1⟩
    · exact q1.elim
theorem st_cmp {op : CmpOp} {r : R2} {f : F2} (ho : OpR X (compareOp op) r) (hf : ∀ Z, OpD X.K X.mg Z r f) (hm : behindInMarks op b = false) (ha : SE X Γ a ta wa) (hb : SE X Γ b tb wb) : ST X Γ (.Compare a [op] [b] pos) (tTest (tOp r ta tb)) (wTest (wOp f wa wb)) :=
  ⟨pt_cmpR ho ha.pe hb.pe hm, fun Z lk => sim_test (sim_op (ha.si Z lk) (hb.si Z lk) (hf Z))⟩
def CmpR (X : Cx) (op : CmpOp) (r : R2) (f : F2) : Prop := OpR X (compareOp op) r ∧ ∀ Z, OpD X.K X.mg Z r f
theorem cm_eq (hu : X.A.units + 64 < cLine) : CmpR X .Eq (rEqA X.K) fEq := ⟨op_eq.or (op_eqD hu), fun _ => opd_eq⟩
theorem cm_ne (hu : X.A.units + 64 < cLine) : CmpR X .NotEq (rNeA X.K) fNe := ⟨op_ne.or (op_neD hu), fun _ => opd_ne⟩
theorem cm_lt : CmpR X .Lt (rI0 fun i j => .bl (decide (i < j))) (fCmp fun i j => decide (i < j)) := ⟨op_lt, fun _ => opd_I0 fun _ _ _ _ => .bl⟩
theorem cm_le : CmpR X .LtE (rI0 fun i j => .bl (decide (i ≤ j))) (fCmp fun i j => decide (i ≤ j)) := ⟨op_le, fun _ => opd_I0 fun _ _ _ _ => .bl⟩
theorem cm_gt : CmpR X .Gt (rI0 fun i j => .bl (decide (j < i))) (fCmp fun i j => decide (j < i)) := ⟨op_gt, fun _ => opd_I0 fun _ _ _ _ => .bl⟩
theorem cm_ge : CmpR X .GtE (rI0 fun i j => .bl (decide (j ≤ i))) (fCmp fun i j => decide (j ≤ i)) := ⟨op_ge, fun _ => opd_I0 fun _ _ _ _ => .bl⟩
theorem cm_isN : CmpR X .Is (fun x y H Q => y = .non ∧ Q (.bl (decide (x = .non))) H) fIsN := ⟨op_isN, fun _ => opd_isN⟩
theorem cm_in : CmpR X .In (rIn X.K false) (fIn false) := ⟨op_in_seq, fun _ => opd_in⟩
theorem sc1 {op : CmpOp} {r : R2} {f : F2} (h : CmpR X op r f) (ha : SE X Γ a ta wa) (hb : SE X Γ b tb wb) (hm : behindInMarks op b = false := by first | exact nomark _ | rfl) : SE X Γ (.Compare a [op] [b] pos) (tOp r ta tb) (wOp f wa wb) := se_cmp h.1 h.2 hm ha hb
theorem tc1 {op : CmpOp} {r : R2} {f : F2} (h : CmpR X op r f) (ha : SE X Γ a ta wa) (hb : SE X Γ b tb wb) (hm : behindInMarks op b = false := by first | exact nomark _ | rfl) : ST X Γ (.Compare a [op] [b] pos) (tTest (tOp r ta tb)) (wTest (wOp f wa wb)) := st_cmp h.1 h.2 hm ha hb
def tru (S : Sto) (d : D) : Option Bool := match view S d with
  | .non => some false
  | .bl b => some b
  | .int i => some (i != 0)
  | .str s => if s.length ≤ LIM then some ((s.length : Int) != 0) else none
  | .lst ds => some (!ds.isEmpty)
  | .tup ds => some (!ds.isEmpty)
  | .dct ds => some (!ds.isEmpty)
  | _ => none
def wTru (we : WE) : WT := fun ρ S Q => we ρ S fun d S1 => onS (tru S1 d) fun b => Q b S1
def TruA (K : PySem.W.Frag) (x : V) (H : Hp) (k : Bool) : Prop := TruV K x H k ∨ ∃ p vs, x = .ref p ∧ Rd H p (.dK vs) ∧ k = !vs.isEmpty
theorem truA_ok {X : Cx} : TruR X (fun x H Q => ∃ k, TruA X.K x H k ∧ Q k H) := by
  intro pins s σ H x v Q I rx h
  obtain ⟨k, h | ⟨p, vs, rfl, r, rfl⟩, q⟩ := h
  · exact tru_ok pins s σ H x v Q I rx ⟨k, h, q⟩
  · obtain rfl : v = Value.ref p := rx
    exact d_truth I r fun s' I' => ⟨H, I', q⟩
theorem tru_ok' {K : PySem.W.Frag} {mg : Str → Option Value} {Z : Zt} {I : Hp} {μ : List Addr} {S : Sto} {H : Hp} {v : V} {d : D} {b : Bool} (ok : Ok K mg Z I μ S H) (r : Rp K mg I μ v d) (e : tru S d = some b) : TruA K v H b := by
  unfold tru at e
  split at e
  · rename_i q; rw [view_non ok r q]; cases e; exact Or.inl rfl
  · rename_i q; rw [view_bl ok r q]; cases e; exact Or.inl rfl
  · rename_i q; rw [view_int ok r q]; cases e; exact Or.inl rfl
  · rename_i s q
    rw [view_str ok r q]
    split at e
    · rename_i hs; cases e; exact Or.inl ⟨lim hs, rfl⟩
    · cases e
  · rename_i ds q
    obtain ⟨p, vs, rfl, h, t⟩ := view_lst ok r q
    cases e
    refine .inl (.inl ⟨vs, SqL.of h, ?_⟩)
    cases t <;> rfl
  · rename_i ds q
    obtain ⟨p, vs, rfl, _, h, t⟩ := view_tup ok r q
    cases e
    refine .inl (.inr (.inl ⟨vs, h, ?_⟩))
    cases t <;> rfl
  · rename_i ds q
    obtain ⟨p, vs, rfl, h, t⟩ := view_dct ok r q
    cases e
    refine .inr ⟨p, vs, rfl, h, ?_⟩
    cases t <;> rfl
  · cases e
def tTru (K : PySem.W.Frag) (te : TE) : TT := fun σ H Q => te σ H fun x H' => ∃ k, TruA K x H' k ∧ Q k H'
theorem tt_val (he : SE X Γ a ta wa) (hi : ∀ whole, isTrue a X.env whole = (do let v ← whole; standAt a.pos; holding [v] (truthy v)) := by intro _; rfl) : ST X Γ a (tTru X.K ta) (wTru wa) := by
  refine ⟨⟨(pt_truthR he.pe truA_ok hi).run⟩, fun Z lk σ ρ I μ S H Q Φ rs ok h k => ?_⟩
  refine he.si Z lk σ ρ I μ S H _ _ rs ok h fun v d I1 μ1 S1 H1 e1 o1 r1 q1 => ?_
  obtain ⟨b, e, q⟩ := onS_iff q1
  exact ⟨b, tru_ok' o1 r1 e, k _ I1 μ1 S1 H1 e1 o1 q⟩
def wAnd (wa wb : WT) : WT := fun ρ S Q => wa ρ S fun b S1 => if b = true then wb ρ S1 Q else Q false S1
def wOr (wa wb : WT) : WT := fun ρ S Q => wa ρ S fun b S1 => if b = true then Q true S1 else wb ρ S1 Q
def wNot (wa : WT) : WT := fun ρ S Q => wa ρ S fun b S1 => Q (!b) S1
variable {t u : TT} {wt wu : WT} {rest : List Expr}
structure SW (X : Cx) (Γ : Gam) (e : Expr) (te : TT) (w : WT) : Prop where
  pw : PW X e te
  si : ∀ Z : Zt, Lk X Γ Z → SimT X.K X.mg Z te w
theorem sw_one1 (h : ST X Γ a t wt) : SW X Γ (.BoolOp .And [a] pos) t wt := ⟨pw_and1 h.pt, h.si⟩
theorem sw_one2 (h : ST X Γ a t wt) : SW X Γ (.BoolOp .Or [a] pos) t wt := ⟨pw_or1 h.pt, h.si⟩
theorem sw_and (h : ST X Γ a t wt) (hb : SW X Γ (.BoolOp .And (b :: rest) pos) u wu) : SW X Γ (.BoolOp .And (a :: b :: rest) pos) (tAnd t u) (wAnd wt wu) :=
  ⟨pw_and h.pt hb.pw, fun Z lk σ ρ I μ S H Q Φ rs ok hw k => h.si Z lk σ ρ I μ S H _ _ rs ok hw fun c I1 μ1 S1 H1 e1 o1 q1 => by
    cases c with
    | true => exact hb.si Z lk σ ρ I1 μ1 S1 H1 _ _ (rs.ext e1) o1 q1 (k.ext e1)
    | false => exact k _ I1 μ1 S1 H1 e1 o1 q1⟩
theorem sw_or (h : ST X Γ a t wt) (hb : SW X Γ (.BoolOp .Or (b :: rest) pos) u wu) : SW X Γ (.BoolOp .Or (a :: b :: rest) pos) (tOr t u) (wOr wt wu) :=
  ⟨pw_or h.pt hb.pw, fun Z lk σ ρ I μ S H Q Φ rs ok hw k => h.si Z lk σ ρ I μ S H _ _ rs ok hw fun c I1 μ1 S1 H1 e1 o1 q1 => by
    cases c with
    | false => exact hb.si Z lk σ ρ I1 μ1 S1 H1 _ _ (rs.ext e1) o1 q1 (k.ext e1)
    | true => exact k _ I1 μ1 S1 H1 e1 o1 q1⟩
theorem SW.st (h : SW X Γ a t wt) : ST X Γ a t wt := ⟨h.pw.pt, h.si⟩
theorem tt_not (h : ST X Γ a t wt) : ST X Γ (.UnaryOp .Not a pos) (tNot t) (wNot wt) :=
  ⟨pt_not h.pt, fun Z lk σ ρ I μ S H Q Φ rs ok hw k => h.si Z lk σ ρ I μ S H _ _ rs ok hw fun c I1 μ1 S1 H1 e1 o1 q1 => k _ I1 μ1 S1 H1 e1 o1 q1⟩
def wAndV (wa wb : WE) : WE := fun ρ S Q => wa ρ S fun d S1 => match d with
  | .bl b => if b = true then wb ρ S1 Q else Q (.bl false) S1
  | _ => False
def wOrV (wa wb : WE) : WE := fun ρ S Q => wa ρ S fun d S1 => match d with
  | .bl b => if b = true then Q (.bl true) S1 else wb ρ S1 Q
  | _ => False
def wNotV (wa : WE) : WE := fun ρ S Q => wa ρ S fun d S1 => match d with
  | .bl b => Q (.bl (!b)) S1
  | _ => False
theorem se_one {op} (h : SE X Γ a ta wa) : SE X Γ (.BoolOp op [a] pos) ta wa := ⟨pe_one h.pe, h.si⟩
theorem se_and (h : SE X Γ a ta wa) (hb : SE X Γ (.BoolOp .And (b :: rest) pos) tb wb) : SE X Γ (.BoolOp .And (a :: b :: rest) pos) (tAndV ta tb) (wAndV wa wb) :=
  ⟨pe_and h.pe hb.pe, fun Z lk σ ρ I μ S H Q Φ rs ok hw k => h.si Z lk σ ρ I μ S H _ _ rs ok hw fun v d I1 μ1 S1 H1 e1 o1 r1 q1 => by
    split at q1
    · rename_i c
      cases r1
      refine ⟨c, rfl, ?_⟩
      cases c with
      | true => exact hb.si Z lk σ ρ I1 μ1 S1 H1 _ _ (rs.ext e1) o1 q1 (k.ext e1)
      | false => exact k _ _ I1 μ1 S1 H1 e1 o1 .bl q1
    · exact q1.elim⟩
theorem se_not (h : SE X Γ a ta wa) : SE X Γ (.UnaryOp .Not a pos) (tNotV ta) (wNotV wa) :=
  ⟨pe_not h.pe, fun Z lk σ ρ I μ S H Q Φ rs ok hw k => h.si Z lk σ ρ I μ S H _ _ rs ok hw fun v d I1 μ1 S1 H1 e1 o1 r1 q1 => by
    split at q1
    · rename_i c
      cases r1
      exact ⟨c, rfl, k _ _ I1 μ1 S1 H1 e1 o1 .bl q1⟩
    · exact q1.elim⟩
def wIf (wt : WT) (wa wb : WE) : WE := fun ρ S Q => wt ρ S fun b S1 => if b = true then wa ρ S1 Q else wb ρ S1 Q
theorem se_if (ht : ST X Γ c t wt) (ha : SE X Γ a ta wa) (hb : SE X Γ b tb wb) : SE X Γ (.IfExp c a b pos) (tIf t ta tb) (wIf wt wa wb) :=
  ⟨pe_ifExp ht.pt ha.pe hb.pe, fun Z lk σ ρ I μ S H Q Φ rs ok hw k => ht.si Z lk σ ρ I μ S H _ _ rs ok hw fun c I1 μ1 S1 H1 e1 o1 q1 => by
    cases c with
    | true => exact ha.si Z lk σ ρ I1 μ1 S1 H1 _ _ (rs.ext e1) o1 q1 (k.ext e1)
    | false => exact hb.si Z lk σ ρ I1 μ1 S1 H1 _ _ (rs.ext e1) o1 q1 (k.ext e1)⟩
def fIx : F2 := fun S x y Q => match view S x, y with
  | .lst ds, .int i => onS (atI ds i) fun d => Q d S
  | .tup ds, .int i => onS (atI ds i) fun d => Q d S
  | .str s, .int i => s.length ≤ LIM ∧ onS (atI s.cps.toList i) fun c => Q (.str ⟨#[c]⟩) S
  | _, _ => False
theorem RpL.atI {K : PySem.W.Frag} {mg : Str → Option Value} {I : Hp} {μ : List Addr} {vs : List V} {ds : List D} (r : RpL K mg I μ vs ds) {i : Int} {d : D} (h : atI ds i = some d) : ∃ v, L2.atI vs i = some v ∧ Rp K mg I μ v d := by
  unfold L2.atI at h ⊢
  rw [r.length]
  cases q : ixN ds.length i with
  | none => rw [q] at h; cases h
  | some j => rw [q] at h; exact r.get h
theorem opd_ix {K : PySem.W.Frag} {mg : Str → Option Value} {Z : Zt} : OpD K mg Z (rIx K) fIx := by
  intro I μ S H x y a b Q Φ ok ra rb q k
  unfold fIx at q
  split at q
  · rename_i ds i e1
    obtain ⟨p, vs, rfl, h1, r1⟩ := view_lst ok ra e1
    obtain ⟨d, e, q⟩ := onS_iff q
    obtain ⟨v, e2, r2⟩ := r1.atI e
    cases rb
    exact .inl ⟨p, vs, i, v, rfl, rfl, SqL.of h1, e2, k _ _ I μ S H .refl ok r2 q⟩
  · rename_i ds i e1
    obtain ⟨p, vs, rfl, _, h1, r1⟩ := view_tup ok ra e1
    obtain ⟨d, e, q⟩ := onS_iff q
    obtain ⟨v, e2, r2⟩ := r1.atI e
    cases rb
    exact .inr (.inl ⟨p, vs, i, v, rfl, rfl, h1, e2, k _ _ I μ S H .refl ok r2 q⟩)
  · rename_i s i e1
    obtain ⟨c, e, q'⟩ := onS_iff q.2
    cases rb
    exact .inr (.inr ⟨s, i, c, view_str ok ra e1, rfl, lim q.1, e, k _ _ I μ S H .refl ok .str q'⟩)
  · exact q.elim
theorem se_ix (ha : SE X Γ a ta wa) (hb : SE X Γ b tb wb) (hs : PlainIx b := by exact fun _ _ => rfl) : SE X Γ (.Subscript a b pos) (tOp (rIx X.K) ta tb) (wOp fIx wa wb) :=
  ⟨pe_ix ix_seq ha.pe hb.pe hs, fun Z lk => sim_op (ha.si Z lk) (hb.si Z lk) opd_ix⟩
end
end Sq
set_option maxHeartbeats 4000000
namespace Sq
open PySem L2
structure WK where
  nx : Ro → Sto → Prop
  rt : D → Sto → Prop
  bk : Ro → Sto → Prop := fun _ _ => False
  ct : Ro → Sto → Prop := fun _ _ => False
abbrev WS := WK → Ro → Sto → Prop
structure Cov (K : PySem.W.Frag) (mg : Str → Option Value) (Z : Zt) (I : Hp) (μ : List Addr) (E : Ends) (κ : WK) : Prop where
  nx : ∀ (σ : L2.St) (ρ : Ro) (I' : Hp) (μ' : List Addr) (S' : Sto) (H' : Hp), Ext I μ I' μ' → RpS K mg I' μ' σ ρ → Ok K mg Z I' μ' S' H' → κ.nx ρ S' → E.nx σ H'
  rt : Kp K mg Z I μ κ.rt E.rt
  bk : ∀ (σ : L2.St) (ρ : Ro) (I' : Hp) (μ' : List Addr) (S' : Sto) (H' : Hp), Ext I μ I' μ' → RpS K mg I' μ' σ ρ → Ok K mg Z I' μ' S' H' → κ.bk ρ S' → E.bk σ H'
  ct : ∀ (σ : L2.St) (ρ : Ro) (I' : Hp) (μ' : List Addr) (S' : Sto) (H' : Hp), Ext I μ I' μ' → RpS K mg I' μ' σ ρ → Ok K mg Z I' μ' S' H' → κ.ct ρ S' → E.ct σ H'
theorem Cov.ext {K : PySem.W.Frag} {mg : Str → Option Value} {Z : Zt} {I I1 : Hp} {μ μ1 : List Addr} {E : Ends} {κ : WK} (c : Cov K mg Z I μ E κ) (e : Ext I μ I1 μ1) : Cov K mg Z I1 μ1 E κ :=
  ⟨fun σ ρ I' μ' S' H' e' => c.nx σ ρ I' μ' S' H' (e.trans e'), c.rt.ext e, fun σ ρ I' μ' S' H' e' => c.bk σ ρ I' μ' S' H' (e.trans e'), fun σ ρ I' μ' S' H' e' => c.ct σ ρ I' μ' S' H' (e.trans e')⟩
def SimS (K : PySem.W.Frag) (mg : Str → Option Value) (Z : Zt) (ts : TS) (w : WS) : Prop :=
  ∀ (σ : L2.St) (ρ : Ro) (I : Hp) (μ : List Addr) (S : Sto) (H : Hp) (E : Ends) (κ : WK), RpS K mg I μ σ ρ → Ok K mg Z I μ S H → w κ ρ S → Cov K mg Z I μ E κ → ts E σ H
structure SS (X : Cx) (Γ : Gam) (s : Stmt) (ts : TS) (w : WS) : Prop where
  ps : PS X s ts
  si : ∀ Z : Zt, Lk X Γ Z → SimS X.K X.mg Z ts w
structure SSs (X : Cx) (Γ : Gam) (s : List Stmt) (ts : TS) (w : WS) : Prop where
  ps : PSs X s ts
  si : ∀ Z : Zt, Lk X Γ Z → SimS X.K X.mg Z ts w
def wSeq (w u : WS) : WS := fun κ ρ S => w { κ with nx := u κ } ρ S
def wSkip : WS := fun κ ρ S => κ.nx ρ S
section
variable {X : Cx} {Γ : Gam} {s : Stmt} {rest : List Stmt} {t u : TS} {w v : WS} {pos : Pos} {e : Expr} {te : TE} {we : WE}
theorem ss_nil : SSs X Γ [] tNext wSkip := ⟨pss_nil, fun Z lk σ ρ I μ S H E κ rs ok h c => c.nx σ ρ I μ S H .refl rs ok h⟩
theorem ss_cons (h1 : SS X Γ s t w) (h2 : SSs X Γ rest u v) : SSs X Γ (s :: rest) (tSeq t u) (wSeq w v) :=
  ⟨pss_cons h1.ps h2.ps, fun Z lk σ ρ I μ S H E κ rs ok h c => h1.si Z lk σ ρ I μ S H _ _ rs ok h
    ⟨fun σ' ρ' I' μ' S' H' e' rs' ok' h' => h2.si Z lk σ' ρ' I' μ' S' H' E κ rs' ok' h' (c.ext e'), c.rt, c.bk, c.ct⟩⟩
theorem ss_one (h1 : SS X Γ s t w) : SSs X Γ [s] t w := ⟨pss_one h1.ps, h1.si⟩
def wRet (we : WE) : WS := fun κ ρ S => we ρ S κ.rt
theorem s_ret (h : SE X Γ e te we) : SS X Γ (.Return (some e) pos) (tRet te) (wRet we) := ⟨ps_ret h.pe, fun Z lk σ ρ I μ S H E κ rs ok hw c => h.si Z lk σ ρ I μ S H _ _ rs ok hw c.rt⟩
def wRetN : WS := fun κ _ S => κ.rt .non S
def wDrop (we : WE) : WS := fun κ ρ S => we ρ S fun _ S1 => κ.nx ρ S1
theorem s_expr (h : SE X Γ e te we) (hs : swapsWith e none pos.line X.env = pure false := by rfl) : SS X Γ (.Expr e pos) (tDrop te) (wDrop we) :=
  ⟨ps_expr h.pe hs, fun Z lk σ ρ I μ S H E κ rs ok hw c => h.si Z lk σ ρ I μ S H _ _ rs ok hw fun v d I1 μ1 S1 H1 e1 o1 r1 q1 => c.nx σ ρ I1 μ1 S1 H1 e1 (rs.ext e1) o1 q1⟩
def wIfS (wt : WT) (w v : WS) : WS := fun κ ρ S => wt ρ S fun b S1 => if b = true then w κ ρ S1 else v κ ρ S1
variable {c : Expr} {tc : TT} {wc : WT} {a b : List Stmt}
theorem s_if (hc : ST X Γ c tc wc) (ha : SSs X Γ a t w) (hb : SSs X Γ b u v) : SS X Γ (.If c a b pos) (tIfS tc t u) (wIfS wc w v) :=
  ⟨ps_if hc.pt ha.ps hb.ps, fun Z lk σ ρ I μ S H E κ rs ok hw k => hc.si Z lk σ ρ I μ S H _ _ rs ok hw fun b I1 μ1 S1 H1 e1 o1 q1 => by
    cases b with
    | true => exact ha.si Z lk σ ρ I1 μ1 S1 H1 E κ (rs.ext e1) o1 q1 (k.ext e1)
    | false => exact hb.si Z lk σ ρ I1 μ1 S1 H1 E κ (rs.ext e1) o1 q1 (k.ext e1)⟩
def wNever : WS := fun _ _ _ => False
theorem s_never : SS X Γ s tNever wNever := ⟨ps_never, fun _ _ _ _ _ _ _ _ _ _ _ _ h _ => h.elim⟩
end
abbrev WG := D → Ro → Sto → (Ro → Sto → Prop) → Prop
abbrev WGs := List D → Ro → Sto → (Ro → Sto → Prop) → Prop
def Kn (K : PySem.W.Frag) (mg : Str → Option Value) (Z : Zt) (I : Hp) (μ : List Addr) (Φ : Ro → Sto → Prop) (Q : L2.St → Hp → Prop) : Prop :=
  ∀ (σ : L2.St) (ρ : Ro) (I' : Hp) (μ' : List Addr) (S' : Sto) (H' : Hp), Ext I μ I' μ' → RpS K mg I' μ' σ ρ → Ok K mg Z I' μ' S' H' → Φ ρ S' → Q σ H'
def SimG (K : PySem.W.Frag) (mg : Str → Option Value) (Z : Zt) (g : TG) (w : WG) : Prop :=
  ∀ (v : V) (d : D) (σ : L2.St) (ρ : Ro) (I : Hp) (μ : List Addr) (S : Sto) (H : Hp) (Q : L2.St → Hp → Prop) (Φ : Ro → Sto → Prop), Rp K mg I μ v d → RpS K mg I μ σ ρ → Ok K mg Z I μ S H → w d ρ S Φ → Kn K mg Z I μ Φ Q → g v σ H Q
def SimGs (K : PySem.W.Frag) (mg : Str → Option Value) (Z : Zt) (g : TGs) (w : WGs) : Prop :=
  ∀ (v : List V) (d : List D) (σ : L2.St) (ρ : Ro) (I : Hp) (μ : List Addr) (S : Sto) (H : Hp) (Q : L2.St → Hp → Prop) (Φ : Ro → Sto → Prop), RpL K mg I μ v d → RpS K mg I μ σ ρ → Ok K mg Z I μ S H → w d ρ S Φ → Kn K mg Z I μ Φ Q → g v σ H Q
theorem Kn.ext {K : PySem.W.Frag} {mg : Str → Option Value} {Z : Zt} {I I1 : Hp} {μ μ1 : List Addr} {Φ : Ro → Sto → Prop} {Q : L2.St → Hp → Prop} (k : Kn K mg Z I μ Φ Q) (e : Ext I μ I1 μ1) : Kn K mg Z I1 μ1 Φ Q :=
  fun σ ρ I' μ' S' H' e' => k σ ρ I' μ' S' H' (e.trans e')
structure SG (X : Cx) (Γ : Gam) (e : Expr) (g : TG) (w : WG) : Prop where
  pg : PG X e g
  si : ∀ Z : Zt, Lk X Γ Z → SimG X.K X.mg Z g w
structure SGs (X : Cx) (Γ : Gam) (es : List Expr) (g : TGs) (w : WGs) : Prop where
  pg : PGs X es g
  si : ∀ Z : Zt, Lk X Γ Z → SimGs X.K X.mg Z g w
def wName (i : Nat) : WG := fun d ρ S Q => Q (st ρ i (some d)) S
def wGNil : WGs := fun ds ρ S Q => match ds with
  | [] => Q ρ S
  | _ => False
def wGCons (g : WG) (gs : WGs) : WGs := fun ds ρ S Q => match ds with
  | d :: r => g d ρ S fun ρ1 S1 => gs r ρ1 S1 Q
  | [] => False
def wGTup (n : Nat) (gs : WGs) : WG := fun d ρ S Q => match view S d with
  | .tup ds => ds.length = n ∧ gs ds ρ S Q
  | _ => False
theorem sim_name {K : PySem.W.Frag} {mg : Str → Option Value} {Z : Zt} {i : Nat} : SimG K mg Z (gName i) (wName i) := fun v d σ ρ I μ S H Q Φ r rs ok h k => k _ _ I μ S H .refl (rs.put r i) ok h
section
variable {X : Cx} {Γ : Gam} {pos : Pos}
theorem sg_name (i : Nat) {x : Str} (hN : X.N.Nodup) (hi : X.N[i]? = some x := by rfl) (hx : Loc X.env.scope x := by first | exact Or.inl rfl | exact Or.inr rfl) (hf : X.fn x = true ∨ X.env.scope.names.lookup x = some .local := by first | exact .inl rfl | exact .inr rfl | assumption) :
    SG X Γ (.Name x pos) (gName i) (wName i) := ⟨pg_name hN hi hx hf, fun _ _ => sim_name⟩
theorem sgs_nil : SGs X Γ [] gNil wGNil := ⟨pgs_nil, fun Z lk v d σ ρ I μ S H Q Φ r rs ok h k => by
  cases r with
  | nil => exact ⟨rfl, k σ ρ I μ S H .refl rs ok h⟩
  | cons _ _ => exact h.elim⟩
theorem sgs_cons {e : Expr} {es : List Expr} {g : TG} {gs : TGs} {w : WG} {ws : WGs} (h1 : SG X Γ e g w) (h2 : SGs X Γ es gs ws) (hs : (assignEach (e :: es) X.env).map (·.2) = assign e X.env :: (assignEach es X.env).map (·.2) := by rfl) : SGs X Γ (e :: es) (gCons g gs) (wGCons w ws) :=
  ⟨pgs_cons h1.pg h2.pg hs, fun Z lk v d σ ρ I μ S H Q Φ r rs ok h k => by
    cases r with
    | nil => exact h.elim
    | cons r t => exact ⟨_, _, rfl, h1.si Z lk _ _ σ ρ I μ S H _ _ r rs ok h fun σ' ρ' I' μ' S' H' e' rs' ok' q' => h2.si Z lk _ _ σ' ρ' I' μ' S' H' Q Φ (t.ext e') rs' ok' q' (k.ext e')⟩⟩
end
end Sq
set_option maxHeartbeats 4000000
namespace Sq
open PySem L2
section
variable {X : Cx} {Γ : Gam} {pos : Pos} {e tg : Expr} {es : List Expr} {te : TE} {we : WE} {g : TG} {gs : TGs} {w : WG} {ws : WGs}
theorem sg_tup {k n : Nat} (hc : X.calm = true) (h : SGs X Γ es gs ws) (hn : (assignEach es X.env).length = n := by rfl) (hst : (assignEach es X.env).findIdx? (·.1) = none := by rfl) : SG X Γ (.Tuple es k pos) (gTup X.K n gs) (wGTup n ws) :=
  ⟨pg_tup hc h.pg hn hst, fun Z lk v d σ ρ I μ S H Q Φ r rs ok hw kn => by
    unfold wGTup at hw
    split at hw
    · rename_i ds e1
      obtain ⟨p, vs, rfl, _, h1, r1⟩ := view_tup ok r e1
      exact ⟨p, vs, rfl, h1, by rw [r1.length]; exact hw.1, h.si Z lk _ _ σ ρ I μ S H Q Φ r1 rs ok hw.2 kn⟩
    · exact hw.elim⟩
def wAsg (we : WE) (g : WG) : WS := fun κ ρ S => we ρ S fun d S1 => g d ρ S1 κ.nx
theorem s_asg (he : SE X Γ e te we) (hg : SG X Γ tg g w) (hs : swapsWithSole [tg] e pos.line X.env = pure false := by rfl) (hw : swappedStores [tg] e X.env = pure none := by rfl) (h1 : (assignEach [tg] X.env).map (·.2) = [assign tg X.env] := by rfl) : SS X Γ (.Assign [tg] e pos) (tAsg te g) (wAsg we w) :=
  ⟨ps_asg he.pe hg.pg hs hw h1, fun Z lk σ ρ I μ S H E κ rs ok h c => he.si Z lk σ ρ I μ S H _ _ rs ok h fun v d I1 μ1 S1 H1 e1 o1 r1 q1 =>
    hg.si Z lk v d σ ρ I1 μ1 S1 H1 _ _ r1 (rs.ext e1) o1 q1 fun σ' ρ' I' μ' S' H' e' rs' ok' q' => c.nx σ' ρ' I' μ' S' H' (e1.trans e') rs' ok' q'⟩
def wPar (i j : Nat) (wa : WA) : WS := fun κ ρ S => wa ρ S fun ds S1 => match ds with
  | [a, b] => κ.nx (st (st ρ i (some a)) j (some b)) S1
  | _ => False
theorem s_par {x y : Str} {a b : Expr} {ta : TA} {wa : WA} {px py pt : Pos} {kt k2 pt2} (i j : Nat) (hc : X.calm = true) (hN : X.N.Nodup) (ha : SA X Γ [a, b] ta wa) (hp : PS X (.Assign [.Tuple [.Name x px, .Name y py] k2 pt2] (.Tuple [a, b] kt pt) pos) (tPar i j ta)) :
    SS X Γ (.Assign [.Tuple [.Name x px, .Name y py] k2 pt2] (.Tuple [a, b] kt pt) pos) (tPar i j ta) (wPar i j wa) :=
  ⟨hp, fun Z lk σ ρ I μ S H E κ rs ok h c => ha.si Z lk σ ρ I μ S H _ _ rs ok h fun vs ds I1 μ1 S1 H1 e1 o1 r1 q1 => by
    split at q1
    · rename_i da db
      cases r1 with
      | cons ra r1 =>
        cases r1 with
        | cons rb r1 =>
          cases r1
          exact ⟨_, _, rfl, c.nx _ _ I1 μ1 S1 H1 e1 (((rs.ext e1).put ra i).put rb j) o1 q1⟩
    · exact q1.elim⟩
end
structure Drw (K : PySem.W.Frag) (mg : Str → Option Value) (J : It) (I : Hp) (μ : List Addr) (ds : List D) : Prop where
  go : ∀ (Z : Zt) (i : Nat) (I' : Hp) (μ' : List Addr) (S : Sto) (H : Hp), Ext I μ I' μ' → Ok K mg Z I' μ' S H → i < ds.length → J.go i H
  yld : ∀ (Z : Zt) (i : Nat) (d : D) (I' : Hp) (μ' : List Addr) (S : Sto) (H : Hp) (x : V) (H' : Hp), Ext I μ I' μ' → Ok K mg Z I' μ' S H → ds[i]? = some d → J.yld i H x H' → ∃ I'', Ext I' μ' I'' μ' ∧ Ok K mg Z I'' μ' S H' ∧ Rp K mg I'' μ' x d
  stop : ∀ (Z : Zt) (I' : Hp) (μ' : List Addr) (S : Sto) (H : Hp), Ext I μ I' μ' → Ok K mg Z I' μ' S H → J.stop ds.length H
theorem Drw.ext {K : PySem.W.Frag} {mg : Str → Option Value} {J : It} {I I1 : Hp} {μ μ1 : List Addr} {ds : List D} (h : Drw K mg J I μ ds) (e : Ext I μ I1 μ1) : Drw K mg J I1 μ1 ds :=
  ⟨fun Z i I' μ' S H e' => h.go Z i I' μ' S H (e.trans e'), fun Z i d I' μ' S H x H' e' => h.yld Z i d I' μ' S H x H' (e.trans e'), fun Z I' μ' S H e' => h.stop Z I' μ' S H (e.trans e')⟩
def Kd (K : PySem.W.Frag) (mg : Str → Option Value) (Z : Zt) (I : Hp) (μ : List Addr) (Φ : List D → Sto → Prop) (R : It → Hp → Prop) : Prop :=
  ∀ (J : It) (ds : List D) (I' : Hp) (μ' : List Addr) (S' : Sto) (H' : Hp), Ext I μ I' μ' → Ok K mg Z I' μ' S' H' → Drw K mg J I' μ' ds → Φ ds S' → R J H'
structure SI (X : Cx) (Γ : Gam) (tg iter : Expr) (wi : TI) (w : WA) : Prop where
  pi : PI X tg iter wi
  si : ∀ (Z : Zt), Lk X Γ Z → ∀ (σ : L2.St) (ρ : Ro) (I : Hp) (μ : List Addr) (S : Sto) (H : Hp) (R : It → Hp → Prop) (Φ : List D → Sto → Prop), RpS X.K X.mg I μ σ ρ → Ok X.K X.mg Z I μ S H → w ρ S Φ → Kd X.K X.mg Z I μ Φ R → wi σ H R
theorem drw_list {K : PySem.W.Frag} {mg : Str → Option Value} {I : Hp} {μ : List Addr} {a : Addr} {vs : List V} {ds : List D} (h : I a = some (.lst vs)) (r : RpL K mg I μ vs ds) : Drw K mg (Itl K a) I μ ds where
  go := fun Z i I' μ' S H e o hi => ⟨vs, vs[i]'(by rw [r.length]; exact hi), SqL.of (o.sub _ _ (e.hp _ _ h)), List.getElem?_eq_getElem _⟩
  yld := fun Z i d I' μ' S H x H' e o hd y => by
    obtain ⟨rfl, y⟩ := y
    have q := y vs (SqL.of (o.sub _ _ (e.hp _ _ h)))
    obtain ⟨d', e1, r1⟩ := r.getV q
    rw [hd] at e1
    cases e1
    exact ⟨I', .refl, o, r1.ext e⟩
  stop := fun Z I' μ' S H e o => ⟨vs, SqL.of (o.sub _ _ (e.hp _ _ h)), by rw [r.length]; exact Nat.le_refl _⟩
theorem drw_tup {K : PySem.W.Frag} {mg : Str → Option Value} {I : Hp} {μ : List Addr} {a : Addr} {vs : List V} {ds : List D} (h : SqT K I a vs) (r : RpL K mg I μ vs ds) : Drw K mg (Itt K a) I μ ds where
  go := fun Z i I' μ' S H e o hi => ⟨vs, vs[i]'(by rw [r.length]; exact hi), same_t o.sub (same_t e.hp h), List.getElem?_eq_getElem _⟩
  yld := fun Z i d I' μ' S H x H' e o hd y => by
    obtain ⟨rfl, y⟩ := y
    have q := y vs (same_t o.sub (same_t e.hp h))
    obtain ⟨d', e1, r1⟩ := r.getV q
    rw [hd] at e1
    cases e1
    exact ⟨I', .refl, o, r1.ext e⟩
  stop := fun Z I' μ' S H e o => ⟨vs, same_t o.sub (same_t e.hp h), by rw [r.length]; exact Nat.le_refl _⟩
def rngD (lo : Int) (n : Nat) : List D := (List.range n).map fun (k : Nat) => D.int (lo + (k : Int))
theorem rngD_length (lo : Int) (n : Nat) : (rngD lo n).length = n := by simp [rngD]
theorem drw_rng {K : PySem.W.Frag} {mg : Str → Option Value} {I : Hp} {μ : List Addr} {lo : Int} {n : Nat} : Drw K mg (Itr lo n) I μ (rngD lo n) where
  go := fun Z i I' μ' S H e o hi => by rw [rngD_length] at hi; exact hi
  yld := fun Z i d I' μ' S H x H' e o hd y => by
    obtain ⟨rfl, rfl⟩ := y
    unfold rngD at hd
    rw [List.getElem?_map] at hd
    have hi : i < n := by
      have := (List.getElem?_eq_some_iff.mp (show (rngD lo n)[i]? = some d from by unfold rngD; rw [List.getElem?_map]; exact hd)).1
      rw [rngD_length] at this
      exact this
    rw [List.getElem?_range hi] at hd
    cases hd
    exact ⟨I', .refl, o, .int⟩
  stop := fun Z I' μ' S H e o => by rw [rngD_length]; exact Nat.le_refl _
def wItL (we : WE) : WA := fun ρ S Q => we ρ S fun d S1 => match d with
  | .lst ds => Q ds S1
  | .h n => match S1[n]? with
    | some (.lst ds) => Q ds (S1.set n (.frz (.lst ds)))
    | some (.frz (.lst ds)) => Q ds S1
    | _ => False
  | _ => False
def wItT (we : WE) : WA := fun ρ S Q => we ρ S fun d S1 => match view S1 d with
  | .tup ds => Q ds S1
  | _ => False
section
variable {X : Cx} {Γ : Gam} {tg e : Expr} {te : TE} {we : WE} {pos p : Pos}
theorem si_list (h : SE X Γ e te we) : SI X Γ tg e (iList X.K te) (wItL we) :=
  ⟨pi_list h.pe, fun Z lk σ ρ I μ S H R Φ rs ok hw k => h.si Z lk σ ρ I μ S H _ _ rs ok hw fun v d I1 μ1 S1 H1 e1 o1 r1 q1 => by
    split at q1
    · cases r1 with
      | lst z t => exact ⟨_, rfl, ⟨_, SqL.of (o1.sub _ _ z)⟩, k _ _ I1 μ1 S1 H1 e1 o1 (drw_list z t) q1⟩
    · split at q1
      · rename_i n _ ds q
        cases r1 with
        | h z =>
          obtain ⟨a, I2, z2, e2, o2, r2⟩ := o1.freeze q
          rw [z] at z2
          cases z2
          cases r2 with
          | lst y t => exact ⟨_, rfl, ⟨_, SqL.of (o2.sub _ _ y)⟩, k _ _ I2 μ1 _ H1 (e1.trans e2) o2 (drw_list y t) q1⟩
      · rename_i n _ ds q
        cases r1 with
        | h z =>
          have y := (o1.ob n _ _ z q).2
          cases y with
          | lst y t => exact ⟨_, rfl, ⟨_, SqL.of (o1.sub _ _ y)⟩, k _ _ I1 μ1 _ H1 e1 o1 (drw_list y t) q1⟩
      · exact q1.elim
    · exact q1.elim⟩
theorem si_tup (h : SE X Γ e te we) : SI X Γ tg e (iTup X.K te) (wItT we) :=
  ⟨pi_tup h.pe, fun Z lk σ ρ I μ S H R Φ rs ok hw k => h.si Z lk σ ρ I μ S H _ _ rs ok hw fun v d I1 μ1 S1 H1 e1 o1 r1 q1 => by
    split at q1
    · rename_i ds q
      obtain ⟨a, vs, rfl, z, y, t⟩ := view_tup o1 r1 q
      exact ⟨_, rfl, ⟨_, y⟩, k _ _ I1 μ1 S1 H1 e1 o1 (drw_tup z t) q1⟩
    · exact q1.elim⟩
def BIG : Int := 2 ^ 62
def wRng1 (wa : WA) : WA := fun ρ S Q => wa ρ S fun ds S1 => match ds with
  | [.int j] => -BIG ≤ j ∧ j < BIG ∧ Q (rngD 0 j.toNat) S1
  | _ => False
theorem si_rng1 {a : Expr} {ta : TA} {wa : WA} (hm : X.mg "range" = none) (ha : SA X Γ [a] ta wa) (hg : Gl X "range" := by rfl) (hs : starEach [a] X.env = [(false, eval a X.env)] := by rfl) : SI X Γ tg (.Call (.Name "range" p) [a] [] pos) (iRng1 ta) (wRng1 wa) :=
  ⟨pi_range1 hg hm ha.pa hs, fun Z lk σ ρ I μ S H R Φ rs ok hw k => ha.si Z lk σ ρ I μ S H _ _ rs ok hw fun vs ds I1 μ1 S1 H1 e1 o1 r1 q1 => by
    split at q1
    · rename_i j
      cases r1 with
      | cons r t =>
        cases t
        cases r
        exact ⟨j, rfl, q1.1, q1.2.1, k _ _ I1 μ1 S1 H1 e1 o1 drw_rng q1.2.2⟩
    · exact q1.elim⟩
end
def loopD (g : WG) (w : WS) (κ : WK) : List D → Ro → Sto → Prop
  | [], ρ, S => κ.nx ρ S
  | d :: ds, ρ, S => g d ρ S fun ρ1 S1 => w { κ with nx := loopD g w κ ds, ct := loopD g w κ ds, bk := κ.nx } ρ1 S1
def wFor (wi : WA) (g : WG) (w : WS) : WS := fun κ ρ S => wi ρ S fun ds S1 => loopD g w κ ds ρ S1
section
variable {X : Cx} {Γ : Gam} {tg iter : Expr} {body : List Stmt} {wi : TI} {wa : WA} {g : TG} {wg : WG} {tb : TS} {wb : WS} {pos : Pos}
theorem s_for (hp : PassesOwn (model X.prog X.w) X.A X.env X.xe) (hc : X.calm = true) (hi : SI X Γ tg iter wi wa) (hg : SG X Γ tg g wg) (hb : SSs X Γ body tb wb) (hs : ∀ x, foldedSetIterable iter X.env x = pure x := by intro _; rfl) :
    SS X Γ (.For tg iter body [] pos) (tFor wi g tb) (wFor wa wg wb) :=
  ⟨ps_for hp hc hi.pi hg.pg hb.ps hs, fun Z lk σ ρ I μ S H E κ rs ok hw c => hi.si Z lk σ ρ I μ S H _ _ rs ok hw fun J ds I1 μ1 S1 H1 e1 o1 dr q1 => by
    refine ⟨fun i m σ' H' => m = ds.length - i ∧ i ≤ ds.length ∧ ∃ ρ' I' μ' S', Ext I1 μ1 I' μ' ∧ RpS X.K X.mg I' μ' σ' ρ' ∧ Ok X.K X.mg Z I' μ' S' H' ∧ loopD wg wb κ (ds.drop i) ρ' S',
      ⟨ds.length, by simp, Nat.zero_le _, ρ, I1, μ1, S1, .refl, rs.ext e1, o1, by simpa using q1⟩, ?_⟩
    rintro i m σ' H' ⟨rfl, hi, ρ', I', μ', S', e', rs', o', q'⟩
    by_cases hlt : i < ds.length
    · have hd : ds[i]? = some ds[i] := List.getElem?_eq_getElem hlt
      rw [List.drop_eq_getElem_cons hlt] at q'
      refine .inr ⟨dr.go Z i I' μ' S' H' e' o' hlt, fun σ2 H2 => ∃ ρ2 I2 μ2 S2, Ext I1 μ1 I2 μ2 ∧ RpS X.K X.mg I2 μ2 σ2 ρ2 ∧ Ok X.K X.mg Z I2 μ2 S2 H2 ∧ loopD wg wb κ (ds.drop (i + 1)) ρ2 S2, fun σ2 H2 y => ⟨ds.length - (i + 1), by omega, rfl, hlt, y⟩, fun x H2 y => ?_⟩
      obtain ⟨I2, e2, o2, r2⟩ := dr.yld Z i _ I' μ' S' H' x H2 e' o' hd y
      refine hg.si Z lk x _ σ' ρ' I2 μ' S' H2 _ _ r2 (rs'.ext e2) o2 q' fun σ3 ρ3 I3 μ3 S3 H3 e3 rs3 o3 q3 => ?_
      have e13 : Ext I1 μ1 I3 μ3 := (e'.trans e2).trans e3
      refine hb.si Z lk σ3 ρ3 I3 μ3 S3 H3 _ _ rs3 o3 q3 ⟨fun σ4 ρ4 I4 μ4 S4 H4 e4 rs4 o4 q4 => ⟨ρ4, I4, μ4, S4, e13.trans e4, rs4, o4, q4⟩, c.rt.ext (e1.trans e13), fun σ4 ρ4 I4 μ4 S4 H4 e4 rs4 o4 q4 => c.nx σ4 ρ4 I4 μ4 S4 H4 ((e1.trans e13).trans e4) rs4 o4 q4,
        fun σ4 ρ4 I4 μ4 S4 H4 e4 rs4 o4 q4 => ⟨ρ4, I4, μ4, S4, e13.trans e4, rs4, o4, q4⟩⟩
    · have hi' : i = ds.length := by omega
      subst hi'
      rw [List.drop_length] at q'
      exact .inl ⟨dr.stop Z I' μ' S' H' e' o', c.nx σ' ρ' I' μ' S' H' (e1.trans e') rs' o' q'⟩⟩
def wWhile (wt : WT) (wb : WS) : WS := fun κ ρ S => ∃ W : Nat → Ro → Sto → Prop, (∃ m, W m ρ S) ∧ ∀ m ρ S, W m ρ S → wt ρ S fun b S1 =>
  if b = true then wb { κ with nx := fun ρ' S' => ∃ m', m' < m ∧ W m' ρ' S', ct := fun ρ' S' => ∃ m', m' < m ∧ W m' ρ' S', bk := κ.nx } ρ S1 else κ.nx ρ S1
variable {c : Expr} {tc : TT} {wt : WT}
theorem s_while (hp : PassesOwn (model X.prog X.w) X.A X.env X.xe) (hc : ST X Γ c tc wt) (hb : SSs X Γ body tb wb) : SS X Γ (.While c body [] pos) (tWhile tc tb) (wWhile wt wb) :=
  ⟨ps_while hp hc.pt hb.ps, fun Z lk σ ρ I μ S H E κ rs ok hw k => by
    obtain ⟨W, ⟨m0, h0⟩, turn⟩ := hw
    refine ⟨fun m σ' H' => ∃ ρ' I' μ' S', Ext I μ I' μ' ∧ RpS X.K X.mg I' μ' σ' ρ' ∧ Ok X.K X.mg Z I' μ' S' H' ∧ W m ρ' S', ⟨m0, ρ, I, μ, S, .refl, rs, ok, h0⟩, ?_⟩
    rintro m σ' H' ⟨ρ', I', μ', S', e', rs', o', q'⟩
    refine hc.si Z lk σ' ρ' I' μ' S' H' _ _ rs' o' (turn m ρ' S' q') fun b I1 μ1 S1 H1 e1 o1 q1 => ?_
    cases b with
    | true =>
      rw [if_pos rfl] at q1 ⊢
      refine ⟨fun σ2 H2 => ∃ m', m' < m ∧ ∃ ρ2 I2 μ2 S2, Ext I μ I2 μ2 ∧ RpS X.K X.mg I2 μ2 σ2 ρ2 ∧ Ok X.K X.mg Z I2 μ2 S2 H2 ∧ W m' ρ2 S2, fun σ2 H2 y => y, ?_⟩
      have e01 : Ext I μ I1 μ1 := e'.trans e1
      refine hb.si Z lk σ' ρ' I1 μ1 S1 H1 _ _ (rs'.ext e1) o1 q1 ⟨fun σ4 ρ4 I4 μ4 S4 H4 e4 rs4 o4 ⟨m', hm, q4⟩ => ⟨m', hm, ρ4, I4, μ4, S4, e01.trans e4, rs4, o4, q4⟩, k.rt.ext e01, fun σ4 ρ4 I4 μ4 S4 H4 e4 rs4 o4 q4 => k.nx σ4 ρ4 I4 μ4 S4 H4 (e01.trans e4) rs4 o4 q4,
        fun σ4 ρ4 I4 μ4 S4 H4 e4 rs4 o4 ⟨m', hm, q4⟩ => ⟨m', hm, ρ4, I4, μ4, S4, e01.trans e4, rs4, o4, q4⟩⟩
    | false =>
      rw [if_neg Bool.false_ne_true] at q1 ⊢
      exact k.nx σ' ρ' I1 μ1 S1 H1 (e'.trans e1) (rs'.ext e1) o1 q1⟩
end
abbrev FSp := List D → Sto → (D → Sto → Prop) → Prop
def spOf (K : PySem.W.Frag) (mg : Str → Option Value) (n : Nat) (sp : FSp) : Sp := fun vs H Q _ => vs.length = n ∧ ∃ (ds : List D) (Z : Zt) (I : Hp) (μ : List Addr) (S : Sto) (Φ : D → Sto → Prop), RpL K mg I μ vs ds ∧ Ok K mg Z I μ S H ∧ sp ds S Φ ∧ Kp K mg Z I μ Φ Q
def wCall (n : Nat) (sp : FSp) (dd : List D) (wa : WA) : WE := fun ρ S Q => wa ρ S fun ds S1 => (ds ++ dd).length = n ∧ sp (ds ++ dd) S1 Q
section
variable {X : Cx} {Γ : Gam} {k j n : Nat} {x m : Str} {sp : FSp} {dvs : List V} {dd : List D} {p pos apos : Pos} {e : Expr} {es : List Expr} {t : TA} {wa : WA}
theorem sim_call {K : PySem.W.Frag} {mg : Str → Option Value} {Z : Zt} (hd : ∀ I μ, RpL K mg I μ dvs dd) (ha : SimA K mg Z t wa) : Sim K mg Z (tCall (spOf K mg n sp) dvs C8.E0 t) (wCall n sp dd wa) := fun σ ρ I μ S H Q Φ rs ok hw k =>
  ha σ ρ I μ S H _ _ rs ok hw fun vs ds I1 μ1 S1 H1 e1 o1 r1 q1 => by
    have r2 := r1.append (hd I1 μ1)
    exact ⟨by rw [r2.length]; exact q1.1, _, Z, I1, μ1, S1, Φ, r2, o1, q1.2, k.ext e1⟩
theorem se_call (c : C8.Cal X.prog X.w X.K X.mg X.base k x (spOf X.K X.mg n sp) dvs) (hr : Room j X.A) (hk : k ≤ j) (hd : ∀ I μ, RpL X.K X.mg I μ dvs dd) (ha : SA X Γ (e :: es) t wa) (hg : Gl X x := by rfl)
    (hdb : (x == ("__debug__" : Str)) = false := by decide) (he : starEach (e :: es) X.env = (false, eval e X.env) :: starEach es X.env := by rfl) (hpl : (backTo pos (starEach es X.env)).any (·.1) = false := by rfl) :
    SE X Γ (.Call (.Name x p) (e :: es) [] pos) (tCall (spOf X.K X.mg n sp) dvs C8.E0 t) (wCall n sp dd wa) := ⟨C8.pe_c c hr hk hg ha.pa hdb he hpl, fun Z lk => sim_call hd (ha.si Z lk)⟩
def wB (f : List D → Sto → (D → Sto → Prop) → Prop) (wa : WA) : WE := fun ρ S Q => wa ρ S fun ds S1 => f ds S1 Q
def CbD (K : PySem.W.Frag) (mg : Str → Option Value) (Z : Zt) (r : List V → Hp → VK → Prop) (f : FSp) : Prop :=
  ∀ (I : Hp) (μ : List Addr) (S : Sto) (H : Hp) (vs : List V) (ds : List D) (Q : VK) (Φ : D → Sto → Prop), Ok K mg Z I μ S H → RpL K mg I μ vs ds → f ds S Φ → Kp K mg Z I μ Φ Q → r vs H Q
theorem sim_cb {K : PySem.W.Frag} {mg : Str → Option Value} {Z : Zt} {r : List V → Hp → VK → Prop} {f : FSp} (h : CbD K mg Z r f) (ha : SimA K mg Z t wa) : Sim K mg Z (tCB r t) (wB f wa) := fun σ ρ I μ S H Q Φ rs ok hw k =>
  ha σ ρ I μ S H _ _ rs ok hw fun vs ds I1 μ1 S1 H1 e1 o1 r1 q1 => h I1 μ1 S1 H1 vs ds Q Φ o1 r1 q1 (k.ext e1)
theorem se_cb {id : String} {r : List V → Hp → VK → Prop} {f : FSp} (hc : CallR X (.builtin id) r) (h : ∀ Z, CbD X.K X.mg Z r f) (hm : X.mg x = none) (hv : bootBuiltins x = some (.builtin id)) (ha : SA X Γ (e :: es) t wa) (hg : Gl X x := by rfl) (hn : x ≠ "__name__" := by decide) (hdb : (x == ("__debug__" : Str)) = false := by decide)
    (he : starEach (e :: es) X.env = (false, eval e X.env) :: starEach es X.env := by rfl) (hpl : (backTo pos (starEach es X.env)).any (·.1) = false := by rfl) : SE X Γ (.Call (.Name x p) (e :: es) [] pos) (tCB r t) (wB f wa) :=
  ⟨pe_callB hc hg hm hv ha.pa hn hdb he hpl, fun Z lk => sim_cb (h Z) (ha.si Z lk)⟩
theorem se_cty {T : String} {r : List V → Hp → VK → Prop} {f : FSp} (hc : CallR X (.type T) r) (h : ∀ Z, CbD X.K X.mg Z r f) (hm : X.mg x = none) (hv : bootBuiltins x = some (.type T)) (ha : SA X Γ (e :: es) t wa) (hg : Gl X x := by rfl) (hn : x ≠ "__name__" := by decide) (hdb : (x == ("__debug__" : Str)) = false := by decide)
    (he : starEach (e :: es) X.env = (false, eval e X.env) :: starEach es X.env := by rfl) (hpl : (backTo pos (starEach es X.env)).any (·.1) = false := by rfl) : SE X Γ (.Call (.Name x p) (e :: es) [] pos) (tCB r t) (wB f wa) :=
  ⟨pe_callTy hc hg hm hv ha.pa hn hdb he hpl, fun Z lk => sim_cb (h Z) (ha.si Z lk)⟩
end
def ro (N : List Str) (ds : List D) : Ro := ds.map some ++ List.replicate (N.length - ds.length) none
theorem gt_ix : ∀ {ρ : Ro} {i : Nat} {d : D}, gt ρ i = some d → ρ[i]? = some (some d)
  | [], _, _, h => by simp [gt] at h
  | x :: r, 0, d, h => by simp [gt] at h; simp [h]
  | x :: r, i + 1, d, h => by simpa using gt_ix (ρ := r) (i := i) (d := d) (by simpa [gt] using h)
theorem rps_start {K : PySem.W.Frag} {mg : Str → Option Value} {I : Hp} {μ : List Addr} {N : List Str} {vs : List V} {ds : List D} (r : RpL K mg I μ vs ds) : RpS K mg I μ (L2.start N vs) (ro N ds) := by
  refine ⟨by simp [L2.start, ro, r.length], fun i d h => ?_⟩
  have q := gt_ix h
  unfold ro at q
  by_cases hi : i < ds.length
  · rw [List.getElem?_append_left (by simpa using hi), List.getElem?_map] at q
    cases e : ds[i]? with
    | none => rw [e] at q; simp at q
    | some d' =>
      rw [e] at q
      simp at q
      subst q
      obtain ⟨v, e1, r1⟩ := r.get e
      refine ⟨v, ?_, r1⟩
      unfold L2.start
      rw [List.getElem?_append_left (by rw [List.length_map, r.length]; exact hi), List.getElem?_map, e1]
      rfl
  · rw [List.getElem?_append_right (by simpa using Nat.le_of_not_lt hi), List.getElem?_replicate] at q
    split at q
    · cases q
    · cases q
abbrev Bx (P : Program) (w : World) (K : PySem.W.Frag) (mg : Str → Option Value) (base : Heap) (N : List Str) (qual : Str) (sc : Scope) (f : Addr) (cdv : Value) (A : Around) (outer : List Env) (s : Shared) (H : Hp) (E : XK) : Cx :=
  (cxOf C8.CX0 P w K mg base N qual sc f cdv A outer s H E).nox
section
variable {P : Program} {w : World} {K : PySem.W.Frag} {mg : Str → Option Value} {base : Heap}
def Bd (P : Program) (w : World) (K : PySem.W.Frag) (mg : Str → Option Value) (base : Heap) (k : Nat) (N : List Str) (qual : Str) (s : Stmt) (wb : WS) : Prop :=
  ∀ (f : Addr) (cdv : Value) (A : Around) (outer : List Env) (sh : Shared) (H : Hp) (E : XK), Room k (A.deeper (PyProof.Rows.envOfC qual (C8.fnScope s) sh.heap.objs.size f cdv)) →
    ∃ t, SSs (Bx P w K mg base N qual (C8.fnScope s) f cdv A outer sh H E) G0 (C8.fnBody s) t wb
theorem fn_data {x qual : Str} {s : Stmt} {f : Addr} {fd : FuncData} {N ps : List Str} {k : Nat} {wb : WS} {sp : FSp} (F : C8.Fun K x qual s f fd) (S : FnScope N ps (C8.fnScope s)) (d : Bd P w K mg base k N qual s wb)
    (law : ∀ (ds : List D) (S : Sto) (Φ : D → Sto → Prop), ds.length = ps.length → sp ds S Φ → wb { nx := fun _ S' => Φ .non S', rt := Φ } (ro N ds) S) : FnOk P w K mg base C8.CX0 (k + 1) f fd ps (spOf K mg ps.length sp) := by
  refine C8.fn0 F S (fun vs H Q E h => h.1) fun cdv A outer s' H vs Q E hr h => ?_
  obtain ⟨hl, ds, Z, I, μ, St, Φ, r, ok, hs, kp⟩ := h
  obtain ⟨t, q⟩ := d f cdv A outer s' H E hr
  refine ⟨t, q.ps, q.si Z Lk.zero (L2.start N vs) (ro N ds) I μ St H _ _ (rps_start r) ok (law ds St Φ (by rw [← r.length]; exact hl) hs) ⟨fun σ' ρ' I' μ' S' H' e' rs' ok' q' => ?_, kp, fun _ _ _ _ _ _ _ _ _ z => z.elim, fun _ _ _ _ _ _ _ _ _ z => z.elim⟩⟩
  exact kp .non .non I' μ' S' H' e' ok' .non q'
theorem cal_data {x : Str} {s : Stmt} {f : Addr} {fd : FuncData} {N ps : List Str} {ds : List Value} {dvs : List V} {k : Nat} {wb : WS} {sp : FSp} (F : C8.Def K mg x s f fd) (b : Binds K fd ps ds) (dv : Vals dvs ds) (S : FnScope N ps (C8.fnScope s)) (d : Bd P w K mg base k N x s wb)
    (law : ∀ (ds : List D) (S : Sto) (Φ : D → Sto → Prop), ds.length = ps.length → sp ds S Φ → wb { nx := fun _ S' => Φ .non S', rt := Φ } (ro N ds) S) : C8.Cal P w K mg base (k + 1) x (spOf K mg ps.length sp) dvs :=
  ⟨f, fd, ps, ds, fn_data F.fn S d law, F.mgf, F.kp, b, dv⟩
end
end Sq
set_option maxHeartbeats 4000000
namespace Sq
open PySem L2
def wp (ρ : Ro) : List Nat → Ro
  | [] => ρ
  | v :: vs => st (wp ρ vs) v none
theorem wp_length (ρ : Ro) : ∀ vs : List Nat, (wp ρ vs).length = ρ.length
  | [] => rfl
  | v :: vs => by unfold wp; rw [st_length, wp_length ρ vs]
theorem gt_wp {ρ : Ro} {i : Nat} {d : D} : ∀ {vs : List Nat}, gt (wp ρ vs) i = some d → gt ρ i = some d ∧ i ∉ vs
  | [], h => ⟨h, by simp⟩
  | v :: vs, h => by
    unfold wp at h
    rw [gt_st] at h
    split at h
    · cases h
    · rename_i c
      obtain ⟨h1, h2⟩ := gt_wp h
      refine ⟨h1, fun hm => ?_⟩
      rcases List.mem_cons.mp hm with rfl | hm
      · exact c ⟨rfl, by rw [wp_length]; exact gt_lt h1⟩
      · exact h2 hm
theorem rps_wipe {K : PySem.W.Frag} {mg : Str → Option Value} {I : Hp} {μ : List Addr} {σ : L2.St} {ρ : Ro} (r : RpS K mg I μ σ ρ) (vs : List Nat) : RpS K mg I μ (wipe σ vs) (wp ρ vs) :=
  ⟨by rw [wipe_length, wp_length]; exact r.len, fun i d h => by
    obtain ⟨h1, h2⟩ := gt_wp h
    obtain ⟨v, e, q⟩ := r.get i d h1
    exact ⟨v, by rw [wipe_out h2]; exact e, q⟩⟩
theorem wipe_ix (σ : L2.St) (j : Nat) : ∀ vs : List Nat, (wipe σ vs)[j]? = if j ∈ vs then (if j < σ.length then some none else none) else σ[j]?
  | [] => by simp [wipe]
  | v :: vs => by
    unfold wipe
    by_cases e : v = j
    · subst e
      rw [List.getElem?_set]
      simp [wipe_length]
    · rw [List.getElem?_set_ne e, wipe_ix σ j vs]
      have e' : ¬ j = v := fun q => e q.symm
      simp [e']
theorem wipe_back (σ : L2.St) {i : Nat} {vs : List Nat} {o : Option V} (h : i ∈ vs) : wipe (σ.set i o) vs = wipe σ vs := by
  apply List.ext_getElem?
  intro j
  rw [wipe_ix, wipe_ix, List.length_set]
  by_cases hj : j ∈ vs
  · simp [hj]
  · simp only [hj, if_false]
    rw [List.getElem?_set_ne (fun q => hj (by rw [← q]; exact h))]
theorem wipe_twice (σ : L2.St) (vs : List Nat) : wipe (wipe σ vs) vs = wipe σ vs := by
  apply List.ext_getElem?
  intro j
  rw [wipe_ix, wipe_ix, wipe_length]
  by_cases hj : j ∈ vs <;> simp [hj]
def SimW (K : PySem.W.Frag) (mg : Str → Option Value) (Z : Zt) (vs : List Nat) (g : TG) (w : WG) : Prop :=
  ∀ (v : V) (d : D) (σ σ0 : L2.St) (ρ : Ro) (I : Hp) (μ : List Addr) (S : Sto) (H : Hp) (Q : L2.St → Hp → Prop) (Φ : Ro → Sto → Prop), Rp K mg I μ v d → wipe σ vs = wipe σ0 vs → RpS K mg I μ σ ρ → Ok K mg Z I μ S H → w d ρ S Φ → Kn K mg Z I μ Φ Q → g v σ H fun σ2 H2 => wipe σ2 vs = wipe σ0 vs ∧ Q σ2 H2
theorem simw_name {K : PySem.W.Frag} {mg : Str → Option Value} {Z : Zt} {vs : List Nat} {i : Nat} (hi : i ∈ vs) : SimW K mg Z vs (gName i) (wName i) := fun v d σ σ0 ρ I μ S H Q Φ r e rs ok h k =>
  ⟨by rw [wipe_back σ hi]; exact e, k _ _ I μ S H .refl (rs.put r i) ok h⟩
def compD (g : WG) (wt : WT) (we : WE) (ρ : Ro) (Q : List D → Sto → Prop) : List D → List D → Sto → Prop
  | [], acc, S => Q acc S
  | d :: ds, acc, S => g d ρ S fun ρ1 S1 => wt ρ1 S1 fun b S2 => if b = true then we ρ1 S2 fun y S3 => acc.length < LIM ∧ compD g wt we ρ Q ds (acc ++ [y]) S3 else compD g wt we ρ Q ds acc S2
def wYes : WT := fun _ S Q => Q true S
def wLc (wi : WA) (g : WG) (wt : WT) (we : WE) (vs : List Nat) : WE := fun ρ S Q => wi ρ S fun ds S1 => compD g wt we (wp ρ vs) (fun acc S2 => Q (.lst acc) S2) ds [] S1
def wLcM (wi : WA) (g : WG) (wt : WT) (we : WE) (vs : List Nat) : WE := fun ρ S Q => wi ρ S fun ds S1 => compD g wt we (wp ρ vs) (fun acc S2 => Q (.h S2.length) (S2 ++ [.lst acc])) ds [] S1
abbrev Zt.up (Z : Zt) (p : Addr) (u : HO) : Zt := ⟨upd Z.z p u, Z.g, Z.cl⟩
theorem Ok.beside {K : PySem.W.Frag} {mg : Str → Option Value} {Z : Zt} {I : Hp} {μ : List Addr} {S : Sto} {H : Hp} (o : Ok K mg Z I μ S H) {p : Addr} {u : HO} (h : H p = none) : Ok K mg (Z.up p u) I μ S (upd H p u) := by
  have k := o.lay (o := u) h
  refine ⟨fun b v e => ?_, o.gnd, k.sub, k.len, k.nd, k.ob⟩
  have e : upd Z.z p u b = some v := e
  by_cases q : b = p
  · subst q
    rw [upd_same] at e
    cases e
    exact ⟨upd_same, free_of o.sub h, fun hm => by
      obtain ⟨n, hn⟩ := List.getElem?_of_mem hm
      exact (o.there hn) h⟩
  · rw [upd_ne q] at e
    exact k.fra b v e
theorem Ok.beside_put {K : PySem.W.Frag} {mg : Str → Option Value} {Z : Zt} {I : Hp} {μ : List Addr} {S : Sto} {H : Hp} {p : Addr} {u v : HO} (o : Ok K mg (Z.up p u) I μ S H) : Ok K mg (Z.up p v) I μ S (upd H p v) := by
  obtain ⟨hp, hi, hm⟩ := o.fra p u upd_same
  refine ⟨fun b x e => ?_, o.gnd, fun b x e => ?_, o.len, o.nd, fun n b m hb hm' => ?_⟩
  · have e : upd Z.z p v b = some x := e
    by_cases q : b = p
    · subst q
      rw [upd_same] at e
      cases e
      exact ⟨upd_same, hi, hm⟩
    · rw [upd_ne q] at e ⊢
      exact o.fra b x (by show upd Z.z p _ b = some x; rw [upd_ne q]; exact e)
  · rw [upd_ne (ne_of_none e hi)]; exact o.sub b x e
  · have q : b ≠ p := fun z => hm (by rw [← z]; exact List.mem_of_getElem? hb)
    exact (o.ob n b m hb hm').ext Ext.refl (upd_ne q) fun _ i => i
theorem Ok.beside_new {K : PySem.W.Frag} {mg : Str → Option Value} {Z : Zt} {I : Hp} {μ : List Addr} {S : Sto} {H : Hp} {p : Addr} {u : HO} (o : Ok K mg (Z.up p u) I μ S H) (hz : Z.z p = none) : Ok K mg Z (upd I p u) μ S H := by
  obtain ⟨hp, hi, hm⟩ := o.fra p u upd_same
  refine ⟨fun b x e => ?_, Z.cl _ _ _ _ (Ext.new hi) o.gnd, fun b x e => ?_, o.len, o.nd, fun n b m hb hm' => ?_⟩
  · have q : b ≠ p := ne_of_none e hz
    obtain ⟨x1, x2, x3⟩ := o.fra b x (by show upd Z.z p _ b = some x; rw [upd_ne q]; exact e)
    exact ⟨x1, by rw [upd_ne q]; exact x2, x3⟩
  · by_cases q : b = p
    · subst q; rw [upd_same] at e; cases e; exact hp
    · rw [upd_ne q] at e; exact o.sub b x e
  · have q : b ≠ p := fun z => hm (by rw [← z]; exact List.mem_of_getElem? hb)
    exact (o.ob n b m hb hm').ext (Ext.new hi) rfl fun _ i => by rw [upd_ne q]; exact i
theorem Ok.beside_push {K : PySem.W.Frag} {mg : Str → Option Value} {Z : Zt} {I : Hp} {μ : List Addr} {S : Sto} {H : Hp} {p : Addr} {vs : List V} {ds : List D} (o : Ok K mg (Z.up p (.lst vs)) I μ S H) (hz : Z.z p = none) (r : RpL K mg I μ vs ds) : Ok K mg Z I (μ ++ [p]) (S ++ [.lst ds]) H := by
  obtain ⟨hp, hi, hm⟩ := o.fra p (.lst vs) upd_same
  refine ⟨fun b x e => ?_, Z.cl _ _ _ _ Ext.push o.gnd, o.sub, by simp [o.len], ?_, fun n b m hb hm' => ?_⟩
  · have q : b ≠ p := ne_of_none e hz
    obtain ⟨x1, x2, x3⟩ := o.fra b x (by show upd Z.z p _ b = some x; rw [upd_ne q]; exact e)
    exact ⟨x1, x2, fun z => by
      rcases List.mem_append.mp z with z | z
      · exact x3 z
      · simp at z; exact q z⟩
  · exact List.nodup_append.mpr ⟨o.nd, by simp, fun b hb c hc => by
      simp at hc
      subst hc
      intro z
      subst z
      exact hm hb⟩
  · by_cases hn : n < μ.length
    · rw [List.getElem?_append_left hn] at hb
      rw [List.getElem?_append_left (by rw [← o.len]; exact hn)] at hm'
      exact (o.ob n b m hb hm').ext Ext.push rfl fun _ i => i
    · have hl : n < (μ ++ [p]).length := (List.getElem?_eq_some_iff.mp hb).1
      have e : n = μ.length := by simp at hl; omega
      subst e
      rw [List.getElem?_append_right (Nat.le_refl _)] at hb
      rw [List.getElem?_append_right (by rw [o.len]; exact Nat.le_refl _)] at hm'
      simp [o.len] at hb hm'
      subst hb hm'
      exact ⟨hi, vs, hp, r.ext Ext.push⟩
section
variable {X : Cx} {Γ : Gam} {elt tg iter : Expr} {ifs : List Expr} {scope : Scope} {own : List (Str × Nat)} {pos : Pos} {wi : TI} {wa : WA} {g : TG} {wg : WG} {tt : TT} {wt : WT} {te : TE} {we : WE}
structure SB (X : Cx) (scope : Scope) (vs : List Nat) (tg : Expr) (g : TG) (w : WG) : Prop where
  pg : ∀ (s : Shared) (H : Hp) (C : Addr) (cl : List (Str × Addr)) (fp : List Addr), PG (X.blk s H scope (compEnvC scope cl C X.env) fp) tg g
  si : ∀ Z, SimW X.K X.mg Z vs g w
structure SF (X : Cx) (scope : Scope) (ifs : List Expr) (tt : TT) (w : WT) : Prop where
  pt : ∀ (s : Shared) (H : Hp) (C : Addr) (cl : List (Str × Addr)) (fp : List Addr), PTs (X.blk s H scope (compEnvC scope cl C X.env) fp) ifs tt
  si : ∀ Z, SimT X.K X.mg Z tt w
structure SX (X : Cx) (scope : Scope) (e : Expr) (te : TE) (w : WE) : Prop where
  pe : ∀ (s : Shared) (H : Hp) (C : Addr) (cl : List (Str × Addr)) (fp : List Addr), PE (X.blk s H scope (compEnvC scope cl C X.env) fp) e te
  si : ∀ Z, Sim X.K X.mg Z te w
theorem SX.of {tf : Shared → Hp → Addr → List (Str × Addr) → List Addr → TE} (h : ∀ (s : Shared) (H : Hp) (C : Addr) (cl : List (Str × Addr)) (fp : List Addr), SE (X.blk s H scope (compEnvC scope cl C X.env) fp) G0 elt (tf s H C cl fp) we) (s0 : Shared) (H0 : Hp)
    (hc : ∀ s H C cl fp, tf s H C cl fp = tf s0 H0 0 [] [] := by intros; rfl) : SX X scope elt (tf s0 H0 0 [] []) we :=
  ⟨fun s H C cl fp => by rw [← hc s H C cl fp]; exact (h s H C cl fp).pe, fun Z => (h s0 H0 0 [] []).si Z Lk.zero⟩
theorem SF.yes : SF X scope [] tYes wYes := ⟨fun _ _ _ _ _ => pts_nil, fun Z σ ρ I μ S H Q Φ rs ok h k => k _ I μ S H .refl ok h⟩
theorem SF.of {c : Expr} {tf : Shared → Hp → Addr → List (Str × Addr) → List Addr → TT} (h : ∀ (s : Shared) (H : Hp) (C : Addr) (cl : List (Str × Addr)) (fp : List Addr), ST (X.blk s H scope (compEnvC scope cl C X.env) fp) G0 c (tf s H C cl fp) wt) (s0 : Shared) (H0 : Hp)
    (hc : ∀ s H C cl fp, tf s H C cl fp = tf s0 H0 0 [] [] := by intros; rfl) : SF X scope [c] (tf s0 H0 0 [] []) wt :=
  ⟨fun s H C cl fp => by rw [← hc s H C cl fp]; exact pts_one (h s H C cl fp).pt, fun Z => (h s0 H0 0 [] []).si Z Lk.zero⟩
theorem sim_lc {K : PySem.W.Frag} {mg : Str → Option Value} {vs : List Nat} {bm : Bool}
    {Z : Zt} (hi : ∀ (σ : L2.St) (ρ : Ro) (I : Hp) (μ : List Addr) (S : Sto) (H : Hp) (R : It → Hp → Prop) (Φ : List D → Sto → Prop), RpS K mg I μ σ ρ → Ok K mg Z I μ S H → wa ρ S Φ → Kd K mg Z I μ Φ R → wi σ H R)
    (hg : ∀ Z, SimW K mg Z vs g wg) (ht : ∀ Z, SimT K mg Z tt wt) (he : ∀ Z, Sim K mg Z te we) : Sim K mg Z (tLc wi g tt te vs) (if bm then wLcM wa wg wt we vs else wLc wa wg wt we vs) := by
  intro σ ρ I μ S H Q Φ rs ok h k
  have h' : wa ρ S fun ds S1 => compD wg wt we (wp ρ vs) (fun acc S2 => if bm then Φ (.h S2.length) (S2 ++ [.lst acc]) else Φ (.lst acc) S2) ds [] S1 := by
    cases bm <;> exact h
  refine hi σ ρ I μ S H _ _ rs ok h' fun J ds I1 μ1 S1 H1 e1 o1 dr q1 => ?_
  intro D hD
  have hZD : Z.z D = none := by
    cases q : Z.z D with
    | none => rfl
    | some u => have := (o1.fra D u q).1; rw [hD] at this; cases this
  have rsw : RpS K mg I1 μ1 (wipe σ vs) (wp ρ vs) := rps_wipe (rs.ext e1) vs
  refine ⟨fun i m H' => m = ds.length - i ∧ i ≤ ds.length ∧ ∃ accV accD I' μ' S', Ext I1 μ1 I' μ' ∧ Ok K mg (Z.up D (.lst accV)) I' μ' S' H' ∧ RpL K mg I' μ' accV accD ∧
      compD wg wt we (wp ρ vs) (fun acc S2 => if bm then Φ (.h S2.length) (S2 ++ [.lst acc]) else Φ (.lst acc) S2) (ds.drop i) accD S',
    ⟨ds.length, by simp, Nat.zero_le _, [], [], I1, μ1, S1, .refl, o1.beside hD, .nil, by simpa using q1⟩, ?_⟩
  rintro i m H' ⟨rfl, hil, accV, accD, I', μ', S', e', o', ra, q'⟩
  by_cases hlt : i < ds.length
  · have hd : ds[i]? = some ds[i] := List.getElem?_eq_getElem hlt
    rw [List.drop_eq_getElem_cons hlt] at q'
    refine .inr ⟨dr.go _ i I' μ' S' H' e' o' hlt, fun H2 => ∃ accV accD I2 μ2 S2, Ext I1 μ1 I2 μ2 ∧ Ok K mg (Z.up D (.lst accV)) I2 μ2 S2 H2 ∧ RpL K mg I2 μ2 accV accD ∧
      compD wg wt we (wp ρ vs) (fun acc S2 => if bm then Φ (.h S2.length) (S2 ++ [.lst acc]) else Φ (.lst acc) S2) (ds.drop (i + 1)) accD S2, fun H2 y => ⟨ds.length - (i + 1), by omega, rfl, hlt, y⟩, fun x H2 y => ?_⟩
    obtain ⟨I2, e2, o2, r2⟩ := dr.yld _ i _ I' μ' S' H' x H2 e' o' hd y
    refine hg _ x _ (wipe σ vs) σ (wp ρ vs) I2 μ' S' H2 _ _ r2 (wipe_twice σ vs) (rsw.ext (e'.trans e2)) o2 q' fun σ3 ρ3 I3 μ3 S3 H3 e3 rs3 o3 q3 => ?_
    refine ht _ σ3 ρ3 I3 μ3 S3 H3 _ _ rs3 o3 q3 fun b I4 μ4 S4 H4 e4 o4 q4 => ?_
    have e14 : Ext I1 μ1 I4 μ4 := ((e'.trans e2).trans e3).trans e4
    cases b with
    | true =>
      rw [if_pos rfl] at q4 ⊢
      refine he _ σ3 ρ3 I4 μ4 S4 H4 _ _ (rs3.ext e4) o4 q4 fun w d I5 μ5 S5 H5 e5 o5 r5 q5 => ?_
      have ra5 : RpL K mg I5 μ5 accV accD := ra.ext (((e2.trans e3).trans e4).trans e5)
      exact ⟨accV, (o5.fra D _ upd_same).1, lim_lt (by rw [ra5.length]; exact q5.1), accV ++ [w], accD ++ [d], I5, μ5, S5, e14.trans e5, o5.beside_put, ra5.append (.cons r5 .nil), q5.2⟩
    | false =>
      rw [if_neg Bool.false_ne_true] at q4 ⊢
      exact ⟨accV, accD, I4, μ4, S4, e14, o4, ra.ext ((e2.trans e3).trans e4), q4⟩
  · have hi' : i = ds.length := by omega
    subst hi'
    rw [List.drop_length] at q'
    refine .inl ⟨dr.stop _ I' μ' S' H' e' o', ?_⟩
    cases bm with
    | false =>
      have hi2 := (o'.fra D _ upd_same).2.1
      exact k _ _ (upd I' D (.lst accV)) μ' S' H' ((e1.trans e').trans (Ext.new hi2)) (o'.beside_new hZD) (.lst upd_same (ra.ext (Ext.new hi2))) (by simpa [compD] using q')
    | true =>
      exact k (.ref D) (.h S'.length) I' (μ' ++ [D]) (S' ++ [M.lst accD]) H' ((e1.trans e').trans Ext.push) (o'.beside_push hZD ra) (.h (mu_last o' D)) (by simpa [compD] using q')
end
end Sq
set_option maxHeartbeats 4000000
namespace Sq
open PySem L2
section
variable {X : Cx} {Γ : Gam} {elt tg iter : Expr} {ifs : List Expr} {scope : Scope} {own : List (Str × Nat)} {pos : Pos} {wi : TI} {wa : WA} {g : TG} {wg : WG} {tt : TT} {wt : WT} {te : TE} {we : WE}
theorem se_lc (hc : X.calm = true) (hN : X.N.Nodup) (hi : SI X Γ tg iter wi wa) (ok : BlkOk X.N X.env.scope scope own) (hg : SB X scope (own.map (·.2)) tg g wg) (ht : SF X scope ifs tt wt) (he : SX X scope elt te we) (hs : ∀ x, foldedSetIterable iter X.env x = pure x := by intro _; rfl) :
    SE X Γ (.ListComp elt [⟨tg, iter, ifs, 0⟩] scope pos) (tLc wi g tt te (own.map (·.2))) (wLc wa wg wt we (own.map (·.2))) :=
  ⟨pe_lc hc hN hi.pi ok hg.pg ht.pt he.pe hs, fun Z lk => sim_lc (bm := false) (hi.si Z lk) hg.si ht.si he.si⟩
theorem s_setLc (i : Nat) {y : Str} {py spos : Pos} (hc : X.calm = true) (hN : X.N.Nodup) (hi : SI X Γ tg iter wi wa) (ok : BlkOk X.N X.env.scope scope own) (hg : SB X scope (own.map (·.2)) tg g wg) (ht : SF X scope ifs tt wt) (he : SX X scope elt te we)
    (hsw : swapsWith (.ListComp elt [⟨tg, iter, ifs, 0⟩] scope pos) (some (.Name y py)) spos.line X.env = pure true) (hy : X.N[i]? = some y := by rfl) (hyl : X.env.scope.names.lookup y = some .local := by rfl) (hs : ∀ x, foldedSetIterable iter X.env x = pure x := by intro _; rfl) :
    SS X Γ (.Assign [.Name y py] (.ListComp elt [⟨tg, iter, ifs, 0⟩] scope pos) spos) (tAsg (tLc wi g tt te (own.map (·.2))) (gName i)) (wAsg (wLc wa wg wt we (own.map (·.2))) (wName i)) :=
  ⟨ps_setLc hc hN hy hyl hsw hi.pi ok hg.pg ht.pt he.pe hs, fun Z lk σ ρ I μ S H E κ rs ok h c => sim_lc (bm := false) (hi.si Z lk) hg.si ht.si he.si σ ρ I μ S H _ _ rs ok h fun v d I1 μ1 S1 H1 e1 o1 r1 q1 =>
    c.nx _ _ I1 μ1 S1 H1 e1 ((rs.ext e1).put r1 i) o1 q1⟩
theorem sb_name (i : Nat) {x : Str} {p : Pos} {vs : List Nat} (hv : i ∈ vs) (hg : ∀ (s : Shared) (H : Hp) (C : Addr) (cl : List (Str × Addr)) (fp : List Addr), PG (X.blk s H scope (compEnvC scope cl C X.env) fp) (.Name x p) (gName i)) : SB X scope vs (.Name x p) (gName i) (wName i) :=
  ⟨hg, fun _ => simw_name hv⟩
end
mutual
def low (n : Nat) : D → Prop
  | .tup ds => lows n ds
  | .lst ds => lows n ds
  | .dct k => lowk n k
  | .ins _ f => lowf n f
  | .exc _ f => lowf n f
  | .h k => k < n
  | _ => True
def lows (n : Nat) : List D → Prop
  | [] => True
  | d :: ds => low n d ∧ lows n ds
def lowk (n : Nat) : List (Key × D) → Prop
  | [] => True
  | (_, d) :: ds => low n d ∧ lowk n ds
def lowf (n : Nat) : List (Str × D) → Prop
  | [] => True
  | (_, d) :: ds => low n d ∧ lowf n ds
end
section
variable {K : PySem.W.Frag} {mg : Str → Option Value} {Z : Zt} {I : Hp} {μ μ' : List Addr} {n : Nat}
mutual
theorem Rp.cut (hm : ∀ (k : Nat) (a : Addr), k < n → μ[k]? = some a → μ'[k]? = some a) : ∀ {v : V} {d : D}, Rp K mg I μ v d → low n d → Rp K mg I μ' v d
  | _, _, .non, _ => .non
  | _, _, .bl, _ => .bl
  | _, _, .int, _ => .int
  | _, _, .str, _ => .str
  | _, _, .tup h r, l => .tup h (RpL.cut hm r (by simpa [low] using l))
  | _, _, .lst h r, l => .lst h (RpL.cut hm r (by simpa [low] using l))
  | _, _, .dct h r, l => .dct h (RpK.cut hm r (by simpa [low] using l))
  | _, _, .fn m, _ => .fn m
  | _, _, .ins m h r, l => .ins m h (RpF.cut hm r (by simpa [low] using l))
  | _, _, .h q, l => .h (hm _ _ (by simpa [low] using l) q)
  | _, _, .scr q, _ => .scr q
  | _, _, .exc0 m h z q, _ => .exc0 m h z q
  | _, _, .exc1 m h z q l r, w => .exc1 m h z q l (RpF.cut hm r (by simpa [low] using w))
theorem RpL.cut (hm : ∀ (k : Nat) (a : Addr), k < n → μ[k]? = some a → μ'[k]? = some a) : ∀ {v : List V} {d : List D}, RpL K mg I μ v d → lows n d → RpL K mg I μ' v d
  | _, _, .nil, _ => .nil
  | _, _, .cons h r, l => by
    rw [lows] at l
    exact .cons (Rp.cut hm h l.1) (RpL.cut hm r l.2)
theorem RpK.cut (hm : ∀ (k : Nat) (a : Addr), k < n → μ[k]? = some a → μ'[k]? = some a) : ∀ {v : List (Key × V)} {d : List (Key × D)}, RpK K mg I μ v d → lowk n d → RpK K mg I μ' v d
  | _, _, .nil, _ => .nil
  | _, _, .cons h r, l => by
    rw [lowk] at l
    exact .cons (Rp.cut hm h l.1) (RpK.cut hm r l.2)
theorem RpF.cut (hm : ∀ (k : Nat) (a : Addr), k < n → μ[k]? = some a → μ'[k]? = some a) : ∀ {v : List (Str × V)} {d : List (Str × D)}, RpF K mg I μ v d → lowf n d → RpF K mg I μ' v d
  | _, _, .nil, _ => .nil
  | _, _, .cons h r, l => by
    rw [lowf] at l
    exact .cons (Rp.cut hm h l.1) (RpF.cut hm r l.2)
end
def lowM (n : Nat) : M → Prop
  | .frz d => low n d
  | .bag => True
  | .lst ds => lows n ds
  | .dct k => lowk n k
  | .ins _ f => lowf n f
  | .lck _ k => lowk n k
theorem MOk.cut {H : Hp} {a : Addr} {m : M} (hm : ∀ (k : Nat) (a : Addr), k < n → μ[k]? = some a → μ'[k]? = some a) (h : MOk K mg I μ H a m) (l : lowM n m) : MOk K mg I μ' H a m := by
  cases m with
  | frz d => exact ⟨h.1, h.2.cut hm l⟩
  | bag => exact h
  | lst ds => obtain ⟨i, vs, q, r⟩ := h; exact ⟨i, vs, q, r.cut hm l⟩
  | dct kd => obtain ⟨i, vs, q, r⟩ := h; exact ⟨i, vs, q, r.cut hm l⟩
  | lck o kd => obtain ⟨i, q, od, kv, z, r⟩ := h; exact ⟨i, q, od, kv, z, r.cut hm l⟩
  | ins c fd => obtain ⟨i, C, dx, fv, m, q, r⟩ := h; exact ⟨i, C, dx, fv, m, q, r.cut hm l⟩
theorem Ok.take {S : Sto} {H : Hp} (o : Ok K mg Z I μ S H) (n : Nat) (hg : Z.g I (μ.take n)) (l : ∀ (k : Nat) (m : M), k < n → S[k]? = some m → lowM n m) : Ok K mg Z I (μ.take n) (S.take n) H := by
  refine ⟨fun b u e => ?_, hg, o.sub, by simp [o.len], o.nd.sublist (List.take_sublist _ _), fun k b m hb hm => ?_⟩
  · obtain ⟨x, y, z⟩ := o.fra b u e
    exact ⟨x, y, fun q => z (List.mem_of_mem_take q)⟩
  · have hk : k < n := by
      have := (List.getElem?_eq_some_iff.mp hb).1
      simp at this
      omega
    rw [List.getElem?_take_of_lt hk] at hb hm
    exact (o.ob k b m hb hm).cut (fun j a hj e => by rw [List.getElem?_take_of_lt hj]; exact e) (l k m hk hm)
theorem mu_take {n : Nat} (hl : μ.length ≤ n) (h : ∀ (k : Nat) (a : Addr), μ[k]? = some a → μ'[k]? = some a) : ∀ (k : Nat) (a : Addr), μ[k]? = some a → (μ'.take n)[k]? = some a := fun k a e => by
  have := (List.getElem?_eq_some_iff.mp e).1
  rw [List.getElem?_take_of_lt (by omega)]
  exact h k a e
end
section
variable {P : Program} {w : World} {K : PySem.W.Frag} {mg : Str → Option Value} {base : Heap}
def Cut (n : Nat) (Φ : D → Sto → Prop) : D → Sto → Prop := fun d S => low n d ∧ (∀ (k : Nat) (m : M), k < n → S[k]? = some m → lowM n m) ∧ Φ d (S.take n)
theorem Kp.cut {Z : Zt} {I : Hp} {μ : List Addr} {n : Nat} {Φ : D → Sto → Prop} {Q : VK} (k : Kp K mg Z I μ Φ Q) (hg : Z.g I μ) (hl : μ.length ≤ n) : Kp K mg Z I μ (Cut n Φ) Q := fun v d I' μ' S' H' e o r q => by
  obtain ⟨l1, l2, q⟩ := q
  exact k v d I' (μ'.take n) (S'.take n) H' ⟨e.hp, mu_take hl e.mu⟩ (o.take n (Z.cl _ _ _ _ ⟨e.hp, mu_take hl e.mu⟩ hg) l2) (r.cut (fun j a hj x => by rw [List.getElem?_take_of_lt hj]; exact x) l1) q
theorem fn_dataC {x qual : Str} {s : Stmt} {f : Addr} {fd : FuncData} {N ps : List Str} {k : Nat} {wb : WS} {sp : FSp} (F : C8.Fun K x qual s f fd) (S : FnScope N ps (C8.fnScope s)) (d : Bd P w K mg base k N qual s wb)
    (law : ∀ (ds : List D) (S : Sto) (Φ : D → Sto → Prop), ds.length = ps.length → sp ds S Φ → wb { nx := fun _ S' => Cut S.length Φ .non S', rt := Cut S.length Φ } (ro N ds) S) : FnOk P w K mg base C8.CX0 (k + 1) f fd ps (spOf K mg ps.length sp) := by
  refine C8.fn0 F S (fun vs H Q E h => h.1) fun cdv A outer s' H vs Q E hr h => ?_
  obtain ⟨hl, ds, Z, I, μ, St, Φ, r, ok, hs, kp⟩ := h
  obtain ⟨t, q⟩ := d f cdv A outer s' H E hr
  have kc := kp.cut (n := St.length) ok.gnd (by rw [ok.len]; exact Nat.le_refl _)
  refine ⟨t, q.ps, q.si Z Lk.zero (L2.start N vs) (ro N ds) I μ St H _ _ (rps_start r) ok (law ds St Φ (by rw [← r.length]; exact hl) hs) ⟨fun σ' ρ' I' μ' S' H' e' rs' ok' q' => ?_, kc, fun _ _ _ _ _ _ _ _ _ z => z.elim, fun _ _ _ _ _ _ _ _ _ z => z.elim⟩⟩
  exact kc .non .non I' μ' S' H' e' ok' .non q'
theorem cal_dataC {x : Str} {s : Stmt} {f : Addr} {fd : FuncData} {N ps : List Str} {ds : List Value} {dvs : List V} {k : Nat} {wb : WS} {sp : FSp} (F : C8.Def K mg x s f fd) (b : Binds K fd ps ds) (dv : Vals dvs ds) (S : FnScope N ps (C8.fnScope s)) (d : Bd P w K mg base k N x s wb)
    (law : ∀ (ds : List D) (S : Sto) (Φ : D → Sto → Prop), ds.length = ps.length → sp ds S Φ → wb { nx := fun _ S' => Cut S.length Φ .non S', rt := Cut S.length Φ } (ro N ds) S) : C8.Cal P w K mg base (k + 1) x (spOf K mg ps.length sp) dvs :=
  ⟨f, fd, ps, ds, fn_dataC F.fn S d law, F.mgf, F.kp, b, dv⟩
end
def atts (S : Sto) (c : Str) : D → Option (List (Str × D))
  | .ins c' fs => if c' = c then some fs else none
  | .h n => match S[n]? with
    | some (.ins c' fs) => if c' = c then some fs else none
    | some (.frz (.ins c' fs)) => if c' = c then some fs else none
    | _ => none
  | _ => none
theorem RpF.look {K : PySem.W.Frag} {mg : Str → Option Value} {I : Hp} {μ : List Addr} {f : Str} : ∀ {fv : List (Str × V)} {fs : List (Str × D)}, RpF K mg I μ fv fs → (∀ d, fs.lookup f = some d → ∃ v, fv.lookup f = some v ∧ Rp K mg I μ v d) ∧ (fs.lookup f = none → fv.lookup f = none)
  | _, _, .nil => ⟨fun _ h => (nomatch h), fun _ => rfl⟩
  | _, _, .cons (k := k) h r => by
    obtain ⟨i1, i2⟩ := RpF.look (f := f) r
    cases e : f == k with
    | true => simp only [List.lookup, e]; exact ⟨fun d q => by cases q; exact ⟨_, rfl, h⟩, fun q => by cases q⟩
    | false => simp only [List.lookup, e]; exact ⟨i1, i2⟩
theorem RpF.length {K : PySem.W.Frag} {mg : Str → Option Value} {I : Hp} {μ : List Addr} : ∀ {fv : List (Str × V)} {fs : List (Str × D)}, RpF K mg I μ fv fs → fv.length = fs.length
  | _, _, .nil => rfl
  | _, _, .cons _ r => by simp [RpF.length r]
theorem atts_ok {K : PySem.W.Frag} {mg : Str → Option Value} {Z : Zt} {I : Hp} {μ : List Addr} {S : Sto} {H : Hp} {v : V} {d : D} {c : Str} {fs : List (Str × D)} (o : Ok K mg Z I μ S H) (r : Rp K mg I μ v d) (e : atts S c d = some fs) :
    ∃ (a C dx : Addr) (fv : List (Str × V)), v = .ref a ∧ mg c = some (.ref C) ∧ H a = some (.ins C dx fv) ∧ RpF K mg I μ fv fs := by
  have base : ∀ {v : V} {c' : Str} {gs : List (Str × D)}, Rp K mg I μ v (.ins c' gs) → (if c' = c then some gs else none) = some fs → ∃ (a C dx : Addr) (fv : List (Str × V)), v = .ref a ∧ mg c = some (.ref C) ∧ H a = some (.ins C dx fv) ∧ RpF K mg I μ fv fs := fun r e => by
    split at e
    · rename_i q
      cases e
      subst q
      cases r with | ins m h t => exact ⟨_, _, _, _, rfl, m, o.sub _ _ h, t⟩
    · cases e
  cases r with
  | ins m h t => exact base (.ins m h t) e
  | h q =>
    rename_i a n
    unfold atts at e
    simp only at e
    split at e
    · rename_i c' gs z
      split at e
      · rename_i w
        cases e
        subst w
        obtain ⟨_, C, dx, fv, m, y, t⟩ := o.ob n a _ q z
        exact ⟨a, C, dx, fv, rfl, m, y, t⟩
      · cases e
    · rename_i c' gs z
      exact base (o.ob n a _ q z).2 e
    · cases e
  | _ => cases e
structure KF (K : PySem.W.Frag) (mg : Str → Option Value) (c f : Str) : Prop where
  ex : ∀ C, mg c = some (.ref C) → Cls K C ∧ NoAttr K C f
def wFld (c f : Str) (we : WE) : WE := fun ρ S Q => we ρ S fun d S1 => onS (atts S1 c d) fun fs => onS (fs.lookup f) fun x => Q x S1
section
variable {X : Cx} {Γ : Gam} {e o : Expr} {pos p apos : Pos} {te : TE} {we : WE} {c f m : Str}
theorem se_fld (k : KF X.K X.mg c f) (h : SE X Γ e te we) (hb : attributeBase e f X.env (eval e X.env) = eval e X.env := by rfl) : SE X Γ (.Attribute e f pos) (tFld X.K te f) (wFld c f we) :=
  ⟨pe_fld h.pe hb, fun Z lk σ ρ I μ S H Q Φ rs ok hw kp => h.si Z lk σ ρ I μ S H _ _ rs ok hw fun v d I1 μ1 S1 H1 e1 o1 r1 q1 => by
    obtain ⟨fs, q, q1⟩ := onS_iff q1
    obtain ⟨x, q2, q1⟩ := onS_iff q1
    obtain ⟨a, C, dx, fv, rfl, hm, hh, t⟩ := atts_ok o1 r1 q
    obtain ⟨v, l, r⟩ := t.look.1 x q2
    obtain ⟨k1, k2⟩ := k.ex C hm
    exact ⟨a, C, dx, fv, v, rfl, hh, k1, k2, l, kp _ _ I1 μ1 S1 H1 e1 o1 r q1⟩⟩
def wMeth (c m : Str) (n : Nat) (sp : FSp) (dd : List D) (we : WE) (wa : WA) : WE := fun ρ S Q => we ρ S fun d S1 => onS (atts S1 c d) fun fs => fs.lookup m = none ∧ wa ρ S1 fun ds S2 => (d :: (ds ++ dd)).length = n ∧ sp (d :: (ds ++ dd)) S2 Q
structure MD (P : Program) (w : World) (K : PySem.W.Frag) (mg : Str → Option Value) (base : Heap) (k : Nat) (c m : Str) (n : Nat) (sp : FSp) (dvs : List V) : Prop where
  ex : ∃ C, mg c = some (.ref C) ∧ C8.Met P w K mg base k C m (spOf K mg n sp) dvs
theorem sim_meth {K : PySem.W.Frag} {mg : Str → Option Value} {C : Addr} {n : Nat} {sp : FSp} {dvs : List V} {dd : List D} {t : TA} {wa : WA} (hC : mg c = some (.ref C)) (hd : ∀ I μ, RpL K mg I μ dvs dd) {Z : Zt} (he : Sim K mg Z te we) (ha : SimA K mg Z t wa) : Sim K mg Z (tMeth C m (spOf K mg n sp) dvs C8.E0 te t) (wMeth c m n sp dd we wa) := fun σ ρ I μ S H Q Φ rs ok hw kp =>
  he σ ρ I μ S H _ _ rs ok hw fun v d I1 μ1 S1 H1 e1 o1 r1 q1 => by
    obtain ⟨fs, q, q1⟩ := onS_iff q1
    obtain ⟨a, C', dx, fv, rfl, hm, hh, t⟩ := atts_ok o1 r1 q
    rw [hC] at hm
    cases hm
    refine ⟨a, dx, fv, rfl, hh, t.look.2 q1.1, ?_⟩
    refine ha σ ρ I1 μ1 S1 H1 _ _ (rs.ext e1) o1 q1.2 fun vs ds I2 μ2 S2 H2 e2 o2 r2 q2 => ?_
    have r3 : RpL K mg I2 μ2 (V.ref a :: (vs ++ dvs)) (d :: (ds ++ dd)) := .cons (r1.ext e2) (r2.append (hd I2 μ2))
    exact ⟨by rw [r3.length]; exact q2.1, _, Z, I2, μ2, S2, Φ, r3, o2, q2.2, kp.ext (e1.trans e2)⟩
def tMt (mg : Str → Option Value) (c m : Str) (sp : Sp) (dvs : List V) (te : TE) (t : TA) : TE := fun σ H Q => ∃ C, mg c = some (.ref C) ∧ tMeth C m sp dvs C8.E0 te t σ H Q
theorem se_meth0 {k j n : Nat} {sp : FSp} {dvs : List V} {dd : List D} {pl : Sem Bool} (cm : MD X.prog X.w X.K X.mg X.base k c m n sp dvs) (hr : Room j X.A) (hk : k ≤ j) (hd : ∀ I μ, RpL X.K X.mg I μ dvs dd) (h : SE X Γ o te we)
    (ht : eval (.Call (.Attribute o m apos) [] [] pos) X.env = (do
      let ov ← eval o X.env
      standAt apos.atName
      let (f, first) ← holding [ov] (getMethod ov m pl)
      callWith pos f first (backTo pos (starEach [] X.env)) (backToKw pos (keywordEach [] X.env))) := by rfl) :
    SE X Γ (.Call (.Attribute o m apos) [] [] pos) (tMt X.mg c m (spOf X.K X.mg n sp) dvs te tNil) (wMeth c m n sp dd we wNil) := by
  obtain ⟨C, hC, M⟩ := cm.ex
  refine ⟨⟨fun pins s σ H Q I hw => ?_⟩, fun Z lk σ ρ I μ S H Q Φ rs ok hw kp => ⟨C, hC, sim_meth hC hd (h.si Z lk) (fun _ _ I μ S H _ _ _ ok h k => k _ _ I μ S H .refl ok .nil h) σ ρ I μ S H Q Φ rs ok hw kp⟩⟩
  obtain ⟨C', hC', q⟩ := hw
  rw [hC] at hC'
  cases hC'
  exact (C8.pe_mt0 (pl := pl) M hr hk h.pe ht).run pins s σ H Q I q
theorem se_meth {k j n : Nat} {sp : FSp} {dvs : List V} {dd : List D} {pl : Sem Bool} {e : Expr} {es : List Expr} {t : TA} {wa : WA} (cm : MD X.prog X.w X.K X.mg X.base k c m n sp dvs) (hr : Room j X.A) (hk : k ≤ j) (hd : ∀ I μ, RpL X.K X.mg I μ dvs dd) (h : SE X Γ o te we) (ha : SA X Γ (e :: es) t wa)
    (hst : starEach (e :: es) X.env = (false, eval e X.env) :: starEach es X.env := by rfl) (hpl : (backTo pos (starEach es X.env)).any (·.1) = false := by rfl)
    (ht : eval (.Call (.Attribute o m apos) (e :: es) [] pos) X.env = (do
      let ov ← eval o X.env
      standAt apos.atName
      let (f, first) ← holding [ov] (getMethod ov m pl)
      callWith pos f first (backTo pos (starEach (e :: es) X.env)) (backToKw pos (keywordEach [] X.env))) := by rfl) :
    SE X Γ (.Call (.Attribute o m apos) (e :: es) [] pos) (tMt X.mg c m (spOf X.K X.mg n sp) dvs te t) (wMeth c m n sp dd we wa) := by
  obtain ⟨C, hC, M⟩ := cm.ex
  refine ⟨⟨fun pins s σ H Q I hw => ?_⟩, fun Z lk σ ρ I μ S H Q Φ rs ok hw kp => ⟨C, hC, sim_meth hC hd (h.si Z lk) (ha.si Z lk) σ ρ I μ S H Q Φ rs ok hw kp⟩⟩
  obtain ⟨C', hC', q⟩ := hw
  rw [hC] at hC'
  cases hC'
  exact (C8.pe_mt (pl := pl) M hr hk h.pe ha.pa hst hpl ht).run pins s σ H Q I q
end
end Sq
set_option maxHeartbeats 4000000
namespace Sq
open PySem L2
structure MkD (P : Program) (w : World) (K : PySem.W.Frag) (mg : Str → Option Value) (base : Heap) (k : Nat) (c : Str) (n : Nat) (sp : FSp) (dvs : List V) : Prop where
  ex : ∃ C, mg c = some (.ref C) ∧ C8.Mak P w K mg base k c C (spOf K mg n sp) dvs
def tMk (mg : Str → Option Value) (c : Str) (sp : Sp) (dvs : List V) (t : TA) : TE := fun σ H Q => ∃ C, mg c = some (.ref C) ∧ tMake C sp dvs C8.E0 t σ H Q
def wMakeF (c : Str) (n : Nat) (sp : FSp) (dd : List D) (wa : WA) : WE := fun ρ S Q => wa ρ S fun ds S1 => (D.h S1.length :: (ds ++ dd)).length = n ∧
  sp (.h S1.length :: (ds ++ dd)) (S1 ++ [.ins c []]) fun r S2 => r = .non ∧ ∃ fs, S2 = S1 ++ [.ins c fs] ∧ lowf S1.length fs ∧ (∀ (k : Nat) (m : M), k < S1.length → S1[k]? = some m → lowM S1.length m) ∧ Q (.ins c fs) S1
def wMakeM (c : Str) (n : Nat) (sp : FSp) (dd : List D) (wa : WA) : WE := fun ρ S Q => wa ρ S fun ds S1 => (D.h S1.length :: (ds ++ dd)).length = n ∧
  sp (.h S1.length :: (ds ++ dd)) (S1 ++ [.ins c []]) fun r S2 => r = .non ∧ Q (.h S1.length) S2
section
variable {K : PySem.W.Frag} {mg : Str → Option Value} {Z : Zt} {I : Hp} {μ : List Addr} {S : Sto} {H : Hp}
theorem ok_made (o : Ok K mg Z I μ S H) {x dx C : Addr} {c : Str} (hC : mg c = some (.ref C)) (hx : H x = none) (hd : H dx = none) (ne : dx ≠ x) : Ok K mg Z I (μ ++ [x]) (S ++ [.ins c []]) (upd (upd H dx (.own x)) x (.ins C dx [])) := by
  have o1 := o.lay (o := .own x) hd
  have hx1 : upd H dx (.own x) x = none := by rw [upd_ne (fun z => ne z.symm)]; exact hx
  exact o1.push (m := .ins c []) hx1 ⟨free_of o.sub hx, C, dx, [], hC, upd_same, .nil⟩
theorem mu_one {μ2 : List Addr} {x : Addr} (hl : μ2.length = μ.length + 1) (h : ∀ (k : Nat) (a : Addr), (μ ++ [x])[k]? = some a → μ2[k]? = some a) : μ2 = μ ++ [x] := by
  apply List.ext_getElem?
  intro k
  by_cases hk : k < μ.length + 1
  · have h1 : k < (μ ++ [x]).length := by simp; omega
    rw [List.getElem?_eq_getElem h1]
    exact h k _ (List.getElem?_eq_getElem h1)
  · rw [List.getElem?_eq_none (by omega), List.getElem?_eq_none (by simp; omega)]
theorem ok_hold {x : Addr} {c : Str} {fs : List (Str × D)} (o : Ok K mg Z I (μ ++ [x]) (S ++ [.ins c fs]) H) (hg : Z.g I μ) (l : lowf S.length fs) (ls : ∀ (k : Nat) (m : M), k < S.length → S[k]? = some m → lowM S.length m) (hl : μ.length = S.length) :
    ∃ I', Ext I μ I' μ ∧ Ok K mg Z I' μ S H ∧ Rp K mg I' μ (.ref x) (.ins c fs) := by
  have hx : (μ ++ [x])[S.length]? = some x := by rw [← hl, List.getElem?_append_right (Nat.le_refl _)]; simp
  have hm : (S ++ [M.ins c fs])[S.length]? = some (.ins c fs) := by rw [List.getElem?_append_right (Nat.le_refl _)]; simp
  obtain ⟨hi, C, dx, fv, hC, hH, r⟩ := o.ob S.length x _ hx hm
  have nx : x ∉ μ := fun z => by
    have := o.nd
    rw [List.nodup_append] at this
    exact this.2.2 x z x (by simp) rfl
  have o1 := o.take S.length (by rw [← hl, List.take_left' rfl]; exact hg) (fun k m hk e => ls k m hk (by rw [List.getElem?_append_left hk] at e; exact e))
  rw [← hl, List.take_left' rfl, hl, List.take_left' rfl] at o1
  have r1 : RpF K mg I μ fv fs := r.cut (fun k a hk e => by rw [List.getElem?_append_left (by omega)] at e; exact e) l
  have e : Ext I μ (upd I x (.ins C dx fv)) μ := Ext.new hi
  refine ⟨upd I x (.ins C dx fv), e, ⟨fun b u q => ?_, Z.cl _ _ _ _ e hg, fun b u q => ?_, o1.len, o1.nd, fun j b m hb hm' => ?_⟩, .ins hC upd_same (r1.ext e)⟩
  · obtain ⟨y1, y2, y3⟩ := o.fra b u q
    exact ⟨y1, by rw [upd_ne (fun z => y3 (by rw [z]; simp))]; exact y2, fun z => y3 (List.mem_append_left _ z)⟩
  · by_cases z : b = x
    · subst z; rw [upd_same] at q; cases q; exact hH
    · rw [upd_ne z] at q; exact o1.sub b u q
  · have q : b ≠ x := fun z => nx (by rw [← z]; exact List.mem_of_getElem? hb)
    exact (o1.ob j b m hb hm').ext e rfl fun _ i => by rw [upd_ne q]; exact i
end
section
variable {X : Cx} {Γ : Gam} {k j n : Nat} {c : Str} {sp : FSp} {dvs : List V} {dd : List D} {p pos apos : Pos} {e o : Expr} {es : List Expr} {te : TE} {we : WE} {t : TA} {wa : WA}
theorem pe_mkD (m : MkD X.prog X.w X.K X.mg X.base k c n sp dvs) (hr : Room j X.A) (hk : k + 1 ≤ j) (ha : PA X (e :: es) t) (hg : Gl X c := by rfl)
    (hdb : (c == ("__debug__" : Str)) = false := by decide) (he : starEach (e :: es) X.env = (false, eval e X.env) :: starEach es X.env := by rfl) (hpl : (backTo pos (starEach es X.env)).any (·.1) = false := by rfl) :
    PE X (.Call (.Name c p) (e :: es) [] pos) (tMk X.mg c (spOf X.K X.mg n sp) dvs t) := by
  obtain ⟨C, hC, M⟩ := m.ex
  refine ⟨fun pins s σ H Q I hw => ?_⟩
  obtain ⟨C', hC', q⟩ := hw
  rw [hC] at hC'
  cases hC'
  exact (C8.pe_mk M hr hk hg ha hdb he hpl).run pins s σ H Q I q
theorem se_makeF (m : MkD X.prog X.w X.K X.mg X.base k c n sp dvs) (hr : Room j X.A) (hk : k + 1 ≤ j) (hd : ∀ I μ, RpL X.K X.mg I μ dvs dd) (ha : SA X Γ (e :: es) t wa) (hg : Gl X c := by rfl)
    (hdb : (c == ("__debug__" : Str)) = false := by decide) (he : starEach (e :: es) X.env = (false, eval e X.env) :: starEach es X.env := by rfl) (hpl : (backTo pos (starEach es X.env)).any (·.1) = false := by rfl) :
    SE X Γ (.Call (.Name c p) (e :: es) [] pos) (tMk X.mg c (spOf X.K X.mg n sp) dvs t) (wMakeF c n sp dd wa) := by
  refine ⟨pe_mkD m hr hk ha.pa hg hdb he hpl, fun Z lk σ ρ I μ S H Q Φ rs ok hw kp => ?_⟩
  obtain ⟨C, hC, M⟩ := m.ex
  refine ⟨C, hC, ha.si Z lk σ ρ I μ S H _ _ rs ok hw fun vs ds I1 μ1 S1 H1 e1 o1 r1 q1 x dx hx hdx ne => ?_⟩
  have o2 := ok_made o1 hC hx hdx ne
  have r2 : RpL X.K X.mg I1 (μ1 ++ [x]) (V.ref x :: (vs ++ dvs)) (.h S1.length :: (ds ++ dd)) := .cons (.h (mu_last o1 x)) ((r1.append (hd I1 μ1)).ext Ext.push)
  refine ⟨by rw [r2.length]; exact q1.1, _, Z, I1, μ1 ++ [x], _, _, r2, o2, q1.2, fun v d I3 μ3 S3 H3 e3 o3 r3 q3 => ?_⟩
  obtain ⟨rfl, fs, rfl, l, ls, q⟩ := q3
  have hμ : μ3 = μ1 ++ [x] := mu_one (by rw [o3.len]; simp [o1.len]) e3.mu
  subst hμ
  obtain ⟨I4, e4, o4, r4⟩ := ok_hold o3 (Z.cl _ _ _ _ ⟨e3.hp, fun _ _ q => q⟩ o1.gnd) l ls o1.len
  exact ⟨rp_non r3, kp _ _ I4 μ1 S1 H3 (e1.trans ⟨e3.hp.trans e4.hp, fun _ _ h => h⟩) o4 r4 q⟩
theorem se_makeM (m : MkD X.prog X.w X.K X.mg X.base k c n sp dvs) (hr : Room j X.A) (hk : k + 1 ≤ j) (hd : ∀ I μ, RpL X.K X.mg I μ dvs dd) (ha : SA X Γ (e :: es) t wa) (hg : Gl X c := by rfl)
    (hdb : (c == ("__debug__" : Str)) = false := by decide) (he : starEach (e :: es) X.env = (false, eval e X.env) :: starEach es X.env := by rfl) (hpl : (backTo pos (starEach es X.env)).any (·.1) = false := by rfl) :
    SE X Γ (.Call (.Name c p) (e :: es) [] pos) (tMk X.mg c (spOf X.K X.mg n sp) dvs t) (wMakeM c n sp dd wa) := by
  refine ⟨pe_mkD m hr hk ha.pa hg hdb he hpl, fun Z lk σ ρ I μ S H Q Φ rs ok hw kp => ?_⟩
  obtain ⟨C, hC, M⟩ := m.ex
  refine ⟨C, hC, ha.si Z lk σ ρ I μ S H _ _ rs ok hw fun vs ds I1 μ1 S1 H1 e1 o1 r1 q1 x dx hx hdx ne => ?_⟩
  have o2 := ok_made o1 hC hx hdx ne
  have r2 : RpL X.K X.mg I1 (μ1 ++ [x]) (V.ref x :: (vs ++ dvs)) (.h S1.length :: (ds ++ dd)) := .cons (.h (mu_last o1 x)) ((r1.append (hd I1 μ1)).ext Ext.push)
  refine ⟨by rw [r2.length]; exact q1.1, _, Z, I1, μ1 ++ [x], _, _, r2, o2, q1.2, fun v d I3 μ3 S3 H3 e3 o3 r3 q3 => ?_⟩
  obtain ⟨rfl, q⟩ := q3
  exact ⟨rp_non r3, kp _ _ I3 μ3 S3 H3 ((e1.trans Ext.push).trans e3) o3 (.h (e3.mu _ _ (mu_last o1 x))) q⟩
def putA (f : Str) (d : D) : List (Str × D) → List (Str × D)
  | [] => [(f, d)]
  | (g, e) :: r => if g = f then (g, d) :: r else (g, e) :: putA f d r
theorem putA_rp {K : PySem.W.Frag} {mg : Str → Option Value} {I : Hp} {μ : List Addr} {f : Str} {v : V} {d : D} (h : Rp K mg I μ v d) : ∀ {fv : List (Str × V)} {fs : List (Str × D)}, RpF K mg I μ fv fs → RpF K mg I μ (putF f v fv) (putA f d fs)
  | _, _, .nil => .cons h .nil
  | _, _, .cons (k := k) q r => by
    unfold putF putA
    by_cases e : k = f
    · rw [if_pos e, if_pos e]; exact .cons h r
    · rw [if_neg e, if_neg e]; exact .cons q (putA_rp h r)
def wSetA (c f : Str) (we wo : WE) : WS := fun κ ρ S => we ρ S fun d S1 => wo ρ S1 fun x S2 => match x with
  | .h n => onS (S2[n]?) fun m => match m with
    | .ins c' fs => c' = c ∧ fs.length < 1000 ∧ κ.nx ρ (S2.set n (.ins c (putA f d fs)))
    | _ => False
  | _ => False
theorem s_setA {f : Str} {pos' : Pos} {to : TE} {wo : WE} (kf : KF X.K X.mg c f) (ho : SE X Γ o to wo) (he : SE X Γ e te we) (hs : swapsWith e (some (.Attribute o f pos')) pos.line X.env = pure false := by rfl) :
    SS X Γ (.Assign [.Attribute o f pos'] e pos) (sFld X.K to te f) (wSetA c f we wo) :=
  ⟨ps_fld ho.pe he.pe hs, fun Z lk σ ρ I μ S H E κ rs ok h cv => he.si Z lk σ ρ I μ S H _ _ rs ok h fun v d I1 μ1 S1 H1 e1 o1 r1 q1 => ho.si Z lk σ ρ I1 μ1 S1 H1 _ _ (rs.ext e1) o1 q1 fun y x I2 μ2 S2 H2 e2 o2 r2 q2 => by
    split at q2
    · rename_i m
      obtain ⟨mm, q, q2⟩ := onS_iff q2
      cases mm with
      | ins c' fs =>
        obtain ⟨rfl, hl, q2⟩ := q2
        cases r2 with
        | h z =>
          obtain ⟨hi, C, dx, fv, hC, hH, rf⟩ := o2.ob _ _ _ z q
          obtain ⟨k1, k2⟩ := kf.ex C hC
          refine ⟨_, C, dx, fv, rfl, hH, k1, k2, by rw [rf.length]; exact hl, ?_⟩
          have rd := r1.ext e2
          exact cv.nx σ ρ I2 μ2 _ _ (e1.trans e2) ((rs.ext e1).ext e2) (o2.put (m := .ins c' (putA f d fs)) z hi ⟨hi, C, dx, _, hC, upd_same, putA_rp rd rf⟩) q2
      | frz _ => exact q2.elim
      | bag => exact q2.elim
      | lst _ => exact q2.elim
      | dct _ => exact q2.elim
      | lck _ _ => exact q2.elim
    · exact q2.elim⟩
structure CallD (P : Program) (w : World) (K : PySem.W.Frag) (mg : Str → Option Value) (base : Heap) (k : Nat) (c : Str) (n : Nat) (sp : FSp) : Prop where
  ex : ∃ (C g : Addr) (fd : FuncData) (ps : List Str), mg c = some (.ref C) ∧ StX.CallO K C g ∧ FnOk P w K mg base C8.CX0 k g fd ps (spOf K mg n sp) ∧ Binds K fd ps []
def tCl (X : Cx) (c : Str) (sp : Sp) (tf : TE) (t : TA) : TE := fun σ H Q => ∃ C, X.mg c = some (.ref C) ∧ StX.tCallO X C sp C8.E0 tf t σ H Q
def wCallO (c : Str) (n : Nat) (sp : FSp) (we : WE) (wa : WA) : WE := fun ρ S Q => we ρ S fun d S1 => (atts S1 c d).isSome = true ∧ wa ρ S1 fun ds S2 => (atts S2 c d).isSome = true ∧ (d :: ds).length = n ∧ sp (d :: ds) S2 Q
theorem se_callO (cd : CallD X.prog X.w X.K X.mg X.base k c n sp) (hr : Room j X.A) (hk : k ≤ j) (h : SE X Γ o te we) (ha : SA X Γ (e :: es) t wa)
    (ht : eval (.Call o (e :: es) [] pos) X.env = (do callWith pos (← eval o X.env) [] (backTo pos (starEach (e :: es) X.env)) (backToKw pos (keywordEach [] X.env))) := by rfl)
    (he : starEach (e :: es) X.env = (false, eval e X.env) :: starEach es X.env := by rfl) (hpl : (backTo pos (starEach es X.env)).any (·.1) = false := by rfl) :
    SE X Γ (.Call o (e :: es) [] pos) (tCl X c (spOf X.K X.mg n sp) te t) (wCallO c n sp we wa) := by
  obtain ⟨C, g, fd, ps, hC, cl, F, b⟩ := cd.ex
  have F' : FnR X.prog X.w X.K X.mg X.base C8.CX0 k g (spOf X.K X.mg n sp) := (F.raw b .nil).imp fun vs H Q E h => by rw [List.append_nil]; exact h
  refine ⟨⟨fun pins s σ H Q I hw => ?_⟩, fun Z lk σ ρ I μ S H Q Φ rs ok hw kp => ⟨C, hC, h.si Z lk σ ρ I μ S H _ _ rs ok hw fun v d I1 μ1 S1 H1 e1 o1 r1 q1 => ?_⟩⟩
  · obtain ⟨C', hC', q⟩ := hw
    rw [hC] at hC'
    cases hC'
    exact (StX.pe_callO h.pe cl F' (hr.mono hk) C8.pass0 ha.pa ht he hpl).run pins s σ H Q I q
  · have key : ∀ {I2 : Hp} {μ2 : List Addr} {S2 : Sto} {H2 : Hp}, Ext I1 μ1 I2 μ2 → Ok X.K X.mg Z I2 μ2 S2 H2 → (atts S2 c d).isSome = true → ∃ a, v = .ref a ∧ StX.InsC X H2 a C := fun e2 o2 hs => by
      obtain ⟨fs, hs⟩ := Option.isSome_iff_exists.mp hs
      obtain ⟨a, C', dx, fv, rfl, hm, hh, _⟩ := atts_ok o2 (r1.ext e2) hs
      rw [hC] at hm
      cases hm
      exact ⟨a, rfl, .inr ⟨dx, fv, hh⟩⟩
    obtain ⟨a, rfl, _⟩ := key .refl o1 q1.1
    refine ⟨a, rfl, ha.si Z lk σ ρ I1 μ1 S1 H1 _ _ (rs.ext e1) o1 q1.2 fun vs ds I2 μ2 S2 H2 e2 o2 r2 q2 => ?_⟩
    obtain ⟨a', ea, hi⟩ := key e2 o2 q2.1
    cases ea
    have r3 : RpL X.K X.mg I2 μ2 (V.ref a :: vs) (d :: ds) := .cons (r1.ext e2) r2
    exact ⟨hi, by rw [r3.length]; exact q2.2.1, _, Z, I2, μ2, S2, Φ, r3, o2, q2.2.2, kp.ext (e1.trans e2)⟩
structure OpO (P : Program) (w : World) (K : PySem.W.Frag) (mg : Str → Option Value) (base : Heap) (k : Nat) (c : Str) (op : Operator) (sp : FSp) : Prop where
  ex : ∃ (C g : Addr) (fd : FuncData) (ps : List Str), mg c = some (.ref C) ∧ PySem.W.selfFirst K C = true ∧ PySem.W.findIn K (.ref C) (PySem.dunder op.info.2) = some (some (.ref g)) ∧ PySem.W.isFn K (.ref g) = true ∧ FnOk P w K mg base C8.CX0 k g fd ps (spOf K mg 2 sp) ∧ Binds K fd ps []
theorem rel_ni {v : V} {u : Value} (r : RelV v u) {Q : Value → Shared → Prop} {s : Shared} (h : Q u s) : PySem.W.CmpBack Q u s := by
  cases v with
  | non => cases r; exact h
  | bl _ => cases r; exact h
  | int _ => obtain ⟨t, rfl⟩ := r; exact h
  | str _ => obtain ⟨t, rfl⟩ := r; exact h
  | byt _ => obtain ⟨t, rfl⟩ := r; exact h
  | flt _ => obtain ⟨t, rfl⟩ := r; exact h
  | ref _ => cases r; exact h
  | ty _ => cases r; exact h
end
end Sq
set_option maxHeartbeats 4000000
namespace Sq
open PySem L2
section
variable {K : PySem.W.Frag} {mg : Str → Option Value} {Z : Zt}
def lenS (S : Sto) (d : D) : Option Nat := match view S d with
  | .lst ds => some ds.length
  | .tup ds => some ds.length
  | .str s => if s.length ≤ LIM then some s.length else none
  | _ => none
def fLen : FSp := fun ds S Q => match ds with
  | [d] => onS (lenS S d) fun n => Q (.int n) S
  | _ => False
theorem cb_len : CbD K mg Z (fun xs H Q => ∃ x n, xs = [x] ∧ LenV K x H n ∧ Q (.int n) H) fLen := by
  intro I μ S H vs ds Q Φ ok r h k
  unfold fLen at h
  split at h
  · rename_i d
    cases r with
    | cons r t =>
      cases t
      obtain ⟨n, e, q⟩ := onS_iff h
      refine ⟨_, n, rfl, ?_, k _ _ I μ S H .refl ok .int q⟩
      unfold lenS at e
      split at e
      · rename_i ds z
        obtain ⟨p, vs, rfl, hh, t⟩ := view_lst ok r z
        cases e
        exact .inl ⟨vs, SqL.of hh, t.length.symm⟩
      · rename_i ds z
        obtain ⟨p, vs, rfl, _, hh, t⟩ := view_tup ok r z
        cases e
        exact .inr ⟨vs, hh, t.length.symm⟩
      · rename_i s z
        rw [view_str ok r z]
        split at e
        · rename_i hl
          cases e
          exact ⟨lim hl, rfl⟩
        · cases e
      · cases e
  · exact h.elim
def fAbs : FSp := fun ds S Q => match ds with
  | [.int i] => Q (.int (if i < 0 then -i else i)) S
  | _ => False
theorem cb_abs : CbD K mg Z (fun xs H Q => ∃ i, xs = [.int i] ∧ Q (.int (if i < 0 then -i else i)) H) fAbs := by
  intro I μ S H vs ds Q Φ ok r h k
  unfold fAbs at h
  split at h
  · cases r with
    | cons r t => cases t; cases r; exact ⟨_, rfl, k _ _ I μ S H .refl ok .int h⟩
  · exact h.elim
def fMax2 : FSp := fun ds S Q => match ds with
  | [.int i, .int j] => Q (.int (if j > i then j else i)) S
  | _ => False
def fMin2 : FSp := fun ds S Q => match ds with
  | [.int i, .int j] => Q (.int (if j < i then j else i)) S
  | _ => False
theorem cb_max2 : CbD K mg Z (fun xs H Q => ∃ i j, xs = [.int i, .int j] ∧ Q (.int (if j > i then j else i)) H) fMax2 := by
  intro I μ S H vs ds Q Φ ok r h k
  unfold fMax2 at h
  split at h
  · cases r with
    | cons r t => cases t with
      | cons r2 t => cases t; cases r; cases r2; exact ⟨_, _, rfl, k _ _ I μ S H .refl ok .int h⟩
  · exact h.elim
theorem cb_min2 : CbD K mg Z (fun xs H Q => ∃ i j, xs = [.int i, .int j] ∧ Q (.int (if j < i then j else i)) H) fMin2 := by
  intro I μ S H vs ds Q Φ ok r h k
  unfold fMin2 at h
  split at h
  · cases r with
    | cons r t => cases t with
      | cons r2 t => cases t; cases r; cases r2; exact ⟨_, _, rfl, k _ _ I μ S H .refl ok .int h⟩
  · exact h.elim
def intsD : List D → Option (List Int)
  | [] => some []
  | .int i :: ds => (intsD ds).map (i :: ·)
  | _ => none
theorem intsD_rp {I : Hp} {μ : List Addr} : ∀ {vs : List V} {ds : List D} {ns : List Int}, RpL K mg I μ vs ds → intsD ds = some ns → vs = ns.map V.int
  | _, [], _, .nil, e => by cases e; rfl
  | _, .int i :: ds, _, .cons h t, e => by
    unfold intsD at e
    cases q : intsD ds with
    | none => rw [q] at e; cases e
    | some ms => rw [q] at e; cases e; cases h; rw [intsD_rp t q]; rfl
  | _, .non :: ds, _, _, e => by cases e
  | _, .bl _ :: ds, _, _, e => by cases e
  | _, .str _ :: ds, _, _, e => by cases e
  | _, .tup _ :: ds, _, _, e => by cases e
  | _, .lst _ :: ds, _, _, e => by cases e
  | _, .dct _ :: ds, _, _, e => by cases e
  | _, .fn _ :: ds, _, _, e => by cases e
  | _, .ins _ _ :: ds, _, _, e => by cases e
  | _, .h _ :: ds, _, _, e => by cases e
  | _, .scr _ :: ds, _, _, e => by cases e
  | _, .exc _ _ :: ds, _, _, e => by cases e
def fMaxL : FSp := fun ds S Q => match ds with
  | [d] => match view S d with
    | .lst xs => onS (intsD xs) fun ns => 0 < ns.length ∧ ∀ m, m ∈ ns → (∀ y, y ∈ ns → y ≤ m) → Q (.int m) S
    | _ => False
  | _ => False
def fMinL : FSp := fun ds S Q => match ds with
  | [d] => match view S d with
    | .lst xs => onS (intsD xs) fun ns => 0 < ns.length ∧ ∀ m, m ∈ ns → (∀ y, y ∈ ns → m ≤ y) → Q (.int m) S
    | _ => False
  | _ => False
theorem cb_maxL : CbD K mg Z (rMax K) fMaxL := by
  intro I μ S H vs ds Q Φ ok r h k
  unfold fMaxL at h
  split at h
  · cases r with
    | cons r t =>
      cases t
      split at h
      · rename_i xs e
        obtain ⟨p, us, rfl, hh, t⟩ := view_lst ok r e
        obtain ⟨ns, e2, h0, h1⟩ := onS_iff h
        have := intsD_rp t e2
        subst this
        exact ⟨p, ns, rfl, SqL.of hh, h0, fun m a b => k _ _ I μ S H .refl ok .int (h1 m a b)⟩
      · exact h.elim
  · exact h.elim
theorem cb_minL : CbD K mg Z (rMin K) fMinL := by
  intro I μ S H vs ds Q Φ ok r h k
  unfold fMinL at h
  split at h
  · cases r with
    | cons r t =>
      cases t
      split at h
      · rename_i xs e
        obtain ⟨p, us, rfl, hh, t⟩ := view_lst ok r e
        obtain ⟨ns, e2, h0, h1⟩ := onS_iff h
        have := intsD_rp t e2
        subst this
        exact ⟨p, ns, rfl, SqL.of hh, h0, fun m a b => k _ _ I μ S H .refl ok .int (h1 m a b)⟩
      · exact h.elim
  · exact h.elim
theorem CbD.or {r r' : List V → Hp → VK → Prop} {f g : FSp} (h : CbD K mg Z r f) (h' : CbD K mg Z r' g) : CbD K mg Z (fun xs H Q => r xs H Q ∨ r' xs H Q) (fun ds S Q => f ds S Q ∨ g ds S Q) := fun I μ S H vs ds Q Φ ok r q k => by
  rcases q with q | q
  · exact .inl (h I μ S H vs ds Q Φ ok r q k)
  · exact .inr (h' I μ S H vs ds Q Φ ok r q k)
theorem CallR.or {X : Cx} {v : Value} {r r' : List V → Hp → VK → Prop} (h : CallR X v r) (h' : CallR X v r') : CallR X v (fun xs H Q => r xs H Q ∨ r' xs H Q) := fun pins s σ H xs us Q I rv q => by
  rcases q with q | q
  · exact h pins s σ H xs us Q I rv q
  · exact h' pins s σ H xs us Q I rv q
theorem CbD.imp {r : List V → Hp → VK → Prop} {f g : FSp} (h : CbD K mg Z r f) (hi : ∀ ds S Q, g ds S Q → f ds S Q) : CbD K mg Z r g := fun I μ S H vs ds Q Φ ok r q k => h I μ S H vs ds Q Φ ok r (hi _ _ _ q) k
def fMax : FSp := fun ds S Q => match ds with
  | [_, _] => fMax2 ds S Q
  | _ => fMaxL ds S Q
def fMin : FSp := fun ds S Q => match ds with
  | [_, _] => fMin2 ds S Q
  | _ => fMinL ds S Q
theorem cb_max : CbD K mg Z (fun xs H Q => (∃ i j, xs = [.int i, .int j] ∧ Q (.int (if j > i then j else i)) H) ∨ rMax K xs H Q) fMax :=
  (cb_max2.or cb_maxL).imp fun ds S Q h => by
    unfold fMax at h
    split at h
    · exact .inl h
    · exact .inr h
theorem cb_min : CbD K mg Z (fun xs H Q => (∃ i j, xs = [.int i, .int j] ∧ Q (.int (if j < i then j else i)) H) ∨ rMin K xs H Q) fMin :=
  (cb_min2.or cb_minL).imp fun ds S Q h => by
    unfold fMin at h
    split at h
    · exact .inl h
    · exact .inr h
def fInt : FSp := fun ds S Q => match ds with
  | [.int i] => Q (.int i) S
  | [.bl b] => Q (.int (if b then 1 else 0)) S
  | [.str s] => s.length ≤ 640 ∧ onS (PySem.intText? s) fun n => Q (.int n) S
  | _ => False
theorem cb_int : CbD K mg Z (fun xs H Q => ((∃ i, xs = [.int i] ∧ Q (.int i) H) ∨ ∃ k, xs = [.bl k] ∧ Q (.int (if k then 1 else 0)) H) ∨ ∃ a n, xs = [.str a] ∧ PySem.intText? a = some n ∧ a.length ≤ 640 ∧ Q (.int n) H) fInt := by
  intro I μ S H vs ds Q Φ ok r h k
  unfold fInt at h
  split at h
  · cases r with
    | cons r t => cases t; cases r; exact .inl (.inl ⟨_, rfl, k _ _ I μ S H .refl ok .int h⟩)
  · cases r with
    | cons r t => cases t; cases r; exact .inl (.inr ⟨_, rfl, k _ _ I μ S H .refl ok .int h⟩)
  · cases r with
    | cons r t =>
      cases t
      cases r
      obtain ⟨n, e, q⟩ := onS_iff h.2
      exact .inr ⟨_, n, rfl, e, h.1, k _ _ I μ S H .refl ok .int q⟩
  · exact h.elim
end
def kindT : D → Option String
  | .non => some "NoneType"
  | .bl _ => some "bool"
  | .int _ => some "int"
  | .str _ => some "str"
  | .tup _ => some "tuple"
  | .lst _ => some "list"
  | .dct _ => some "dict"
  | _ => none
def kindIs (k T : String) : Bool := k == T || (k == "bool" && T == "int")
def kinds : List String := ["NoneType", "bool", "int", "str", "tuple", "list", "dict"]
def tests : List String := ["bool", "int", "str", "tuple", "list", "dict"]
theorem kinds_tab : (kinds.all fun k => tests.all fun T => decide (kitB k T = some (kindIs k T))) = true := by decide +kernel
theorem kinds_ok {k T : String} (hk : k ∈ kinds) (hT : T ∈ tests) : kitB k T = some (kindIs k T) := by
  have h := List.all_eq_true.mp (List.all_eq_true.mp kinds_tab k hk) T hT
  exact of_decide_eq_true h
theorem kindT_in {d : D} {k : String} (h : kindT d = some k) : k ∈ kinds := by
  cases d <;> simp [kindT] at h <;> subst h <;> simp [kinds]
theorem sqt_ty {K : PySem.W.Frag} {H : Hp} {a : Addr} {xs : List V} (h : SqT K H a xs) : TyX K H (.ref a) (.type "tuple") := by
  rcases h with (h | ⟨o, h⟩) | ⟨o, its, n, h, c, _⟩
  · exact .base (.tup h)
  · exact .fTuple h
  · exact .kTuple h c
theorem kind_ty {K : PySem.W.Frag} {mg : Str → Option Value} {Z : Zt} {I : Hp} {μ : List Addr} {S : Sto} {H : Hp} {v : V} {d : D} {k : String} (o : Ok K mg Z I μ S H) (r : Rp K mg I μ v d) (h : kindT (view S d) = some k) : TyX K H v (.type k) := by
  cases e : view S d with
  | non => rw [e] at h; cases h; rw [view_non o r e]; exact .base .non
  | bl b => rw [e] at h; cases h; rw [view_bl o r e]; exact .base (.bl _)
  | int b => rw [e] at h; cases h; rw [view_int o r e]; exact .base (.int _)
  | str b => rw [e] at h; cases h; rw [view_str o r e]; exact .base (.str _)
  | tup ds => rw [e] at h; cases h; obtain ⟨p, vs, rfl, _, z, _⟩ := view_tup o r e; exact sqt_ty z
  | lst ds => rw [e] at h; cases h; obtain ⟨p, vs, rfl, z, _⟩ := view_lst o r e; exact .base (.lst z)
  | dct ds => rw [e] at h; cases h; obtain ⟨p, vs, rfl, z | ⟨_, z⟩, _⟩ := view_dct o r e; exact .base (.dK z); exact .fDict z
  | ins c fs => rw [e] at h; cases h
  | h n => rw [e] at h; cases h
  | scr n => rw [e] at h; cases h
  | exc c fs => rw [e] at h; cases h
  | fn x => rw [e] at h; cases h
structure KI (K : PySem.W.Frag) (C : Addr) : Prop where
  cl : Cls K C
  ha : PySem.W.findIn K (.ref C) "__class__" = some (some (.builtin "object.__class__"))
  hn : PySem.W.specialIn K (.builtin "object.__class__") "__get__" = some (some (.builtin "getset_descriptor.__get__"))
  htk : PySem.W.takesIn K (.builtin "object.__class__") = some true
  hm : PySem.W.mroIn K C (.type "object") = some true
def wIsB (T : String) (c : Str) (we : WE) : WE := fun ρ S Q => we ρ S fun d S1 => match kindT (view S1 d) with
  | some k => Q (.bl (kindIs k T)) S1
  | none => (atts S1 c d).isSome = true ∧ Q (.bl false) S1
def wIsO (c : Str) (we : WE) : WE := fun ρ S Q => we ρ S fun d S1 => match kindT (view S1 d) with
  | some _ => Q (.bl false) S1
  | none => (atts S1 c d).isSome = true ∧ Q (.bl true) S1
structure KIB (K : PySem.W.Frag) (mg : Str → Option Value) (c : Str) (T : String) : Prop where
  ex : ∀ C, mg c = some (.ref C) → KI K C ∧ PySem.W.kitOne K (.ref C) (.type T) = some false
structure KIO (K : PySem.W.Frag) (mg : Str → Option Value) (c : Str) : Prop where
  ex : ∃ C, mg c = some (.ref C) ∧ KI K C ∧ ∀ k, k ∈ kinds → PySem.W.kitOne K (.type k) (.ref C) = some false
section
variable {X : Cx} {Γ : Gam} {e : Expr} {te : TE} {we : WE} {p pos p2 : Pos} {c x : Str} {T : String}
theorem se_isB (k : KIB X.K X.mg c T) (hm : X.mg "isinstance" = none) (hmT : X.mg x = none) (hT : T ∈ tests) (hx : bootBuiltins x = some (.type T)) (h : SE X Γ e te we) (hg : Gl X "isinstance" := by rfl) (hgT : Gl X x := by rfl) (hxn : x ≠ "__name__" := by decide) (hxd : (x == ("__debug__" : Str)) = false := by decide)
    (he : starEach [e, .Name x p2] X.env = (false, eval e X.env) :: starEach [.Name x p2] X.env := by rfl) (he2 : starEach [.Name x p2] X.env = (false, eval (.Name x p2) X.env) :: starEach [] X.env := by rfl) (hpl : (backTo pos (starEach [.Name x p2] X.env)).any (·.1) = false := by rfl) :
    SE X Γ (.Call (.Name "isinstance" p) [e, .Name x p2] [] pos) (tCB (rIsi X.K) (tCons te (tCons (tC (.ty T)) tNil))) (wIsB T c we) := by
  refine ⟨pe_callB call_isi hg hm (by decide +kernel) (pa_cons h.pe (pa_cons (pe_bltn hgT hmT hx rfl hxn hxd) pa_nil he2) he) (by decide) (by decide) he hpl, fun Z lk σ ρ I μ S H Q Φ rs ok hw kp => h.si Z lk σ ρ I μ S H _ _ rs ok hw fun v d I1 μ1 S1 H1 e1 o1 r1 q1 => ?_⟩
  split at q1
  · rename_i kk hk
    exact ⟨v, .ty T, .type kk, .type T, _, rfl, .ty T, kind_ty o1 r1 hk, kit_ty (kinds_ok (kindT_in hk) hT), kp _ _ I1 μ1 S1 H1 e1 o1 .bl q1⟩
  · obtain ⟨fs, hs⟩ := Option.isSome_iff_exists.mp q1.1
    obtain ⟨a, C, dx, fv, rfl, hC, hh, _⟩ := atts_ok o1 r1 hs
    obtain ⟨ki, kf⟩ := k.ex C hC
    exact ⟨_, .ty T, .ref C, .type T, _, rfl, .ty T, .base (.ins hh ki.cl ki.ha ki.hn ki.htk ki.hm), kf, kp _ _ I1 μ1 S1 H1 e1 o1 .bl q1.2⟩
def tIsO (X : Cx) (c : Str) (te : TE) : TE := fun σ H Q => ∃ C, X.mg c = some (.ref C) ∧ tCB (rIsi X.K) (tCons te (tCons (tC (.ref C)) tNil)) σ H Q
theorem se_isO (k : KIO X.K X.mg c) (hm : X.mg "isinstance" = none) (h : SE X Γ e te we) (hg : Gl X "isinstance" := by rfl) (hgc : Gl X c := by rfl) (hxd : (c == ("__debug__" : Str)) = false := by decide)
    (he : starEach [e, .Name c p2] X.env = (false, eval e X.env) :: starEach [.Name c p2] X.env := by rfl) (he2 : starEach [.Name c p2] X.env = (false, eval (.Name c p2) X.env) :: starEach [] X.env := by rfl) (hpl : (backTo pos (starEach [.Name c p2] X.env)).any (·.1) = false := by rfl) :
    SE X Γ (.Call (.Name "isinstance" p) [e, .Name c p2] [] pos) (tIsO X c te) (wIsO c we) := by
  obtain ⟨C, hC, ki, kf⟩ := k.ex
  refine ⟨⟨fun pins s σ H Q I hw => ?_⟩, fun Z lk σ ρ I μ S H Q Φ rs ok hw kp => ⟨C, hC, h.si Z lk σ ρ I μ S H _ _ rs ok hw fun v d I1 μ1 S1 H1 e1 o1 r1 q1 => ?_⟩⟩
  · obtain ⟨C', hC', q⟩ := hw
    rw [hC] at hC'
    cases hC'
    exact (pe_callB call_isi hg hm (by decide +kernel) (pa_cons h.pe (pa_cons (pe_glob (v := .ref C) hgc hC rfl hxd) pa_nil he2) he) (by decide) (by decide) he hpl).run pins s σ H Q I q
  · split at q1
    · rename_i kk hk
      exact ⟨v, .ref C, .type kk, .ref C, _, rfl, .own C, kind_ty o1 r1 hk, kf kk (kindT_in hk), kp _ _ I1 μ1 S1 H1 e1 o1 .bl q1⟩
    · obtain ⟨fs, hs⟩ := Option.isSome_iff_exists.mp q1.1
      obtain ⟨a, C', dx, fv, rfl, hC', hh, _⟩ := atts_ok o1 r1 hs
      rw [hC] at hC'
      cases hC'
      exact ⟨_, .ref C, .ref C, .ref C, true, rfl, .own C, .base (.ins hh ki.cl ki.ha ki.hn ki.htk ki.hm), by unfold PySem.W.kitOne; rw [if_pos (by simp)], kp _ _ I1 μ1 S1 H1 e1 o1 .bl q1.2⟩
def wApp (wo we : WE) : WE := fun ρ S Q => wo ρ S fun x S1 => match x with
  | .h n => (match S1[n]? with | some (.lst _) => True | _ => False) ∧ we ρ S1 fun d S2 => match S2[n]? with
    | some (.lst ds) => ds.length < LIM ∧ Q .non (S2.set n (.lst (ds ++ [d])))
    | _ => False
  | _ => False
variable {o : Expr} {to : TE} {wo : WE} {apos : Pos}
theorem sim_app {K : PySem.W.Frag} {mg : Str → Option Value} {Z : Zt} (ho : Sim K mg Z to wo) (hv : Sim K mg Z te we) : Sim K mg Z (tBM K "list" rAppend to (tCons te tNil)) (wApp wo we) := fun σ ρ I μ S H Q Φ rs ok hw kp => by
  refine ho σ ρ I μ S H _ _ rs ok hw fun v x I1 μ1 S1 H1 e1 o1 r1 q1 => ?_
  split at q1
  · rename_i n
    obtain ⟨q0, q1⟩ := q1
    split at q0
    · rename_i ds z
      cases r1 with
      | h hn =>
        obtain ⟨hi, vs, hH, rl⟩ := o1.ob _ _ _ hn z
        refine ⟨.inl ⟨rfl, _, SqL.of hH⟩, ?_⟩
        refine hv σ ρ I1 μ1 S1 H1 _ _ (rs.ext e1) o1 q1 fun u d I2 μ2 S2 H2 e2 o2 r2 q2 => ?_
        split at q2
        · rename_i es z2
          obtain ⟨hi2, ws, hH2, rl2⟩ := o2.ob _ _ _ (e2.mu _ _ hn) z2
          refine ⟨_, ws, u, rfl, rfl, hH2, lim_lt (by rw [rl2.length]; exact q2.1), ?_⟩
          exact kp .non .non I2 μ2 _ _ (e1.trans e2) (o2.put (m := .lst (es ++ [d])) (e2.mu _ _ hn) hi2 ⟨hi2, _, upd_same, rl2.append (.cons r2 .nil)⟩) .non q2.2
        · exact q2.elim
    · exact q0.elim
  · exact q1.elim
theorem se_app (ho : SE X Γ o to wo) (he : SE X Γ e te we) (hp : PE X (.Call (.Attribute o "append" apos) [e] [] pos) (tBM X.K "list" rAppend to (tCons te tNil))) : SE X Γ (.Call (.Attribute o "append" apos) [e] [] pos) (tBM X.K "list" rAppend to (tCons te tNil)) (wApp wo we) :=
  ⟨hp, fun Z lk => sim_app (ho.si Z lk) (he.si Z lk)⟩
end
end Sq
set_option maxHeartbeats 4000000
namespace Sq
open PySem L2
abbrev WO := Ro → Sto → (Option Int → Sto → Prop) → Prop
def SimO (K : PySem.W.Frag) (mg : Str → Option Value) (Z : Zt) (te : TO) (w : WO) : Prop :=
  ∀ (σ : L2.St) (ρ : Ro) (I : Hp) (μ : List Addr) (S : Sto) (H : Hp) (Q : Option Int → Hp → Prop) (Φ : Option Int → Sto → Prop), RpS K mg I μ σ ρ → Ok K mg Z I μ S H → w ρ S Φ →
    (∀ (o : Option Int) (I' : Hp) (μ' : List Addr) (S' : Sto) (H' : Hp), Ext I μ I' μ' → Ok K mg Z I' μ' S' H' → Φ o S' → Q o H') → te σ H Q
structure SO (X : Cx) (Γ : Gam) (e : Option Expr) (te : TO) (w : WO) : Prop where
  po : PO X e te
  si : ∀ Z, Lk X Γ Z → SimO X.K X.mg Z te w
def wNoPart : WO := fun _ S Q => Q none S
def wPart (we : WE) : WO := fun ρ S Q => we ρ S fun d S1 => match d with
  | .int i => Q (some i) S1
  | _ => False
def cutD {α : Type} (xs : List α) (lo hi : Option Int) : List α := (xs.drop (HT.sIx xs.length 0 lo)).take (HT.sIx xs.length xs.length hi - HT.sIx xs.length 0 lo)
def fSl (S : Sto) (d : D) (lo hi : Option Int) (Q : D → Sto → Prop) : Prop := match d with
  | .scr ns => Q (.lst ((cutD ns lo hi).map D.int)) S
  | d => match view S d with
    | .lst ds => Q (.lst (cutD ds lo hi)) S
    | .tup ds => ¬ (HT.sIx ds.length 0 lo = 0 ∧ HT.sIx ds.length ds.length hi = ds.length) ∧ Q (.tup (cutD ds lo hi)) S
    | .str s => s.length ≤ LIM ∧ Q (.str (cutS s lo hi)) S
    | _ => False
def wSl (we : WE) (wl wh : WO) : WE := fun ρ S Q => we ρ S fun d S1 => wl ρ S1 fun lo S2 => wh ρ S2 fun hi S3 => fSl S3 d lo hi Q
theorem RpL.cutD {K : PySem.W.Frag} {mg : Str → Option Value} {I : Hp} {μ : List Addr} {vs : List V} {ds : List D} (r : RpL K mg I μ vs ds) (lo hi : Option Int) : RpL K mg I μ (cutV vs lo hi) (Sq.cutD ds lo hi) := by
  unfold cutV Sq.cutD
  rw [r.length]
  exact (r.drop _).take _
section
variable {X : Cx} {Γ : Gam} {e : Expr} {te : TE} {we : WE} {pos p2 : Pos} {lo hi : Option Expr} {tl th : TO} {wl wh : WO}
theorem so_none : SO X Γ none tNoPart wNoPart := ⟨po_none, fun Z lk σ ρ I μ S H Q Φ rs ok h k => k _ I μ S H .refl ok h⟩
theorem so_some (h : SE X Γ e te we) : SO X Γ (some e) (tPart te) (wPart we) := ⟨po_some h.pe, fun Z lk σ ρ I μ S H Q Φ rs ok hw k => h.si Z lk σ ρ I μ S H _ _ rs ok hw fun v d I1 μ1 S1 H1 e1 o1 r1 q1 => by
  split at q1
  · cases r1
    exact ⟨_, rfl, k _ I1 μ1 S1 H1 e1 o1 q1⟩
  · exact q1.elim⟩
def rSlA (K : PySem.W.Frag) : V → Option Int → Option Int → Hp → VK → Prop := fun x lo hi H Q => rSlL K x lo hi H Q ∨ rSlT K x lo hi H Q ∨ rSlS x lo hi H Q
theorem cutV_map (ns : List Int) (lo hi : Option Int) : cutV (ns.map V.int) lo hi = (cutD ns lo hi).map V.int := by
  unfold cutV cutD
  simp [List.map_take, List.map_drop]
theorem se_sl (h : SE X Γ e te we) (hl : SO X Γ lo tl wl) (hh : SO X Γ hi th wh) : SE X Γ (.Subscript e (.Slice lo hi none p2) pos) (tSl (rSlA X.K) te tl th) (wSl we wl wh) :=
  ⟨pe_slice (sl_list.or (sl_tup.or sl_str)) h.pe hl.po hh.po, fun Z lk σ ρ I μ S H Q Φ rs ok hw k => h.si Z lk σ ρ I μ S H _ _ rs ok hw fun v d I1 μ1 S1 H1 e1 o1 r1 q1 =>
    hl.si Z lk σ ρ I1 μ1 S1 H1 _ _ (rs.ext e1) o1 q1 fun l I2 μ2 S2 H2 e2 o2 q2 => hh.si Z lk σ ρ I2 μ2 S2 H2 _ _ (rs.ext (e1.trans e2)) o2 q2 fun u I3 μ3 S3 H3 e3 o3 q3 => by
      have e13 := (e1.trans e2).trans e3
      have r3 := r1.ext (e2.trans e3)
      unfold fSl at q3
      split at q3
      · cases r3 with
        | scr z =>
          refine .inl ⟨_, _, rfl, same_l o3.sub z, fun p hp => ?_⟩
          have i := free_of o3.sub hp
          rw [cutV_map]
          exact k _ _ _ μ3 S3 _ (e13.trans (Ext.new i)) (o3.new hp) (.lst upd_same RpL.ints) q3
      · split at q3
        · rename_i ds z
          obtain ⟨a, vs, rfl, hH, t⟩ := view_lst o3 r3 z
          refine .inl ⟨a, vs, rfl, SqL.of hH, fun p hp => ?_⟩
          have i := free_of o3.sub hp
          exact k _ _ _ μ3 S3 _ (e13.trans (Ext.new i)) (o3.new hp) (.lst upd_same ((t.cutD l u).ext (Ext.new i))) q3
        · rename_i ds z
          obtain ⟨a, vs, rfl, _, hH, t⟩ := view_tup o3 r3 z
          refine .inr (.inl ⟨a, vs, rfl, hH, by rw [t.length]; exact q3.1, fun p hp => ?_⟩)
          have i := free_of o3.sub hp
          exact k _ _ _ μ3 S3 _ (e13.trans (Ext.new i)) (o3.new hp) (.tup (SqT.of upd_same) ((t.cutD l u).ext (Ext.new i))) q3.2
        · rename_i s z
          rw [view_str o3 r3 z]
          exact .inr (.inr ⟨s, rfl, lim q3.1, k _ _ I3 μ3 S3 H3 e13 o3 .str q3.2⟩)
        · exact q3.elim⟩
end
theorem op_mul_st {X : Cx} : OpR X (binaryOp .Mult) (fun x y H Q => ∃ s n, x = .str s ∧ y = .int n ∧ PySem.MulOk s n ∧ Q (.str (PySem.Txt.mul s n)) H) := by
  intro pins s σ H x y v u Q I rx ry h
  obtain ⟨a, n, rfl, rfl, hm, q⟩ := h
  obtain ⟨t, rfl⟩ := rx
  obtain ⟨t', rfl⟩ := ry
  exact PySem.SB.mul hm fun t2 k => ⟨.str _, H, I.tok _, ⟨_, rfl⟩, q⟩
def fMulA : F2 := fun S x y Q => match view S x, view S y with
  | .int i, .int j => IntMulOk i j ∧ Q (.int (i * j)) S
  | .str s, .int n => PySem.MulOk s n ∧ Q (.str (PySem.Txt.mul s n)) S
  | .lst ds, .int n => -(2 ^ 63) ≤ n ∧ n < 2 ^ 63 ∧ ds.length * n.toNat ≤ LIM ∧ Q (.lst ((List.replicate n.toNat ds).flatten)) S
  | _, _ => False
def rMulA : R2 := fun x y H Q => rI IntMulOk (fun i j => .int (i * j)) x y H Q ∨ (∃ s n, x = .str s ∧ y = .int n ∧ PySem.MulOk s n ∧ Q (.str (PySem.Txt.mul s n)) H) ∨ rRep x y H Q
theorem or_mulA {X : Cx} : OpR X (binaryOp .Mult) rMulA := op_mulX.or (op_mul_st.or op_rep)
theorem RpL.reps {K : PySem.W.Frag} {mg : Str → Option Value} {I : Hp} {μ : List Addr} {vs : List V} {ds : List D} (r : RpL K mg I μ vs ds) : ∀ n : Nat, RpL K mg I μ (List.replicate n vs).flatten (List.replicate n ds).flatten
  | 0 => .nil
  | n + 1 => by
    rw [List.replicate_succ, List.replicate_succ, List.flatten_cons, List.flatten_cons]
    exact r.append (r.reps n)
theorem opd_mulA {K : PySem.W.Frag} {mg : Str → Option Value} {Z : Zt} : OpD K mg Z rMulA fMulA := by
  intro I μ S H x y a b Q Φ ok ra rb q k
  unfold fMulA at q
  split at q
  · rename_i i j e1 e2
    rw [view_int ok ra e1, view_int ok rb e2]
    exact .inl ⟨i, j, rfl, rfl, q.1, k _ _ I μ S H .refl ok .int q.2⟩
  · rename_i i j e1 e2
    rw [view_str ok ra e1, view_int ok rb e2]
    exact .inr (.inl ⟨i, j, rfl, rfl, q.1, k _ _ I μ S H .refl ok .str q.2⟩)
  · rename_i ds n e1 e2
    obtain ⟨p, vs, rfl, h1, r1⟩ := view_lst ok ra e1
    rw [view_int ok rb e2]
    refine .inr (.inr ⟨p, n, vs, rfl, rfl, h1, q.1, q.2.1, lim (by rw [r1.length]; exact q.2.2.1), fun l hl => ?_⟩)
    have i := free_of ok.sub hl
    exact k _ _ _ μ S _ (Ext.new i) (ok.new hl) (.lst upd_same ((r1.reps _).ext (Ext.new i))) q.2.2.2
  · exact q.elim
section
variable {X : Cx} {Γ : Gam} {a b e o ix : Expr} {ta tb te to ti : TE} {wa wb we wo wi : WE} {pos tpos : Pos}
theorem se_mulA (ha : SE X Γ a ta wa) (hb : SE X Γ b tb wb) : SE X Γ (.BinOp a .Mult b pos) (tOp rMulA ta tb) (wOp fMulA wa wb) := se_op or_mulA (fun _ => opd_mulA) ha hb
def wSubL (wo wi : WE) : WG := fun d ρ S Q => wo ρ S fun x S1 => wi ρ S1 fun i S2 => match x, i with
  | .h n, .int k => match S2[n]? with
    | some (.lst ds) => onS (ixN ds.length k) fun j => Q ρ (S2.set n (.lst (ds.set j d)))
    | _ => False
  | _, _ => False
theorem sg_subL (ho : SE X Γ o to wo) (hi : SE X Γ ix ti wi) (ha : ∀ v, assign (.Subscript o ix pos) X.env v = (do
      let ov ← holding [v] (eval o X.env)
      let iv ← holding [v, ov] (eval ix X.env)
      standAt pos
      holding [v, ov, iv] (setItem ov iv v)
      release [v, ov, iv] []) := by intro _; rfl) : SG X Γ (.Subscript o ix pos) (gSub to ti rSetL) (wSubL wo wi) :=
  ⟨pg_sub ho.pe hi.pe set_list ha, fun Z lk v d σ ρ I μ S H Q Φ r rs ok hw kn => ho.si Z lk σ ρ I μ S H _ _ rs ok hw fun y x I1 μ1 S1 H1 e1 o1 r1 q1 => hi.si Z lk σ ρ I1 μ1 S1 H1 _ _ (rs.ext e1) o1 q1 fun z i I2 μ2 S2 H2 e2 o2 r2 q2 => by
    split at q2
    · rename_i n k
      split at q2
      · rename_i ds q
        obtain ⟨j, hj, q2⟩ := onS_iff q2
        cases r1 with
        | h hn =>
          cases r2
          obtain ⟨hi2, vs, hH, rl⟩ := o2.ob _ _ _ (e2.mu _ _ hn) q
          refine ⟨_, vs, k, j, rfl, rfl, hH, by rw [rl.length]; exact hj, ?_⟩
          have rv := r.ext (e1.trans e2)
          exact kn σ ρ I2 μ2 _ _ (e1.trans e2) (rs.ext (e1.trans e2)) (o2.put (m := .lst (ds.set j d)) (e2.mu _ _ hn) hi2 ⟨hi2, _, upd_same, rl.set rv j⟩) q2
      · exact q2.elim
    · exact q2.elim⟩
def tGetL (K : PySem.W.Frag) : V → V → Hp → VK → Prop := fun o i H Q => ∃ p xs k v, o = .ref p ∧ i = .int k ∧ SqL K H p xs ∧ 0 ≤ k ∧ xs[k.toNat]? = some v ∧ Q v H
theorem get_list : PGet X (tGetL X.K) := by
  intro pins s σ H o i ov iv Q I ro ri h
  obtain ⟨p, xs, k, v, rfl, rfl, hq, h0, hx, q⟩ := h
  cases ro
  obtain ⟨t, rfl⟩ := ri
  obtain ⟨its, r, pl, hz⟩ := I.list hq
  obtain ⟨u, eu, ru⟩ := r.get hx
  have hl := (List.getElem?_eq_some_iff.mp hx).1
  have hn := line63
  exact wpAny_getItem_list pl.isList h0 (by omega) (by simpa using eu) ⟨v, H, I, ru, q⟩
def wAugL (op : Int → Int → Int) (wo wi we : WE) : WS := fun κ ρ S => wo ρ S fun x S1 => wi ρ S1 fun i S2 => match x, i with
  | .h n, .int k => match S2[n]? with
    | some (.lst ds) => 0 ≤ k ∧ onS (ds[k.toNat]?) fun y => we ρ S2 fun z S3 => match y, z with
      | .int a, .int b => match S3[n]? with
        | some (.lst es) => onS (ixN es.length k) fun j => κ.nx ρ (S3.set n (.lst (es.set j (.int (op a b)))))
        | _ => False
      | _, _ => False
    | _ => False
  | _, _ => False
theorem s_augL {op : Operator} {g : Int → Int → Int} (ho : SE X Γ o to wo) (hi : SE X Γ ix ti wi) (he : SE X Γ e te we) (hp : PS X (.AugAssign (.Subscript o ix tpos) op e pos) (tAugS to ti te (tGetL X.K) (ipI g) rSetL)) :
    SS X Γ (.AugAssign (.Subscript o ix tpos) op e pos) (tAugS to ti te (tGetL X.K) (ipI g) rSetL) (wAugL g wo wi we) :=
  ⟨hp, fun Z lk σ ρ I μ S H E κ rs ok hw c => ho.si Z lk σ ρ I μ S H _ _ rs ok hw fun y x I1 μ1 S1 H1 e1 o1 r1 q1 => hi.si Z lk σ ρ I1 μ1 S1 H1 _ _ (rs.ext e1) o1 q1 fun z i I2 μ2 S2 H2 e2 o2 r2 q2 => by
    split at q2
    · rename_i n k
      split at q2
      · rename_i ds q
        obtain ⟨h0, q2⟩ := q2
        obtain ⟨y, hy, q2⟩ := onS_iff q2
        cases r1 with
        | h hn =>
          cases r2
          obtain ⟨hi2, vs, hH, rl⟩ := o2.ob _ _ _ (e2.mu _ _ hn) q
          obtain ⟨vy, ey, ry⟩ := rl.get hy
          refine ⟨_, vs, k, vy, rfl, rfl, SqL.of hH, h0, ey, ?_⟩
          refine he.si Z lk σ ρ I2 μ2 S2 H2 _ _ (rs.ext (e1.trans e2)) o2 q2 fun w d I3 μ3 S3 H3 e3 o3 r3 q3 => ?_
          split at q3
          · split at q3
            · rename_i es q'
              obtain ⟨j, hj, q3⟩ := onS_iff q3
              obtain ⟨hi3, us, hH3, rl3⟩ := o3.ob _ _ _ (e3.mu _ _ (e2.mu _ _ hn)) q'
              cases ry
              cases r3
              refine ⟨_, _, rfl, rfl, _, us, k, j, rfl, rfl, hH3, by rw [rl3.length]; exact hj, ?_⟩
              exact c.nx σ ρ I3 μ3 _ _ ((e1.trans e2).trans e3) (rs.ext ((e1.trans e2).trans e3)) (o3.put (m := .lst (es.set j (.int _))) (e3.mu _ _ (e2.mu _ _ hn)) hi3 ⟨hi3, _, upd_same, rl3.set .int j⟩) q3
            · exact q3.elim
          · exact q3.elim
      · exact q2.elim
    · exact q2.elim⟩
end
section
variable {P : Program} {w : World} {K : PySem.W.Frag} {mg : Str → Option Value} {base : Heap}
def bagL (x y z : Int) (cs : List Int) : M := .lst [.int x, .int y, .int z, .lst (cs.map D.int)]
theorem fn_dataB {x qual : Str} {s : Stmt} {f : Addr} {fd : FuncData} {N ps : List Str} {k : Nat} {wb : WS} {sp : FSp} (F : C8.Fun K x qual s f fd) (S : FnScope N ps (C8.fnScope s)) (d : Bd P w K mg base k N qual s wb)
    (law : ∀ (ds : List D) (S : Sto) (Φ : D → Sto → Prop), ds.length = ps.length → sp ds S Φ → ∃ n, S[n]? = some .bag ∧ ∀ (x y z : Int) (cs : List Int), BagOk x y z cs →
      wb { nx := fun _ _ => False, rt := fun r S' => ∃ x' y' z', BagOk x' y' z' cs ∧ S' = S.set n (bagL x' y' z' cs) ∧ Φ r S } (ro N ds) (S.set n (bagL x y z cs))) : FnOk P w K mg base C8.CX0 (k + 1) f fd ps (spOf K mg ps.length sp) := by
  refine C8.fn0 F S (fun vs H Q E h => h.1) fun cdv A outer s' H vs Q E hr h => ?_
  obtain ⟨hl, ds, Z, I, μ, St, Φ, r, ok, hs, kp⟩ := h
  obtain ⟨t, q⟩ := d f cdv A outer s' H E hr
  obtain ⟨n, hn, go⟩ := law ds St Φ (by rw [← r.length]; exact hl) hs
  obtain ⟨x, y, z, cs, b, ok1⟩ := ok.openB hn
  have hlt := (List.getElem?_eq_some_iff.mp hn).1
  refine ⟨t, q.ps, q.si Z Lk.zero (L2.start N vs) (ro N ds) I μ _ H _ _ (rps_start r) ok1 (go x y z cs b) ⟨fun _ _ _ _ _ _ _ _ _ z => z.elim, fun v d' I' μ' S' H' e' ok' r' q' => ?_, fun _ _ _ _ _ _ _ _ _ z => z.elim, fun _ _ _ _ _ _ _ _ _ z => z.elim⟩⟩
  obtain ⟨x', y', z', b', rfl, q'⟩ := q'
  have ok2 := ok'.closeB (n := n) (x := x') (y := y') (z := z') (cs := cs) (by rw [List.getElem?_set_self (by simpa using hlt)]; rfl) b'
  rw [List.set_set] at ok2
  have e : St.set n M.bag = St := by
    apply List.ext_getElem?
    intro j
    by_cases hj : n = j
    · subst hj; rw [List.getElem?_set_self hlt, hn]
    · rw [List.getElem?_set_ne hj]
  rw [e] at ok2
  exact kp v d' I' μ' St H' e' ok2 r' q'
theorem fn_dataN {x qual : Str} {s : Stmt} {f : Addr} {fd : FuncData} {N ps : List Str} {k : Nat} {wb : WS} {sp : FSp} (F : C8.Fun K x qual s f fd) (S : FnScope N ps (C8.fnScope s)) (d : Bd P w K mg base k N qual s wb)
    (law : ∀ (ds : List D) (S : Sto) (Φ : D → Sto → Prop), ds.length = ps.length → sp ds S Φ → wb { nx := fun _ _ => False, rt := fun r S' => ∃ x y z cs, BagOk x y z cs ∧ r = .h S.length ∧ S' = S ++ [bagL x y z cs] ∧ Φ r (S ++ [.bag]) } (ro N ds) S) : FnOk P w K mg base C8.CX0 (k + 1) f fd ps (spOf K mg ps.length sp) := by
  refine C8.fn0 F S (fun vs H Q E h => h.1) fun cdv A outer s' H vs Q E hr h => ?_
  obtain ⟨hl, ds, Z, I, μ, St, Φ, r, ok, hs, kp⟩ := h
  obtain ⟨t, q⟩ := d f cdv A outer s' H E hr
  refine ⟨t, q.ps, q.si Z Lk.zero (L2.start N vs) (ro N ds) I μ _ H _ _ (rps_start r) ok (law ds St Φ (by rw [← r.length]; exact hl) hs) ⟨fun _ _ _ _ _ _ _ _ _ z => z.elim, fun v d' I' μ' S' H' e' ok' r' q' => ?_, fun _ _ _ _ _ _ _ _ _ z => z.elim, fun _ _ _ _ _ _ _ _ _ z => z.elim⟩⟩
  obtain ⟨x, y, z, cs, b, rfl, rfl, q'⟩ := q'
  have ok2 := ok'.closeB (n := St.length) (x := x) (y := y) (z := z) (cs := cs) (by rw [List.getElem?_append_right (Nat.le_refl _)]; simp [bagL]) b
  have e : (St ++ [bagL x y z cs]).set St.length M.bag = St ++ [M.bag] := by simp
  rw [e] at ok2
  exact kp v _ I' μ' _ H' e' ok2 r' q'
end
end Sq
set_option maxHeartbeats 4000000
namespace Sq
open PySem L2
section
variable {X : Cx} {Γ : Gam} {a b e o ix : Expr} {ta tb te to ti : TE} {wa wb we wo wi : WE} {pos tpos apos : Pos}
theorem s_par' {x y : Str} {ta : TA} {wa : WA} {px py pt : Pos} {kt k2 pt2} (i j : Nat) (hc : X.calm = true) (hN : X.N.Nodup) (hi : X.N[i]? = some x) (hj : X.N[j]? = some y) (hij : i ≠ j)
    (hx : X.env.scope.names.lookup x = some .local) (hy : X.env.scope.names.lookup y = some .local) (ha : SA X Γ [a, b] ta wa)
    (hw : swappedStores [.Tuple [.Name x px, .Name y py] kt pt] (.Tuple [a, b] k2 pt2) X.env = pure (some [x, y]))
    (hs : swapsWithSole [.Tuple [.Name x px, .Name y py] kt pt] (.Tuple [a, b] k2 pt2) pos.line X.env = pure false := by rfl) :
    SS X Γ (.Assign [.Tuple [.Name x px, .Name y py] kt pt] (.Tuple [a, b] k2 pt2) pos) (tPar i j ta) (wPar i j wa) :=
  s_par i j hc hN ha (ps_par hc hN hi hj hij hx hy ha.pa hw hs)
theorem se_app' {cpos : Pos} (ho : SE X Γ o to wo) (he : SE X Γ e te we) (h1 : attributeBase o "append" X.env (eval o X.env) = eval o X.env := by rfl)
    (h2 : ((backTo cpos (starEach [e] X.env)).all (fun x => !x.1) && (backToKw cpos (keywordEach [] X.env)).all (fun x => x.1.isSome) && decide ([e].length + ([] : List Keyword).length + (if ([] : List Keyword).isEmpty then 0 else 1) < 30)) = true := by rfl)
    (h3 : (apos.endLine == cpos.line) = true := by rfl) (h4 : starEach [e] X.env = (false, eval e X.env) :: starEach [] X.env := by rfl) (h5 : (backTo cpos (starEach [] X.env)).any (·.1) = false := by rfl) :
    SE X Γ (.Call (.Attribute o "append" apos) [e] [] cpos) (tBM X.K "list" rAppend to (tCons te tNil)) (wApp wo we) := se_app ho he (pe_bm PySem.F.plainAttrs_list PySem.F.slot_list_append PySem.F.type_list_append mt_append ho.pe (pa_cons he.pe pa_nil h4) h1 h2 h3 h4 h5)
theorem s_augL' {op : Operator} {g : Int → Int → Int} (hp : PIp X op (ipI g)) (ho : SE X Γ o to wo) (hi : SE X Γ ix ti wi) (he : SE X Γ e te we) (ha : ∀ ov iv new, augStore ix ov iv new = (do
      holding [new, ov, iv] (setItem ov iv new)
      release [new, ov, iv] []
      pure .next) := by intros; rfl) :
    SS X Γ (.AugAssign (.Subscript o ix tpos) op e pos) (tAugS to ti te (tGetL X.K) (ipI g) rSetL) (wAugL g wo wi we) := s_augL ho hi he (ps_augS ho.pe hi.pe get_list he.pe hp set_list ha)
def fPow : F2 := fI CPow fun i j => .int (i ^ j.toNat)
theorem se_pow (ha : SE X Γ a ta wa) (hb : SE X Γ b tb wb) : SE X Γ (.BinOp a .Pow b pos) (tOp (rI CPow fun i j => .int (i ^ j.toNat)) ta tb) (wOp fPow wa wb) := se_op op_pow (fun _ => opd_I fun _ _ _ _ => .int) ha hb
def wNeg (we : WE) : WE := fun ρ S Q => we ρ S fun d S1 => match d with
  | .int i => Q (.int (-i)) S1
  | _ => False
theorem se_neg (h : SE X Γ e te we) : SE X Γ (.UnaryOp .USub e pos) (tUn (rU fun i => .int (-i)) te) (wNeg we) :=
  ⟨pe_un un_neg h.pe, fun Z lk σ ρ I μ S H Q Φ rs ok hw k => h.si Z lk σ ρ I μ S H _ _ rs ok hw fun v d I1 μ1 S1 H1 e1 o1 r1 q1 => by
    split at q1
    · cases r1
      exact ⟨_, rfl, k _ _ I1 μ1 S1 H1 e1 o1 .int q1⟩
    · exact q1.elim⟩
structure PrD (P : Program) (w : World) (K : PySem.W.Frag) (mg : Str → Option Value) (base : Heap) (k : Nat) (c f : Str) (sp : FSp) : Prop where
  ex : ∃ (C p g : Addr) (fd : FuncData) (ps : List Str), mg c = some (.ref C) ∧ Cls K C ∧ PropOf K C f p g ∧ FnOk P w K mg base C8.CX0 k g fd ps (spOf K mg 1 sp) ∧ Binds K fd ps []
def tPr (mg : Str → Option Value) (c : Str) (sp : Sp) (te : TE) : TE := fun σ H Q => ∃ C, mg c = some (.ref C) ∧ tProp C sp [] C8.E0 te σ H Q
def wProp (c : Str) (sp : FSp) (we : WE) : WE := fun ρ S Q => we ρ S fun d S1 => (atts S1 c d).isSome = true ∧ sp [d] S1 Q
theorem se_prop {k j : Nat} {c f : Str} {sp : FSp} (m : PrD X.prog X.w X.K X.mg X.base k c f sp) (hr : Room j X.A) (hk : k + 1 ≤ j) (h : SE X Γ e te we) (hab : attributeBase e f X.env (eval e X.env) = eval e X.env := by rfl) :
    SE X Γ (.Attribute e f pos) (tPr X.mg c (spOf X.K X.mg 1 sp) te) (wProp c sp we) := by
  obtain ⟨C, p, g, fd, ps, hC, cl, po, F, b⟩ := m.ex
  refine ⟨⟨fun pins s σ H Q I hw => ?_⟩, fun Z lk σ ρ I μ S H Q Φ rs ok hw kp => ⟨C, hC, h.si Z lk σ ρ I μ S H _ _ rs ok hw fun v d I1 μ1 S1 H1 e1 o1 r1 q1 => ?_⟩⟩
  · obtain ⟨C', hC', q⟩ := hw
    rw [hC] at hC'
    cases hC'
    exact (pe_prop h.pe cl po F (hr.mono hk) b .nil C8.pass0 hab).run pins s σ H Q I q
  · obtain ⟨fs, hs⟩ := Option.isSome_iff_exists.mp q1.1
    obtain ⟨a, C', dx, fv, rfl, hC', hh, _⟩ := atts_ok o1 r1 hs
    rw [hC] at hC'
    cases hC'
    exact ⟨a, dx, fv, rfl, hh, rfl, [d], Z, I1, μ1, S1, Φ, .cons r1 .nil, o1, q1.2, kp.ext e1⟩
end
section
variable {P : Program} {w : World} {K : PySem.W.Frag} {mg : Str → Option Value} {base : Heap}
theorem cal_none {x : Str} {s : Stmt} {f : Addr} {fd : FuncData} {ps : List Str} {ds : List Value} {dvs : List V} {n : Nat} {sp : FSp} (F : C8.Def K mg x s f fd) (b : Binds K fd ps ds) (dv : Vals dvs ds) (h : ∀ ds S Q, ¬ sp ds S Q) : C8.Cal P w K mg base 0 x (spOf K mg n sp) dvs :=
  ⟨f, fd, ps, ds, ⟨fun vs H Q E hs => by obtain ⟨_, _, _, _, _, _, _, _, _, z, _⟩ := hs; exact (h _ _ _ z).elim, fun A outer s H args us vs Q E _ _ _ _ hs => by obtain ⟨_, _, _, _, _, _, _, _, _, z, _⟩ := hs; exact (h _ _ _ z).elim⟩, F.mgf, F.kp, b, dv⟩
theorem C8_mono {x : Str} {j k : Nat} {sp : Sp} {dvs : List V} (c : C8.Cal P w K mg base j x sp dvs) (h : j ≤ k) : C8.Cal P w K mg base k x sp dvs := by
  obtain ⟨f, fd, ps, ds, F, m, kp, b, d⟩ := c.ex
  exact ⟨f, fd, ps, ds, F.mono h, m, kp, b, d⟩
end
end Sq
set_option maxHeartbeats 4000000
namespace Sq
open PySem L2
section
variable {P : Program} {w : World} {K : PySem.W.Frag} {mg : Str → Option Value} {base : Heap}
def CutR (n : Nat) (Φ : D → Sto → Prop) : D → Sto → Prop := fun d S => ∃ (j : Nat) (ds : List D), d = .h j ∧ S[j]? = some (.lst ds) ∧ n ≤ j ∧ lows n ds ∧ (∀ (k : Nat) (m : M), k < n → S[k]? = some m → lowM n m) ∧ Φ (.lst ds) (S.take n)
theorem Kp.cutR {Z : Zt} {I : Hp} {μ : List Addr} {n : Nat} {Φ : D → Sto → Prop} {Q : VK} (k : Kp K mg Z I μ Φ Q) (hg : Z.g I μ) (hl : μ.length ≤ n) : Kp K mg Z I μ (CutR n Φ) Q := fun v d I' μ' S' H' e o r q => by
  obtain ⟨j, ds, rfl, hj, hn, l1, l2, q⟩ := q
  cases r with
  | h z =>
    obtain ⟨a, I2, z2, e2, o2, r2⟩ := o.freeze hj
    rw [z] at z2
    cases z2
    have ne : ∀ k, k < n → j ≠ k := fun k hk => by omega
    refine k.cut hg hl _ (.lst ds) I2 μ' _ H' (e.trans e2) o2 r2 ⟨by simpa [low] using l1, fun k m hk hm => l2 k m hk ?_, ?_⟩
    · rw [List.getElem?_set_ne (ne k hk)] at hm; exact hm
    · rw [List.take_set_of_le hn]; exact q
theorem fn_dataR {x qual : Str} {s : Stmt} {f : Addr} {fd : FuncData} {N ps : List Str} {k : Nat} {wb : WS} {sp : FSp} (F : C8.Fun K x qual s f fd) (S : FnScope N ps (C8.fnScope s)) (d : Bd P w K mg base k N qual s wb)
    (law : ∀ (ds : List D) (S : Sto) (Φ : D → Sto → Prop), ds.length = ps.length → sp ds S Φ → wb { nx := fun _ _ => False, rt := CutR S.length Φ } (ro N ds) S) : FnOk P w K mg base C8.CX0 (k + 1) f fd ps (spOf K mg ps.length sp) := by
  refine C8.fn0 F S (fun vs H Q E h => h.1) fun cdv A outer s' H vs Q E hr h => ?_
  obtain ⟨hl, ds, Z, I, μ, St, Φ, r, ok, hs, kp⟩ := h
  obtain ⟨t, q⟩ := d f cdv A outer s' H E hr
  have kc := kp.cutR (n := St.length) ok.gnd (by rw [ok.len]; exact Nat.le_refl _)
  exact ⟨t, q.ps, q.si Z Lk.zero (L2.start N vs) (ro N ds) I μ St H _ _ (rps_start r) ok (law ds St Φ (by rw [← r.length]; exact hl) hs) ⟨fun _ _ _ _ _ _ _ _ _ z => z.elim, kc, fun _ _ _ _ _ _ _ _ _ z => z.elim, fun _ _ _ _ _ _ _ _ _ z => z.elim⟩⟩
theorem cal_dataR {x : Str} {s : Stmt} {f : Addr} {fd : FuncData} {N ps : List Str} {ds : List Value} {dvs : List V} {k : Nat} {wb : WS} {sp : FSp} (F : C8.Def K mg x s f fd) (b : Binds K fd ps ds) (dv : Vals dvs ds) (S : FnScope N ps (C8.fnScope s)) (d : Bd P w K mg base k N x s wb)
    (law : ∀ (ds : List D) (S : Sto) (Φ : D → Sto → Prop), ds.length = ps.length → sp ds S Φ → wb { nx := fun _ _ => False, rt := CutR S.length Φ } (ro N ds) S) : C8.Cal P w K mg base (k + 1) x (spOf K mg ps.length sp) dvs :=
  ⟨f, fd, ps, ds, fn_dataR F.fn S d law, F.mgf, F.kp, b, dv⟩
end
end Sq
set_option maxHeartbeats 4000000
namespace Sq
open PySem PySem.Spec PyProof.Rows L2
def rRepr (K : PySem.W.Frag) (xs : List V) (H : Hp) (Q : VK) : Prop := ∃ (x : V) (p : PyData), xs = [x] ∧ Dp K H x p ∧ p.showable = true ∧ p.hasDict = false ∧ p.depth ≤ 60 ∧ p.shown.length ≤ sizeLine ∧ Q (.str p.shown) H
theorem call_repr {X : Cx} {j : Nat} (hg : X.A.guards = some []) (hr : Room j X.A) : CallR X (.builtin "repr") (rRepr X.K) := by
  intro pn s0 σ G xs us Q I r h
  obtain ⟨x, p, rfl, dp, h1, h2, h3, h4, q⟩ := h
  obtain ⟨u, rfl, ru⟩ := vals1 r
  have hu := hr.un
  cases dp with
  | non =>
    cases ru
    refine PySem.P.repr_of_none ⟨.str _, G, I.tok _, ⟨_, rfl⟩, ?_⟩
    simpa [PyData.shown] using q
  | bl b =>
    cases ru
    refine PySem.P.repr_of_bool ⟨.str _, G, I.tok _, ⟨_, rfl⟩, ?_⟩
    simpa [PyData.shown] using q
  | int i =>
    obtain ⟨t, rfl⟩ := ru
    refine PySem.P.repr_of_int (by simpa [PyData.showable] using h1) ⟨.str _, G, I.tok _, ⟨_, rfl⟩, ?_⟩
    simpa [PyData.shown] using q
  | str y =>
    obtain ⟨t, rfl⟩ := ru
    have z : (reprText y).length ≤ sizeLine := by simpa [PyData.shown] using h4
    refine PySem.P.repr_of_str ⟨.str _, G, I.tok _, ⟨_, rfl⟩, ?_⟩ z
    simpa [PyData.shown] using q
  | lst hs ha =>
    obtain ⟨as, rd⟩ := Dp.reads I _ _ u (.lst hs ha) ru
    cases ru
    exact PySem.repr_of_reads' rd h1 (PyData.noDict_hsm h2) hg (by omega) (fun _ _ e => e) (fun h' v tk k => ⟨.str _, G, I.kept k, ⟨_, rfl⟩, q⟩) h4
  | tup hs ha =>
    obtain ⟨as, rd⟩ := Dp.reads I _ _ u (.tup hs ha) ru
    cases ru
    exact PySem.repr_of_reads' rd h1 (PyData.noDict_hsm h2) hg (by omega) (fun _ _ e => e) (fun h' v tk k => ⟨.str _, G, I.kept k, ⟨_, rfl⟩, q⟩) h4
def fRepr : FSp := fun ds S Q => match ds with
  | [d] => onS (py (view S d)) fun p => p.showable = true ∧ p.hasDict = false ∧ p.depth ≤ 60 ∧ p.shown.length ≤ sizeLine ∧ Q (.str p.shown) S
  | _ => False
theorem cb_repr {K : PySem.W.Frag} {mg : Str → Option Value} {Z : Zt} : CbD K mg Z (rRepr K) fRepr := by
  intro I μ S H vs ds Q Φ ok r h k
  unfold fRepr at h
  split at h
  · cases r with
    | cons r t =>
      cases t
      obtain ⟨p, e, h1, h2, h3, h4, q⟩ := onS_iff h
      exact ⟨_, p, rfl, view_dp ok r e, h1, h2, h3, h4, k _ _ I μ S H .refl ok .str q⟩
  · exact h.elim
structure FnG (P : Program) (w : World) (K : PySem.W.Frag) (mg : Str → Option Value) (base : Heap) (k : Nat) (f : Addr) (fd : FuncData) (ps : List Str) (sp : Sp) : Prop where
  len : ∀ vs G Q E, sp vs G Q E → vs.length = ps.length
  run : ∀ (A : Around) (outer : List Env) (s0 : Shared) (G : Hp) (args : Args) (us : List Value) (vs : List V) (Q : VK) (E : XK), A.guards = some [] → Room k A → Env0 P w K mg base A outer s0 G → BindsTo s0 fd args (ps.zip us) → Vals vs us → sp vs G Q E →
    codeAny (model P w) A (.call (.ref f) args) (CR C8.CX0 outer P w G s0 Q E) s0
theorem FnG.mono {P : Program} {w : World} {K : PySem.W.Frag} {mg : Str → Option Value} {base : Heap} {j k : Nat} {f : Addr} {fd : FuncData} {ps : List Str} {sp : Sp} (F : FnG P w K mg base j f fd ps sp) (h : j ≤ k) : FnG P w K mg base k f fd ps sp :=
  ⟨F.len, fun A outer s0 G args us vs Q E hg hr => F.run A outer s0 G args us vs Q E hg (hr.mono h)⟩
structure CalG (P : Program) (w : World) (K : PySem.W.Frag) (mg : Str → Option Value) (base : Heap) (k : Nat) (x : Str) (sp : Sp) (dvs : List V) : Prop where
  ex : ∃ (f : Addr) (fd : FuncData) (ps : List Str) (ds : List Value), FnG P w K mg base k f fd ps sp ∧ mg x = some (.ref f) ∧ PySem.W.keepIn K (.ref f) = true ∧ Binds K fd ps ds ∧ Vals dvs ds
section
variable {P : Program} {w : World} {K : PySem.W.Frag} {mg : Str → Option Value} {base : Heap}
theorem fnG_of {k : Nat} {f : Addr} {nm ql : Str} {pp : Arguments} {bd : List Stmt} {sc : Scope} {dV kV doc pm cdv ct oc : Value} {an od : Option Addr}
    {osl : Array (Option Value)} {N ps : List Str} {sp : Sp} (lk : K.lookup f = some ⟨oc, od, .func (PySem.W.fnOf nm ql pp bd sc dV kV doc pm an cdv ct), osl⟩) (hcd : PySem.W.codeIn K cdv ql = true) (S : FnScope N ps sc)
    (len : ∀ vs G Q E, sp vs G Q E → vs.length = ps.length)
    (go : ∀ (A : Around) (outer : List Env) (s0 : Shared) (G : Hp) (vs : List V) (Q : VK) (E : XK), A.guards = some [] → Room k (A.deeper (envOfC ql sc s0.heap.objs.size f cdv)) → sp vs G Q E →
      ∃ t, PSs (cxOf C8.CX0 P w K mg base N ql sc f cdv A outer s0 G E) bd t ∧ t { nx := fun _ G' => Q .non G', rt := Q } (L2.start N vs) G) :
    FnG P w K mg base (k + 1) f (PySem.W.fnOf nm ql pp bd sc dV kV doc pm an cdv ct) ps sp := by
  refine ⟨len, fun A outer s0 G args us vs Q E gd room e0 bnd rv hsp => ?_⟩
  have lv := len _ _ _ _ hsp
  have KX : K.In s0.heap := e0.mod.kin.keeps fun b o e => (e0.bs b o e).1
  have nl : s0.heap.NoLimit := e0.mod.nolimit.keeps fun b o e => (e0.bs b o e).1
  have kd : ∀ y ∈ ps.zip us, sc.names.lookup y.1 = some .local ∨ (sc.names.lookup y.1 = some .cell ∧ ((cellsFrom (s0.heap.objs.size + 1) sc.names []).lookup y.1).isSome = true) := fun y hy => by
    have in_ps : y.1 ∈ ps := (List.of_mem_zip (a := y.1) (b := y.2) hy).1
    cases S.par y.1 in_ps with
    | inl q => exact .inl q
    | inr q => exact .inr (And.intro q (PySem.W.cellsFrom_some _ _ _ (.inl q)))
  refine codeAny_call_function room.depth (KX _ _ lk) rfl S.co S.gen rfl (PySem.W.codeRec_of KX hcd) (bnd _ _ _ _ ?_)
  refine wpAny_newFunctionEnv_cells S.kind kd fun env he s1 x => ?_
  rw [he]
  refine And.intro (nl.keeps x.toInCall.keep) (codeAny_func ?_)
  obtain ⟨t, pt, tq⟩ := go A outer s0 G vs Q E gd (room.deeper _) hsp
  have I0 : Inv (cxOf C8.CX0 P w K mg base N ql sc f cdv A outer s0 G E) [] (L2.start N vs) G s1 := by
    rw [he] at x
    exact inv_start S room.hd e0 lv rv x
  refine wpAny_mono (pt.run [] s1 (L2.start N vs) G _ I0 tq) (fun fl s2 hs => ?_) fun _ _ hs => hs
  have fin : ∀ {σ2 : L2.St} {G2 : Hp} {v : V} {u : Value}, Inv (cxOf C8.CX0 P w K mg base N ql sc f cdv A outer s0 G E) [] σ2 G2 s2 → RelV v u → Q v G2 → CE outer P w G s0 Q u s2 :=
    fun {_ G2 v _} J r q => ⟨v, G2, J.os, J.bare, J.base, J.hok, r, q⟩
  match fl, hs with
  | .ret u, ⟨v, _, _, J, r, q⟩ => exact fin J r q
  | .next, ⟨_, _, J, q⟩ => exact fin (u := Value.none) (v := V.non) J rfl q
  | .brk, ⟨_, _, _, q⟩ => exact q.elim
  | .cont, ⟨_, _, _, q⟩ => exact q.elim
theorem fn0G {x ql : Str} {st : Stmt} {f : Addr} {fd : FuncData} {N ps : List Str} {k : Nat} {sp : Sp} (F : C8.Fun K x ql st f fd) (S : FnScope N ps (C8.fnScope st)) (len : ∀ vs G Q E, sp vs G Q E → vs.length = ps.length)
    (go : ∀ (cdv : Value) (A : Around) (outer : List Env) (s0 : Shared) (G : Hp) (vs : List V) (Q : VK) (E : XK), A.guards = some [] → Room k (A.deeper (envOfC ql (C8.fnScope st) s0.heap.objs.size f cdv)) → sp vs G Q E →
      ∃ t, PSs (cxOf C8.CX0 P w K mg base N ql (C8.fnScope st) f cdv A outer s0 G E).nox (C8.fnBody st) t ∧ t { nx := fun _ G' => Q .non G', rt := Q } (L2.start N vs) G) : FnG P w K mg base (k + 1) f fd ps sp := by
  obtain ⟨oc, od, dV, kV, doc, pm, an, cdv, ct, osl, rfl, lk, hcd⟩ := F.ex
  refine fnG_of lk hcd S len fun A outer s0 G vs Q E gd room hsp => ?_
  obtain ⟨t, pt, tq⟩ := go cdv A outer s0 G vs Q E gd room hsp
  exact ⟨t, pt.nox, tq⟩
def BdG (P : Program) (w : World) (K : PySem.W.Frag) (mg : Str → Option Value) (base : Heap) (k : Nat) (N : List Str) (qual : Str) (s : Stmt) (wb : WS) : Prop :=
  ∀ (f : Addr) (cdv : Value) (A : Around) (outer : List Env) (sh : Shared) (H : Hp) (E : XK), A.guards = some [] → Room k (A.deeper (envOfC qual (C8.fnScope s) sh.heap.objs.size f cdv)) →
    ∃ t, SSs (Bx P w K mg base N qual (C8.fnScope s) f cdv A outer sh H E) G0 (C8.fnBody s) t wb
theorem fnG_data {x qual : Str} {s : Stmt} {f : Addr} {fd : FuncData} {N ps : List Str} {k : Nat} {wb : WS} {sp : FSp} (F : C8.Fun K x qual s f fd) (S : FnScope N ps (C8.fnScope s)) (d : BdG P w K mg base k N qual s wb)
    (law : ∀ (ds : List D) (S : Sto) (Φ : D → Sto → Prop), ds.length = ps.length → sp ds S Φ → wb { nx := fun _ S' => Φ .non S', rt := Φ } (ro N ds) S) : FnG P w K mg base (k + 1) f fd ps (spOf K mg ps.length sp) := by
  refine fn0G F S (fun vs H Q E h => h.1) fun cdv A outer s' H vs Q E hg hr h => ?_
  obtain ⟨hl, ds, Z, I, μ, St, Φ, r, ok, hs, kp⟩ := h
  obtain ⟨t, q⟩ := d f cdv A outer s' H E hg hr
  refine ⟨t, q.ps, q.si Z Lk.zero (L2.start N vs) (ro N ds) I μ St H _ _ (rps_start r) ok (law ds St Φ (by rw [← r.length]; exact hl) hs) ⟨fun σ' ρ' I' μ' S' H' e' rs' ok' q' => ?_, kp, fun _ _ _ _ _ _ _ _ _ z => z.elim, fun _ _ _ _ _ _ _ _ _ z => z.elim⟩⟩
  exact kp .non .non I' μ' S' H' e' ok' .non q'
theorem calG_data {x : Str} {s : Stmt} {f : Addr} {fd : FuncData} {N ps : List Str} {ds : List Value} {dvs : List V} {k : Nat} {wb : WS} {sp : FSp} (F : C8.Def K mg x s f fd) (b : Binds K fd ps ds) (dv : Vals dvs ds) (S : FnScope N ps (C8.fnScope s)) (d : BdG P w K mg base k N x s wb)
    (law : ∀ (ds : List D) (S : Sto) (Φ : D → Sto → Prop), ds.length = ps.length → sp ds S Φ → wb { nx := fun _ S' => Φ .non S', rt := Φ } (ro N ds) S) : CalG P w K mg base (k + 1) x (spOf K mg ps.length sp) dvs :=
  ⟨f, fd, ps, ds, fnG_data F.fn S d law, F.mgf, F.kp, b, dv⟩
end
section
variable {X : Cx} {Γ : Gam} {k j n : Nat} {x : Str} {sp : FSp} {dvs : List V} {dd : List D} {p pos : Pos} {e : Expr} {es : List Expr} {t : TA} {wa : WA}
theorem run_fnG {f : Addr} {fd : FuncData} {ps : List Str} {ds : List Value} {sq : Sp} {pn : List (Addr × Obj)} {σ : L2.St} {G : Hp} {s0 : Shared} {Q : VK} {us : List Value} {vs : List V} (F : FnG X.prog X.w X.K X.mg X.base k f fd ps sq) (hg : X.A.guards = some []) (hr : Room k X.A) (hb : Binds X.K fd ps ds) (hd : Vals dvs ds)
    (I : Inv X pn σ G s0) (r : Vals vs us) (h : sq (vs ++ dvs) G Q C8.E0) : wpAny (model X.prog X.w) X.A (call (.ref f) us) (EP X pn σ Q) X.xe s0 := by
  have rv : Vals (vs ++ dvs) (us ++ ds) := r.append hd
  have ll : (us ++ ds).length = ps.length := Eq.trans rv.length.symm (F.len _ _ _ _ h)
  refine wpAny_call (codeAny_mono (F.run X.A X.stack s0 G ⟨us, []⟩ (us ++ ds) (vs ++ dvs) Q C8.E0 hg hr I.env0 (hb s0 us I.kIn ll) rv h) fun z s' hq => ?_)
  match z, hq with
  | .error e, hq => exact C8.pass0 (E := C8.E0) pn σ G s0 e s' I hq
  | .ok (.ret u), hq => exact I.after hq
  | .ok .next, hq => exact hq.elim
  | .ok .brk, hq => exact hq.elim
  | .ok .cont, hq => exact hq.elim
theorem se_callG (c : CalG X.prog X.w X.K X.mg X.base k x (spOf X.K X.mg n sp) dvs) (hgd : X.A.guards = some []) (hr : Room j X.A) (hk : k ≤ j) (hd : ∀ I μ, RpL X.K X.mg I μ dvs dd) (ha : SA X Γ (e :: es) t wa) (hg : Gl X x := by rfl)
    (hdb : (x == ("__debug__" : Str)) = false := by decide) (he : starEach (e :: es) X.env = (false, eval e X.env) :: starEach es X.env := by rfl) (hpl : (backTo pos (starEach es X.env)).any (·.1) = false := by rfl) :
    SE X Γ (.Call (.Name x p) (e :: es) [] pos) (tCall (spOf X.K X.mg n sp) dvs C8.E0 t) (wCall n sp dd wa) := by
  refine ⟨⟨fun pn s0 σ G Q I h => ?_⟩, fun Z lk => sim_call hd (ha.si Z lk)⟩
  obtain ⟨f, fd, ps, ds, F, hm, kp, b, dv⟩ := c.ex
  refine wpAny_Call_Name_kw (ld_glob I hg hm ?_ hdb)
  exact PySem.W.callWith_K (h₀ := X.base) I.ok.mod.kin kp (thn (ha.pa.run pos pn s0 σ G _ I h) fun us s1 ⟨vs, G1, I1, r, q⟩ => ⟨I1.kIn, run_fnG F hgd (hr.mono hk) b dv I1 r q⟩) he hpl
end
section
variable {P : Program} {w : World} {K : PySem.W.Frag}
theorem top_call {mg mb : Str → Option Value} {k : Nat} {fa a : Addr} {fd : FuncData} {x : Str} {sp : Sp} {z1 : Shared} {vs : List Value} {ns : List Int}
    (KX : K.In z1.heap) (nsm : z1.heap.Ns mainGlobals mg) (nsb : z1.heap.Ns builtinsNs mb) (eb : ∀ x : Str, x ≠ "__name__" → mb x = bootBuiltins x) (nl : z1.heap.NoLimit) (ng : z1.gens = #[])
    (ha : z1.heap.get? a = some { cls := .type "list", data := .seq vs.toArray }) (hi : IntsAre vs ns) (hl : ns.length ≤ sizeLine) (hr : Room k callerA)
    (F : ∀ base : Heap, K.In base → base.Ns mainGlobals mg → FnG P w K mg base k fa fd [x] sp) (hbind : ∀ (s : Shared) (u : Value), BindsTo s fd ⟨[u], []⟩ [(x, u)])
    (hsp : ∀ G : Hp, Only G → SqL K G a (ns.map V.int) → sp [.ref a] G (fun v _ => v = .bl true) fun _ _ _ => False) :
    codeAny (model P w) callerA (.call (.ref fa) ⟨[.ref a], []⟩) (fun r z2 => r = .ok (.ret (.bool true)) ∧ OldK z1.heap z2.heap ∧ z2.os = z1.os ∧ AllBare z2.gens) z1 := by
  have rv := vals_ints hi
  have core : ∀ G : Hp, Only G → SqL K G a (ns.map V.int) → HOk P w G z1.heap → (∀ b, G b ≠ none → b = a) → (G a ≠ none → K.lookup a = none) →
      codeAny (model P w) callerA (.call (.ref fa) ⟨[.ref a], []⟩) (fun r z2 => r = .ok (.ret (.bool true)) ∧ OldK z1.heap z2.heap ∧ z2.os = z1.os ∧ AllBare z2.gens) z1 := by
    intro G gO gS gok gA gK
    have atA : ∀ {b : Addr}, G b ≠ none → b = a := fun {b} h => gA b h
    have base_of : ∀ {b : Addr} {o : Obj}, z1.heap.get? b = some o → G b = none → (hidT z1.heap G).get? b = some o := fun e n => hidT_get e n
    have noA : ∀ {b : Addr} {o : Obj} {es : Array DictEntry} {ep : Nat}, z1.heap.get? b = some o → o.data = .dict es ep → G b = none := fun {b o es ep} e d => by
      by_cases q : G b = none
      · exact q
      · rw [atA q, ha] at e
        cases e
        exact nomatch d
    have nsK : ∀ {b : Addr} {m : Str → Option Value}, z1.heap.Ns b m → (hidT z1.heap G).Ns b m := fun {b m} q => by
      obtain ⟨o, es, ep, e, d, r⟩ := q
      exact ⟨o, es, ep, base_of e (noA e d), d, r⟩
    have kin : K.In (hidT z1.heap G) := fun b o e => base_of (KX b o e) (by
      by_cases q : G b = none
      · exact q
      · have z := atA q
        rw [z] at q e
        rw [gK q] at e
        cases e)
    have hM : Mod K mg (hidT z1.heap G) := by
      obtain ⟨mc, h1, h2⟩ := nl
      exact ⟨kin, nsK nsm, ⟨mb, nsK nsb, eb⟩, ⟨mc, nsK h1, h2⟩⟩
    have e0 : Env0 P w K mg (hidT z1.heap G) callerA [] z1 G := by
      refine ⟨rfl, hM, fun b o e => of_hidT e, Nat.le_of_eq (hidT_size _ _), trivial, fun b hb => ?_, gok, .of_eq ng⟩
      exact absurd (show b ∈ ([] : List Addr) from hb) (by simp)
    refine codeAny_mono ((F _ kin (nsK nsm)).run callerA [] z1 G ⟨[.ref a], []⟩ [.ref a] [.ref a] _ _ rfl hr e0 (hbind z1 (.ref a)) (.cons rfl .nil) (hsp G gO gS)) fun r z2 h => ?_
    match r, h with
    | .error e, h => exact h.elim
    | .ok .next, h => exact h.elim
    | .ok .brk, h => exact h.elim
    | .ok .cont, h => exact h.elim
    | .ok (.ret u), ⟨v, G2, os, bare, un, gok2, r2, q⟩ =>
      have qv : v = .bl true := q
      rw [qv] at r2
      obtain rfl : u = Value.bool true := r2
      refine ⟨rfl, OldK.of_keep fun b o e => ?_, os, bare⟩
      rcases gO b with q | ⟨ob, xs, q⟩
      · exact un.keep b o e q (by intro z; exact absurd (show b ∈ ([] : List Addr) from z) (by simp)) (by simp)
      · have y := un.frzs b ob _ q
        have e1 := (gok b _ q).1
        have e2 := (gok2 b _ y).1
        rw [e] at e1
        cases e1
        exact e2
  have lv := hi.length
  by_cases hk : ∃ o, K.lookup a = some o
  · -- the script lies among the module's own objects
    obtain ⟨o, hk⟩ := hk
    have e := KX a o hk
    rw [ha] at e
    cases e
    refine core (fun _ => none) (fun _ => .inl rfl) (.inr ⟨_, vs.toArray, _, hk, rfl, rfl, rfl, by rw [List.size_toArray, lv]; exact hl, by simpa using rv⟩) (fun b u y => nomatch (show (none : Option HO) = some u from y)) (fun b y => absurd rfl y) fun y => absurd rfl y
  · have hk : K.lookup a = none := by
      cases q : K.lookup a with
      | none => rfl
      | some o => exact (hk ⟨o, q⟩).elim
    refine core (fun b => if b = a then some (.frz { cls := .type "list", data := .seq vs.toArray } (.lst (ns.map V.int))) else none) (fun b => ?_) (.inl (.inr ⟨{ cls := .type "list", data := .seq vs.toArray }, if_pos rfl⟩)) (fun b u y => ?_) (fun b y => ?_) fun _ => hk
    · by_cases e : b = a
      · exact .inr ⟨_, _, if_pos e⟩
      · exact .inl (if_neg e)
    · by_cases e : b = a
      · have y' := Eq.trans (if_pos e).symm y
        cases y'
        rw [e]
        exact ⟨ha, by rw [List.length_map]; exact hl, vs, _, rv, ha⟩
      · exact nomatch Eq.trans (if_neg e).symm y
    · by_cases e : b = a
      · exact e
      · exact absurd (if_neg e) y
end
theorem walk_top {l : PySem.W.OpenLaw} {n k : Nat} {q : Program} {loose : List Str} {XP : (Str → Option Value) → Heap → Prop} {YP : World → Heap → Prop} {d : DefRec} {K : Params → PySem.W.Frag} {sp : World → (Str → Option Value) → Sp} {x : Str}
    (hn : l.most = some n) (hz : n ≤ sizeLine) (hdf : d.params.defaults = []) (room : Room k callerA) (hY : ∀ (w : World) (h : Heap), YP w h → (K w.params).In h)
    (F : ∀ (w : World) (mg : Str → Option Value) (fa : Addr) (h : Heap), (K w.params).In h → h.Ns mainGlobals mg → mg d.name = some (.ref fa) →
      ∃ fd : FuncData, (∀ (s : Shared) (u : Value), BindsTo s fd ⟨[u], []⟩ [(x, u)]) ∧ ∀ base : Heap, (K w.params).In base → base.Ns mainGlobals mg → FnG l.prog w (K w.params) mg base k fa fd [x] (sp w mg))
    (hsp : ∀ (w : World) (mg : Str → Option Value) (G : Hp) (a : Addr) (ns : List Int), ns.length ≤ n → Only G → SqL (K w.params) G a (ns.map V.int) → sp w mg [.ref a] G (fun v _ => v = .bl true) fun _ _ _ => False) :
    PySem.W.WalkO q loose XP YP l.row.toRowW d [] (fun f vs => PySem.call f vs) := by
  refine Att.attach_call hn hdf fun w sA z1 mg mb fa o pm cd doc a vs ns G Y ho hd hcd hmg hobj hin hlen hg => ?_
  have KX := hY w _ Y
  obtain ⟨fd, bnd, F2⟩ := F w mg fa _ KX G.T.g hmg
  exact top_call KX G.T.g G.T.b G.T.builtins G.T.nolimit hg hobj hin (Nat.le_trans hlen hz) room F2 bnd fun H hO hS => hsp w mg H a ns hlen hO hS
end Sq
set_option maxHeartbeats 4000000
namespace Sq
open PySem PySem.Spec PySem.Calls PyProof.Rows L2
structure DD (K : PySem.W.Frag) (mg : Str → Option Value) (x : Str) (s : Stmt) (ps : List Str) (dvs : List V) : Prop where
  ex : ∃ (f : Addr) (fd : FuncData) (ds : List Value), C8.Def K mg x s f fd ∧ Binds K fd ps ds ∧ Vals dvs ds
structure DM (K : PySem.W.Frag) (mg : Str → Option Value) (c m ql : Str) (s : Stmt) (ps : List Str) (dvs : List V) : Prop where
  ex : ∃ (C f : Addr) (fd : FuncData) (ds : List Value), mg c = some (.ref C) ∧ Cls K C ∧ Meth K C m f ∧ C8.Fun K m ql s f fd ∧ Binds K fd ps ds ∧ Vals dvs ds
structure DI (K : PySem.W.Frag) (mg : Str → Option Value) (c ql : Str) (s : Stmt) (ps : List Str) (dvs : List V) : Prop where
  ex : ∃ (C f : Addr) (fd : FuncData) (ds : List Value), mg c = some (.ref C) ∧ Mk K C f ∧ C8.Fun K "__init__" ql s f fd ∧ Binds K fd ps ds ∧ Vals dvs ds
structure DC (K : PySem.W.Frag) (mg : Str → Option Value) (c ql : Str) (s : Stmt) (ps : List Str) : Prop where
  ex : ∃ (C f : Addr) (fd : FuncData), mg c = some (.ref C) ∧ StX.CallO K C f ∧ C8.Fun K "__call__" ql s f fd ∧ Binds K fd ps []
structure DO (K : PySem.W.Frag) (mg : Str → Option Value) (c m ql : Str) (op : Operator) (s : Stmt) (ps : List Str) : Prop where
  ex : ∃ (C f : Addr) (fd : FuncData), mg c = some (.ref C) ∧ PySem.W.selfFirst K C = true ∧ PySem.W.findIn K (.ref C) (PySem.dunder op.info.2) = some (some (.ref f)) ∧ PySem.W.isFn K (.ref f) = true ∧ C8.Fun K m ql s f fd ∧ Binds K fd ps []
structure DP (K : PySem.W.Frag) (mg : Str → Option Value) (c m ql : Str) (s : Stmt) (ps : List Str) : Prop where
  ex : ∃ (C p f : Addr) (fd : FuncData), mg c = some (.ref C) ∧ Cls K C ∧ PropOf K C m p f ∧ C8.Fun K m ql s f fd ∧ Binds K fd ps []
section
variable {P : Program} {w : World} {K : PySem.W.Frag} {mg : Str → Option Value} {base : Heap} {x c m ql : Str} {s : Stmt} {ps N : List Str} {dvs : List V} {k : Nat} {wb : WS} {sp : FSp} {op : Operator}
def LawD (ps N : List Str) (wb : WS) (sp : FSp) : Prop := ∀ (ds : List D) (S : Sto) (Φ : D → Sto → Prop), ds.length = ps.length → sp ds S Φ → wb { nx := fun _ S' => Φ .non S', rt := Φ } (ro N ds) S
theorem DD.cal (d : DD K mg x s ps dvs) (S : FnScope N ps (C8.fnScope s)) (b : Bd P w K mg base k N x s wb) (law : LawD ps N wb sp) : C8.Cal P w K mg base (k + 1) x (spOf K mg ps.length sp) dvs := by
  obtain ⟨f, fd, ds, F, bi, dv⟩ := d.ex
  exact cal_data F bi dv S b law
theorem DD.calC (d : DD K mg x s ps dvs) (S : FnScope N ps (C8.fnScope s)) (b : Bd P w K mg base k N x s wb)
    (law : ∀ (ds : List D) (S : Sto) (Φ : D → Sto → Prop), ds.length = ps.length → sp ds S Φ → wb { nx := fun _ S' => Cut S.length Φ .non S', rt := Cut S.length Φ } (ro N ds) S) : C8.Cal P w K mg base (k + 1) x (spOf K mg ps.length sp) dvs := by
  obtain ⟨f, fd, ds, F, bi, dv⟩ := d.ex
  exact cal_dataC F bi dv S b law
theorem DD.calR (d : DD K mg x s ps dvs) (S : FnScope N ps (C8.fnScope s)) (b : Bd P w K mg base k N x s wb)
    (law : ∀ (ds : List D) (S : Sto) (Φ : D → Sto → Prop), ds.length = ps.length → sp ds S Φ → wb { nx := fun _ _ => False, rt := CutR S.length Φ } (ro N ds) S) : C8.Cal P w K mg base (k + 1) x (spOf K mg ps.length sp) dvs := by
  obtain ⟨f, fd, ds, F, bi, dv⟩ := d.ex
  exact cal_dataR F bi dv S b law
theorem DD.calB (d : DD K mg x s ps dvs) (S : FnScope N ps (C8.fnScope s)) (b : Bd P w K mg base k N x s wb)
    (law : ∀ (ds : List D) (S : Sto) (Φ : D → Sto → Prop), ds.length = ps.length → sp ds S Φ → ∃ n, S[n]? = some .bag ∧ ∀ (x y z : Int) (cs : List Int), BagOk x y z cs →
      wb { nx := fun _ _ => False, rt := fun r S' => ∃ x' y' z', BagOk x' y' z' cs ∧ S' = S.set n (bagL x' y' z' cs) ∧ Φ r S } (ro N ds) (S.set n (bagL x y z cs))) : C8.Cal P w K mg base (k + 1) x (spOf K mg ps.length sp) dvs := by
  obtain ⟨f, fd, ds, F, bi, dv⟩ := d.ex
  exact ⟨f, fd, ps, ds, fn_dataB F.fn S b law, F.mgf, F.kp, bi, dv⟩
theorem DD.calN (d : DD K mg x s ps dvs) (S : FnScope N ps (C8.fnScope s)) (b : Bd P w K mg base k N x s wb)
    (law : ∀ (ds : List D) (S : Sto) (Φ : D → Sto → Prop), ds.length = ps.length → sp ds S Φ → wb { nx := fun _ _ => False, rt := fun r S' => ∃ x y z cs, BagOk x y z cs ∧ r = .h S.length ∧ S' = S ++ [bagL x y z cs] ∧ Φ r (S ++ [.bag]) } (ro N ds) S) : C8.Cal P w K mg base (k + 1) x (spOf K mg ps.length sp) dvs := by
  obtain ⟨f, fd, ds, F, bi, dv⟩ := d.ex
  exact ⟨f, fd, ps, ds, fn_dataN F.fn S b law, F.mgf, F.kp, bi, dv⟩
theorem DD.calG (d : DD K mg x s ps dvs) (S : FnScope N ps (C8.fnScope s)) (b : BdG P w K mg base k N x s wb) (law : LawD ps N wb sp) : CalG P w K mg base (k + 1) x (spOf K mg ps.length sp) dvs := by
  obtain ⟨f, fd, ds, F, bi, dv⟩ := d.ex
  exact calG_data F bi dv S b law
theorem DD.none {n : Nat} (d : DD K mg x s ps dvs) (h : ∀ ds S Q, ¬ sp ds S Q) : C8.Cal P w K mg base 0 x (spOf K mg n sp) dvs := by
  obtain ⟨f, fd, ds, F, bi, dv⟩ := d.ex
  exact cal_none F bi dv h
theorem DM.md (d : DM K mg c m ql s ps dvs) (S : FnScope N ps (C8.fnScope s)) (b : Bd P w K mg base k N ql s wb) (law : LawD ps N wb sp) : MD P w K mg base (k + 1) c m ps.length sp dvs := by
  obtain ⟨C, f, fd, ds, hC, cl, me, F, bi, dv⟩ := d.ex
  exact ⟨C, hC, f, fd, ps, ds, cl, me, fn_data F S b law, bi, dv⟩
theorem DI.made (d : DI K mg c ql s ps dvs) (S : FnScope N ps (C8.fnScope s)) (b : Bd P w K mg base k N ql s wb) (law : LawD ps N wb sp) : MkD P w K mg base (k + 1) c ps.length sp dvs := by
  obtain ⟨C, f, fd, ds, hC, M, F, bi, dv⟩ := d.ex
  exact ⟨C, hC, f, fd, ps, ds, M, fn_data F S b law, hC, bi, dv⟩
theorem DC.cl (d : DC K mg c ql s ps) (S : FnScope N ps (C8.fnScope s)) (b : Bd P w K mg base k N ql s wb) (law : LawD ps N wb sp) : CallD P w K mg base (k + 1) c ps.length sp := by
  obtain ⟨C, f, fd, hC, co, F, bi⟩ := d.ex
  exact ⟨C, f, fd, ps, hC, co, fn_data F S b law, bi⟩
theorem DO.own (d : DO K mg c m ql op s ps) (h2 : ps.length = 2) (S : FnScope N ps (C8.fnScope s)) (b : Bd P w K mg base k N ql s wb) (law : LawD ps N wb sp) : OpO P w K mg base (k + 1) c op sp := by
  obtain ⟨C, f, fd, hC, sf, fi, isf, F, bi⟩ := d.ex
  exact ⟨C, f, fd, ps, hC, sf, fi, isf, h2 ▸ fn_data F S b law, bi⟩
theorem DP.pr (d : DP K mg c m ql s ps) (h1 : ps.length = 1) (S : FnScope N ps (C8.fnScope s)) (b : Bd P w K mg base k N ql s wb) (law : LawD ps N wb sp) : PrD P w K mg base (k + 1) c m sp := by
  obtain ⟨C, p, f, fd, hC, cl, po, F, bi⟩ := d.ex
  exact ⟨C, p, f, fd, ps, hC, cl, po, h1 ▸ fn_data F S b law, bi⟩
end
section
variable {K : PySem.W.Frag} {mg : Str → Option Value} {h : Heap} {x c m ql : Str} {s : Stmt} {ps : List Str} {f C : Addr} {oc kV dc pm cd ct : Value} {od an : Option Addr} {sl : Array (Option Value)}
def Plain (x ql : Str) (s : Stmt) (ps : List Str) : Prop := ∀ (kV doc pm : Value) (an : Option Addr) (cdv ct : Value) (us : List Value), us.length = ps.length → bindArgs (PySem.W.fnOf x ql (C8.fnArgs s) (C8.fnBody s) (C8.fnScope s) .none kV doc pm an cdv ct) ⟨us, []⟩ = pure (ps.zip us)
theorem fun_of {dV : Value} (l : K.lookup f = some ⟨oc, od, .func (PySem.W.fnOf x ql (C8.fnArgs s) (C8.fnBody s) (C8.fnScope s) dV kV dc pm an cd ct), sl⟩) (hc : PySem.W.codeIn K cd ql = true) :
    C8.Fun K x ql s f (PySem.W.fnOf x ql (C8.fnArgs s) (C8.fnBody s) (C8.fnScope s) dV kV dc pm an cd ct) := ⟨oc, od, dV, kV, dc, pm, an, cd, ct, sl, rfl, l, hc⟩
theorem DD.of (X : K.In h) (G : h.Ns mainGlobals mg) (a : PySem.W.nsIn K mainGlobals x = some (some (.ref f))) (l : K.lookup f = some ⟨oc, od, .func (PySem.W.fnOf x x (C8.fnArgs s) (C8.fnBody s) (C8.fnScope s) .none kV dc pm an cd ct), sl⟩)
    (hc : PySem.W.codeIn K cd x = true) (hk : PySem.W.keepIn K (.ref f) = true) (b : Plain x x s ps) : DD K mg x s ps [] :=
  ⟨f, _, [], ⟨fun_of l hc, PySem.W.mg_of X G a, hk⟩, (fun_of l hc).binds rfl b, .nil⟩
theorem DM.of (X : K.In h) (G : h.Ns mainGlobals mg) (aC : PySem.W.nsIn K mainGlobals c = some (some (.ref C))) (cl : Cls K C) (a : PySem.W.findIn K (.ref C) m = some (some (.ref f))) (i : PySem.W.isFn K (.ref f) = true)
    (l : K.lookup f = some ⟨oc, od, .func (PySem.W.fnOf m ql (C8.fnArgs s) (C8.fnBody s) (C8.fnScope s) .none kV dc pm an cd ct), sl⟩) (hc : PySem.W.codeIn K cd ql = true) (hk : PySem.W.keepIn K (.ref f) = true) (b : Plain m ql s ps) : DM K mg c m ql s ps [] :=
  ⟨C, f, _, [], PySem.W.mg_of X G aC, cl, ⟨a, i, hk⟩, fun_of l hc, (fun_of l hc).binds rfl b, .nil⟩
theorem DI.of (X : K.In h) (G : h.Ns mainGlobals mg) (aC : PySem.W.nsIn K mainGlobals c = some (some (.ref C))) (mk : PySem.W.makesIn K C = true) (kc : PySem.W.keepIn K (.ref C) = true) (a : PySem.W.findIn K (.ref C) "__init__" = some (some (.ref f))) (i : PySem.W.isFn K (.ref f) = true)
    (l : K.lookup f = some ⟨oc, od, .func (PySem.W.fnOf "__init__" ql (C8.fnArgs s) (C8.fnBody s) (C8.fnScope s) .none kV dc pm an cd ct), sl⟩) (hc : PySem.W.codeIn K cd ql = true) (b : Plain "__init__" ql s ps) : DI K mg c ql s ps [] :=
  ⟨C, f, _, [], PySem.W.mg_of X G aC, ⟨mk, a, i, kc⟩, fun_of l hc, (fun_of l hc).binds rfl b, .nil⟩
theorem DC.of (X : K.In h) (G : h.Ns mainGlobals mg) (aC : PySem.W.nsIn K mainGlobals c = some (some (.ref C))) (a : PySem.W.findIn K (.ref C) "__call__" = some (some (.ref f))) (i : PySem.W.isFn K (.ref f) = true) (fi : PySem.W.fnIn K f = true)
    (l : K.lookup f = some ⟨oc, od, .func (PySem.W.fnOf "__call__" ql (C8.fnArgs s) (C8.fnBody s) (C8.fnScope s) .none kV dc pm an cd ct), sl⟩) (hc : PySem.W.codeIn K cd ql = true) (b : Plain "__call__" ql s ps) : DC K mg c ql s ps :=
  ⟨C, f, _, PySem.W.mg_of X G aC, ⟨a, i, fi⟩, fun_of l hc, (fun_of l hc).binds rfl b⟩
theorem DO.of {op : Operator} (X : K.In h) (G : h.Ns mainGlobals mg) (aC : PySem.W.nsIn K mainGlobals c = some (some (.ref C))) (sf : PySem.W.selfFirst K C = true) (a : PySem.W.findIn K (.ref C) (PySem.dunder op.info.2) = some (some (.ref f))) (i : PySem.W.isFn K (.ref f) = true)
    (l : K.lookup f = some ⟨oc, od, .func (PySem.W.fnOf m ql (C8.fnArgs s) (C8.fnBody s) (C8.fnScope s) .none kV dc pm an cd ct), sl⟩) (hc : PySem.W.codeIn K cd ql = true) (b : Plain m ql s ps) : DO K mg c m ql op s ps :=
  ⟨C, f, _, PySem.W.mg_of X G aC, sf, a, i, fun_of l hc, (fun_of l hc).binds rfl b⟩
theorem DP.of {p : Addr} {rest : List Value} (X : K.In h) (G : h.Ns mainGlobals mg) (aC : PySem.W.nsIn K mainGlobals c = some (some (.ref C))) (cl : Cls K C) (a : PySem.W.findIn K (.ref C) m = some (some (.ref p)))
    (g : PySem.W.specialIn K (.ref p) "__get__" = some (some (.builtin "property.__get__"))) (t : PySem.W.takesIn K (.ref p) = some true) (r : PySem.W.recIn K p "property" = some (.ref f :: rest))
    (l : K.lookup f = some ⟨oc, od, .func (PySem.W.fnOf m ql (C8.fnArgs s) (C8.fnBody s) (C8.fnScope s) .none kV dc pm an cd ct), sl⟩) (hc : PySem.W.codeIn K cd ql = true) (b : Plain m ql s ps) : DP K mg c m ql s ps :=
  ⟨C, p, f, _, PySem.W.mg_of X G aC, cl, ⟨a, g, t, ⟨rest, r⟩⟩, fun_of l hc, (fun_of l hc).binds rfl b⟩
theorem KF.of {fl : Str} (X : K.In h) (G : h.Ns mainGlobals mg) (aC : PySem.W.nsIn K mainGlobals c = some (some (.ref C))) (cl : Cls K C) (n : PySem.W.findIn K (.ref C) fl = some none) : KF K mg c fl := ⟨fun D hD => by
  rw [PySem.W.mg_of X G aC] at hD
  cases hD
  exact ⟨cl, n⟩⟩
def noRef : Value → Bool
  | .ref _ => false
  | _ => true
theorem kinds_mro : (kinds.all fun k => (fastBuiltinMro k).any fun l => l.all noRef) = true := by decide +kernel
theorem kinds_sub {k : String} (hk : k ∈ kinds) (C : Addr) : PySem.W.subIn K (.type k) (.ref C) = some false := by
  have e := List.all_eq_true.mp kinds_mro k hk
  show (fastBuiltinMro k).map (·.contains (.ref C)) = some false
  cases q : fastBuiltinMro k with
  | none => rw [q] at e; cases e
  | some l =>
    rw [q] at e
    have e' : l.all noRef = true := e
    have : l.contains (Value.ref C) = false := by
      cases z : l.contains (Value.ref C) with
      | false => rfl
      | true =>
        rw [List.contains_iff_exists_mem_beq] at z
        obtain ⟨v, hv, bv⟩ := z
        have n := List.all_eq_true.mp e' v hv
        cases v <;> simp [noRef] at n <;> exact nomatch bv
    exact congrArg some this
theorem KIB.of {T : String} (X : K.In h) (G : h.Ns mainGlobals mg) (aC : PySem.W.nsIn K mainGlobals c = some (some (.ref C))) (ki : KI K C) (n : PySem.W.mroIn K C (.type T) = some false) (hT : PySem.W.kitMeta T = true) : KIB K mg c T := ⟨fun D hD => by
  rw [PySem.W.mg_of X G aC] at hD
  cases hD
  refine ⟨ki, ?_⟩
  unfold PySem.W.kitOne PySem.W.kitCls
  rw [if_neg (by intro z; exact nomatch z)]
  simp only [hT, if_true]
  exact n⟩
theorem KIO.of (X : K.In h) (G : h.Ns mainGlobals mg) (aC : PySem.W.nsIn K mainGlobals c = some (some (.ref C))) (ki : KI K C) (n : PySem.W.isClsIn K C = true) (t : PySem.W.typeIn K (.ref C) = some (.type "type")) : KIO K mg c :=
  ⟨C, PySem.W.mg_of X G aC, ki, fun k hk => by
    unfold PySem.W.kitOne PySem.W.kitCls
    rw [if_neg (by intro z; exact nomatch z)]
    have n' : (PySem.W.clsIn K C).isSome = true := n
    simp only [n', t, beq_self_eq_true, Bool.and_self, if_true]
    exact kinds_sub hk C⟩
theorem GK.int {i : Int} {t : Tok} (X : K.In h) (G : h.Ns mainGlobals mg) (a : PySem.W.nsIn K mainGlobals x = some (some (.int i t))) : GK K mg x (.int i) := ⟨.int i, _, PySem.W.mg_of X G a, ⟨t, rfl⟩, fun _ _ => .int⟩
theorem GK.str {i : Str} {t : Tok} (X : K.In h) (G : h.Ns mainGlobals mg) (a : PySem.W.nsIn K mainGlobals x = some (some (.str i t))) : GK K mg x (.str i) := ⟨.str i, _, PySem.W.mg_of X G a, ⟨t, rfl⟩, fun _ _ => .str⟩
theorem rpl_strs (mg : Str → Option Value) (I : Hp) (μ : List Addr) : ∀ ss : List Str, RpL K mg I μ (ss.map V.str) (ss.map D.str)
  | [] => .nil
  | _ :: ss => .cons .str (rpl_strs mg I μ ss)
theorem GK.tup {T : Addr} {o : Obj} {its : Array Value} {z : Nat} (ss : List Str) (X : K.In h) (G : h.Ns mainGlobals mg) (a : PySem.W.nsIn K mainGlobals x = some (some (.ref T))) (lT : K.lookup T = some o) (oc : o.cls = .type "tuple") (oT : o.data = .seq its z) (hz : its.size ≤ sizeLine) (r : Vals (ss.map V.str) its.toList) :
    GK K mg x (.tup (ss.map D.str)) := ⟨.ref T, _, PySem.W.mg_of X G a, rfl, fun I μ => .tup (.inr ⟨_, its, z, lT, oc, oT, hz, r⟩) (rpl_strs mg I μ ss)⟩
end
structure DL (K : PySem.W.Frag) (mg : Str → Option Value) (x : Str) (s : Stmt) (p : Str) : Prop where
  ex : ∃ (f : Addr) (fd : FuncData), C8.Def K mg x s f fd ∧ ∀ (s0 : Shared) (u : Value), BindsTo s0 fd ⟨[u], []⟩ [(p, u)]
theorem DL.of {K : PySem.W.Frag} {mg : Str → Option Value} {h : Heap} {x p : Str} {s : Stmt} {f : Addr} {oc kV dc pm cd ct : Value} {od an : Option Addr} {sl : Array (Option Value)} (X : K.In h) (G : h.Ns mainGlobals mg) (a : PySem.W.nsIn K mainGlobals x = some (some (.ref f)))
    (l : K.lookup f = some ⟨oc, od, .func (PySem.W.fnOf x x (C8.fnArgs s) (C8.fnBody s) (C8.fnScope s) .none kV dc pm an cd ct), sl⟩)
    (hc : PySem.W.codeIn K cd x = true) (hk : PySem.W.keepIn K (.ref f) = true) (b : Plain x x s [p]) : DL K mg x s p :=
  ⟨f, _, ⟨fun_of l hc, PySem.W.mg_of X G a, hk⟩, fun _ u => .of_eq (b kV dc pm an cd ct [u] rfl)⟩
def sp_law : FSp := fun ds S Q => ∃ ns : List Int, ds = [.scr ns] ∧ S = [] ∧ ∀ S', Q (.bl true) S'
end Sq
set_option maxHeartbeats 4000000
namespace Sq
open PySem L2
theorem so_inj {a b : String} : (Str.ofString a = Str.ofString b) = (a = b) := by
  apply propext
  constructor
  · intro h
    have h1 : (⟨(cpsOfBytes 0 0 a.toByteArray.data.toList).toArray⟩ : Str) = ⟨(cpsOfBytes 0 0 b.toByteArray.data.toList).toArray⟩ := h
    rw [cpsOfBytes_string, cpsOfBytes_string] at h1
    have h2 : a.toList.map Char.toNat = b.toList.map Char.toNat := by simpa using h1
    have h3 : a.toList = b.toList := by
      have inj : ∀ (l m : List Char), l.map Char.toNat = m.map Char.toNat → l = m := by
        intro l
        induction l with
        | nil => intro m h; cases m with
          | nil => rfl
          | cons c m => simp at h
        | cons c l ih => intro m h; cases m with
          | nil => simp at h
          | cons d m =>
            simp only [List.map_cons, List.cons.injEq] at h
            have hc : c = d := Char.ext (UInt32.toNat_inj.mp h.1)
            rw [hc, ih m h.2]
      exact inj _ _ h2
    exact String.toList_inj.mp h3
  · rintro rfl; rfl
theorem at0 {α : Type} (xs : List α) : atI xs 0 = xs[0]? := by
  cases xs with
  | nil => rfl
  | cons x r => exact atI_nat (j := 0) rfl
theorem atN {α : Type} (xs : List α) (k : Nat) : atI xs (k : Int) = xs[k]? := by
  by_cases h : k < xs.length
  · rw [List.getElem?_eq_getElem h]; exact atI_nat (List.getElem?_eq_getElem h)
  · rw [List.getElem?_eq_none (by omega)]
    unfold atI ixN
    rw [if_pos (by omega), if_neg (by omega)]; rfl
theorem at1 {α : Type} (xs : List α) : atI xs 1 = xs[1]? := atN xs 1
theorem at2 {α : Type} (xs : List α) : atI xs 2 = xs[2]? := atN xs 2
theorem at3 {α : Type} (xs : List α) : atI xs 3 = xs[3]? := atN xs 3
theorem gx0 {α : Type} (x : α) (r : List α) : (x :: r)[0]? = some x := rfl
theorem gx1 {α : Type} (x y : α) (r : List α) : (x :: y :: r)[1]? = some y := rfl
theorem gx2 {α : Type} (x y z : α) (r : List α) : (x :: y :: z :: r)[2]? = some z := rfl
theorem gx3 {α : Type} (x y z u : α) (r : List α) : (x :: y :: z :: u :: r)[3]? = some u := rfl
theorem nc0 : ((0 : Nat) : Int) = 0 := rfl
theorem nc1 : ((1 : Nat) : Int) = 1 := rfl
theorem nc2 : ((2 : Nat) : Int) = 2 := rfl
theorem nc3 : ((3 : Nat) : Int) = 3 := rfl
theorem nc4 : ((4 : Nat) : Int) = 4 := rfl
theorem nc6 : ((6 : Nat) : Int) = 6 := rfl
theorem so_beq {a b : String} : (Str.ofString a == Str.ofString b) = (a == b) := by
  rw [Bool.eq_iff_iff, beq_iff_eq, beq_iff_eq, so_inj]
section
variable {S : Sto} {i : Int} {b : Bool} {s : Str} {ds : List D} {k : List (Key × D)} {c : Str} {fs : List (Str × D)} {n : Nat} {ns : List Int}
theorem res_i : res S (.int i) = .int i := rfl
theorem res_b : res S (.bl b) = .bl b := rfl
theorem res_s : res S (.str s) = .str s := rfl
theorem res_n : res S .non = .non := rfl
theorem res_t : res S (.tup ds) = .tup ds := rfl
theorem res_l : res S (.lst ds) = .lst ds := rfl
theorem res_d : res S (.dct k) = .dct k := rfl
theorem res_c : res S (.ins c fs) = .ins c fs := rfl
theorem res_scr : res S (.scr ns) = .scr ns := rfl
theorem view_i : view S (.int i) = .int i := rfl
theorem view_b : view S (.bl b) = .bl b := rfl
theorem view_s : view S (.str s) = .str s := rfl
theorem view_n : view S .non = .non := rfl
theorem view_t : view S (.tup ds) = .tup ds := rfl
theorem view_l : view S (.lst ds) = .lst ds := rfl
theorem view_d : view S (.dct k) = .dct k := rfl
theorem view_c : view S (.ins c fs) = .ins c fs := rfl
theorem res_hb (h : S[n]? = some .bag) : res S (.h n) = .h n := by unfold res; simp only [h]
theorem res_hl (h : S[n]? = some (.lst ds)) : res S (.h n) = .h n := by unfold res; simp only [h]
theorem res_hd (h : S[n]? = some (.dct k)) : res S (.h n) = .h n := by unfold res; simp only [h]
theorem res_hi (h : S[n]? = some (.ins c fs)) : res S (.h n) = .h n := by unfold res; simp only [h]
theorem view_hl (h : S[n]? = some (.lst ds)) : view S (.h n) = .lst ds := by unfold view; simp only [h]
theorem view_hd (h : S[n]? = some (.dct k)) : view S (.h n) = .dct k := by unfold view; simp only [h]
end
theorem ix40 : ixN 4 0 = some 0 := rfl
theorem ix41 : ixN 4 1 = some 1 := rfl
theorem ix42 : ixN 4 2 = some 2 := rfl
theorem set40 {a b c d e : D} : [a, b, c, d].set 0 e = [e, b, c, d] := rfl
theorem set41 {a b c d e : D} : [a, b, c, d].set 1 e = [a, e, c, d] := rfl
theorem set42 {a b c d e : D} : [a, b, c, d].set 2 e = [a, b, e, d] := rfl
inductive Rt where
  | at (t q : Int) | or (a b : Rt) | and (a b : Rt)
def Rt.d : Rt → D
  | .at t q => .tup [.str "at", .int t, .int q]
  | .or a b => .tup [.str "or", a.d, b.d]
  | .and a b => .tup [.str "and", a.d, b.d]
def Rt.dep : Rt → Nat
  | .at _ _ => 1
  | .or a b => max a.dep b.dep + 1
  | .and a b => max a.dep b.dep + 1
def Rt.num : Rt → Nat
  | .at _ _ => 1
  | .or a b => a.num + b.num
  | .and a b => a.num + b.num
def Rt.ok : Rt → Prop
  | .at t q => 1 ≤ t ∧ 1 ≤ q ∧ q ≤ 6
  | .or a b => a.ok ∧ b.ok
  | .and a b => a.ok ∧ b.ok
def Rt.atoms : Rt → List D
  | .at t q => [(Rt.at t q).d]
  | .or a b => a.atoms ++ b.atoms
  | .and a b => a.atoms ++ b.atoms
theorem Rt.num_pos : ∀ r : Rt, 1 ≤ r.num
  | .at _ _ => Nat.le_refl _
  | .or a b => by have := a.num_pos; have := b.num_pos; simp only [Rt.num]; omega
  | .and a b => by have := a.num_pos; have := b.num_pos; simp only [Rt.num]; omega
theorem Rt.dep_num : ∀ r : Rt, r.dep ≤ r.num
  | .at _ _ => Nat.le_refl _
  | .or a b => by have := a.dep_num; have := b.dep_num; have := a.num_pos; have := b.num_pos; simp only [Rt.num, Rt.dep]; omega
  | .and a b => by have := a.dep_num; have := b.dep_num; have := a.num_pos; have := b.num_pos; simp only [Rt.num, Rt.dep]; omega
theorem Rt.dep_pos : ∀ r : Rt, 1 ≤ r.dep
  | .at _ _ => Nat.le_refl _
  | .or a b => by simp only [Rt.dep]; omega
  | .and a b => by simp only [Rt.dep]; omega
theorem Rt.atoms_len : ∀ r : Rt, r.atoms.length = r.num
  | .at _ _ => rfl
  | .or a b => by simp [Rt.atoms, Rt.num, a.atoms_len, b.atoms_len]
  | .and a b => by simp [Rt.atoms, Rt.num, a.atoms_len, b.atoms_len]
theorem Rt.view (S : Sto) (r : Rt) : Sq.view S r.d = r.d := by cases r <;> rfl
theorem Rt.res (S : Sto) (r : Rt) : Sq.res S r.d = r.d := by cases r <;> rfl
def given : Rt → Int → Int
  | .at t q, a => if t ≤ a then a - a % q else 0
  | .or x y, a => if given y a > given x a then given y a else given x a
  | .and x y, a => if given y a < given x a then given y a else given x a
def sp_given_n (n : Nat) : FSp := fun ds S Q => ∃ (r : Rt) (a : Int), ds = [r.d, .int a] ∧ r.ok ∧ r.dep ≤ n ∧ Q (.int (given r a)) S
def sp_given_of : FSp := sp_given_n 6
local macro_rules | `(tactic| walk_at "sq") => `(tactic| simp only [↓wSeq, ↓wAsg, ↓wVar, ↓wC, ↓wOp, ↓wTest, ↓wIfS, ↓wRet, ↓wRetN, ↓wIf, ↓wCall, ↓wCons, ↓wNil, ↓wName, ↓wGTup, ↓wGCons, ↓wGNil, ↓wPar, ↓wTup, ↓wLst, ↓wAnd, ↓wOr, ↓wNot, ↓wTru, ↓tru, ↓wAndV, ↓wOrV, ↓wNotV, ↓wSkip, ↓wDrop, ↓fAdd, ↓fSub, ↓fMod, ↓fMul, ↓fMulA, ↓fDiv, ↓fEq, ↓fEqB, ↓fNe, ↓fCmp, ↓fI, ↓fIsN, ↓fNotN, ↓isNon, ↓fLen, ↓lenS, ↓fAbs, ↓fMax, ↓fMax2, ↓fMin, ↓fMin2, ↓fInt, ↓fIx, ↓fIn, ↓scV, ↓scVs, ↓wB, ↓wIsB, ↓wIsO, ↓kindT, ↓kindIs, ↓wFld, ↓atts, ↓wMeth, ↓wCallO, ↓wProp, ↓wSetA, ↓putA, ↓wNever, ↓gt, ↓st, ↓res_i, ↓res_b, ↓res_s, ↓res_n, ↓res_t, ↓res_l, ↓res_d, ↓res_c, ↓res_scr, ↓view_i, ↓view_b, ↓view_s, ↓view_n, ↓view_t, ↓view_l, ↓view_d, ↓view_c, ↓Rt.res, ↓Rt.view, ↓onS_some, ↓onS_none, ↓ro, ↓List.map_cons, ↓List.map_nil, ↓List.length_cons, ↓List.length_nil, ↓List.cons_append, ↓List.nil_append, ↓List.replicate_succ, ↓List.replicate_zero, Nat.reduceAdd, Nat.reduceSub, ↓Nat.add_zero, ↓Nat.zero_add, ↓Nat.sub_self, ↓so_inj, ↓so_beq, ↓at0, ↓at1, ↓at2, ↓at3, ↓gx0, ↓gx1, ↓gx2, ↓gx3, ↓nc0, ↓nc1, ↓nc2, ↓nc3, ↓nc4, ↓nc6, String.reduceBEq, ↓ix40, ↓ix41, ↓ix42, ↓set40, ↓set41, ↓set42, ↓List.set_set, ↓Bool.true_or, ↓Bool.or_true, ↓Bool.false_or, ↓Bool.or_false, ↓Bool.and_true, ↓Bool.true_and, ↓Bool.and_false, ↓Bool.false_and, ↓inV, ↓eqV, ↓List.any_cons, ↓List.any_nil, Int.reduceLE, Int.reduceLT, String.reduceEq, ↓decide_true, ↓decide_false, ↓if_true, ↓if_false, ↓Bool.not_true, ↓Bool.not_false, reduceIte, ↓true_and, ↓and_true, ↓false_and, ↓and_false, ↓Bool.false_eq_true, ↓ite_true, ↓ite_false, reduceCtorEq])
local macro_rules | `(tactic| walk_at "sqh") => `(tactic| simp only [↓wSeq, ↓wAsg, ↓wVar, ↓wC, ↓wOp, ↓wTest, ↓wIfS, ↓wRet, ↓wRetN, ↓wIf, ↓wCall, ↓wCons, ↓wNil, ↓wName, ↓wGTup, ↓wGCons, ↓wGNil, ↓wPar, ↓wTup, ↓wLst, ↓wAnd, ↓wOr, ↓wNot, ↓wTru, ↓tru, ↓wAndV, ↓wOrV, ↓wNotV, ↓wSkip, ↓wDrop, ↓fAdd, ↓fSub, ↓fMod, ↓fMul, ↓fMulA, ↓fDiv, ↓fEq, ↓fEqB, ↓fNe, ↓fCmp, ↓fI, ↓fIsN, ↓fNotN, ↓isNon, ↓fLen, ↓lenS, ↓fAbs, ↓fMax, ↓fMax2, ↓fMin, ↓fMin2, ↓fInt, ↓fIx, ↓fIn, ↓scV, ↓scVs, ↓wB, ↓wIsB, ↓wIsO, ↓kindT, ↓kindIs, ↓wFld, ↓atts, ↓wMeth, ↓wCallO, ↓wProp, ↓wSetA, ↓putA, ↓wNever, ↓gt, ↓st, ↓res_i, ↓res_b, ↓res_s, ↓res_n, ↓res_t, ↓res_l, ↓res_d, ↓res_c, ↓res_scr, ↓view_i, ↓view_b, ↓view_s, ↓view_n, ↓view_t, ↓view_l, ↓view_d, ↓view_c, ↓Rt.res, ↓Rt.view, ↓onS_some, ↓onS_none, ↓ro, ↓List.map_cons, ↓List.map_nil, ↓List.length_cons, ↓List.length_nil, ↓List.cons_append, ↓List.nil_append, ↓List.replicate_succ, ↓List.replicate_zero, Nat.reduceAdd, Nat.reduceSub, ↓Nat.add_zero, ↓Nat.zero_add, ↓Nat.sub_self, ↓so_inj, ↓so_beq, ↓at0, ↓at1, ↓at2, ↓at3, ↓gx0, ↓gx1, ↓gx2, ↓gx3, ↓nc0, ↓nc1, ↓nc2, ↓nc3, ↓nc4, ↓nc6, String.reduceBEq, ↓ix40, ↓ix41, ↓ix42, ↓set40, ↓set41, ↓set42, ↓List.set_set, ↓Bool.true_or, ↓Bool.or_true, ↓Bool.false_or, ↓Bool.or_false, ↓Bool.and_true, ↓Bool.true_and, ↓Bool.and_false, ↓Bool.false_and, ↓inV, ↓eqV, ↓List.any_cons, ↓List.any_nil, Int.reduceLE, Int.reduceLT, String.reduceEq, ↓decide_true, ↓decide_false, ↓if_true, ↓if_false, ↓Bool.not_true, ↓Bool.not_false, reduceIte, ↓true_and, ↓and_true, ↓false_and, ↓and_false, ↓Bool.false_eq_true, ↓ite_true, ↓ite_false, reduceCtorEq, ↓gt_st, ↓st_length, Nat.reduceEqDiff, Nat.reduceLT, Int.reduceToNat, ↓List.length_map, ↓List.append_nil, *])
def w_given_of (sp_given_of : FSp) : WS :=
  (wSeq (wAsg (wVar 0) (wGTup 3 (wGCons (wName 2) (wGCons (wName 3) (wGCons (wName 4) wGNil))))) (wSeq (wIfS (wTest (wOp fEq (wVar 2) (wC (.str "at")))) (wRet (wIf (wTest (wOp (fCmp fun i j => decide (j ≤ i)) (wVar 1) (wVar 3))) (wOp fSub (wVar 1) (wOp fMod (wVar 1) (wVar 4))) (wC (.int 0)))) wSkip) (wSeq (wPar 5 6 (wCons (wCall 2 sp_given_of [] (wCons (wVar 3) (wCons (wVar 1) wNil))) (wCons (wCall 2 sp_given_of [] (wCons (wVar 4) (wCons (wVar 1) wNil))) wNil))) (wRet (wIf (wTest (wOp fEq (wVar 2) (wC (.str "or")))) (wB fMax (wCons (wVar 5) (wCons (wVar 6) wNil))) (wB fMin (wCons (wVar 5) (wCons (wVar 6) wNil))))))))
def n_given_of : List Str := ["tree", "amount", "word", "one", "other", "first", "second"]
theorem law_given_of (n : Nat) (ds : List D) (S : Sto) (Φ : D → Sto → Prop) (h : sp_given_n (n + 1) ds S Φ) : w_given_of (sp_given_n n) { nx := fun _ S' => Φ .non S', rt := Φ } (ro n_given_of ds) S := by
  obtain ⟨r, a, rfl, ok, hd, q⟩ := h
  cases r with
  | «at» t p =>
    unfold w_given_of n_given_of Rt.d
    walk_at "sq"
    obtain ⟨h1, h2, h3⟩ := ok
    unfold given at q
    by_cases z : t ≤ a
    · rw [if_pos z] at q
      simp only [z, decide_true, if_true]
      exact ⟨by omega, q⟩
    · rw [if_neg z] at q
      simp only [z, decide_false, Bool.false_eq_true, if_false]
      exact q
  | or x y =>
    unfold w_given_of n_given_of Rt.d
    walk_at "sq"
    simp only [Rt.dep] at hd
    refine ⟨x, a, rfl, ok.1, by omega, y, a, rfl, ok.2, by omega, ?_⟩
    walk_at "sq"
    simpa [given] using q
  | and x y =>
    unfold w_given_of n_given_of Rt.d
    walk_at "sq"
    simp only [Rt.dep] at hd
    refine ⟨x, a, rfl, ok.1, by omega, y, a, rfl, ok.2, by omega, ?_⟩
    walk_at "sq"
    simpa [given] using q
def plain : D → Prop
  | .h _ => False
  | .fn _ => False
  | .scr _ => False
  | .exc _ _ => False
  | .ins c _ => c = "Rule"
  | _ => True
def isI : D → Bool
  | .int _ => true
  | _ => false
def isN (l : Int) : D → Bool
  | .int i => decide (l ≤ i)
  | _ => false
def sp_is_integer : FSp := fun ds S Q => ∃ d, ds = [d] ∧ plain d ∧ Q (.bl (isI d)) S
def sp_is_number : FSp := fun ds S Q => ∃ l d, ds = [.int l, d] ∧ plain d ∧ Q (.bl (isN l d)) S
def sp_is_shape_n (n : Nat) : FSp := fun ds S Q => ∃ r : Rt, ds = [r.d] ∧ r.ok ∧ r.dep ≤ n ∧ Q (.bl true) S
def sp_is_shape : FSp := sp_is_shape_n 6
def w_is_integer : WS :=
  (wRet (wAndV (wIsB "int" "Rule" (wVar 0)) (wNotV (wIsB "bool" "Rule" (wVar 0)))))
def n_is_integer : List Str := ["thing"]
def w_is_number : WS :=
  (wRet (wAndV (wCall 1 sp_is_integer [] (wCons (wVar 1) wNil)) (wOp (fCmp fun i j => decide (j ≤ i)) (wVar 1) (wVar 0))))
def n_is_number : List Str := ["least", "thing"]
def w_is_shape (sp_is_shape : FSp) : WS :=
  (wSeq (wIfS (wOr (wNot (wTru (wIsB "tuple" "Rule" (wVar 0)))) (wOr (wTest (wOp fNe (wB fLen (wCons (wVar 0) wNil)) (wC (.int 3)))) (wNot (wTru (wIsB "str" "Rule" (wOp fIx (wVar 0) (wC (.int 0)))))))) (wRet (wC (.bl false))) wSkip) (wSeq (wIfS (wTest (wOp (fIn false) (wOp fIx (wVar 0) (wC (.int 0))) (wC (.tup [.str "or", .str "and"])))) (wRet (wAndV (wCall 1 sp_is_shape [] (wCons (wOp fIx (wVar 0) (wC (.int 1))) wNil)) (wCall 1 sp_is_shape [] (wCons (wOp fIx (wVar 0) (wC (.int 2))) wNil)))) wSkip) (wRet (wAndV (wOp fEq (wOp fIx (wVar 0) (wC (.int 0))) (wC (.str "at"))) (wAndV (wCall 2 sp_is_number [] (wCons (wC (.int 1)) (wCons (wOp fIx (wVar 0) (wC (.int 1))) wNil))) (wAndV (wCall 2 sp_is_number [] (wCons (wC (.int 1)) (wCons (wOp fIx (wVar 0) (wC (.int 2))) wNil))) (wOp (fCmp fun i j => decide (i ≤ j)) (wOp fIx (wVar 0) (wC (.int 2))) (wC (.int 6)))))))))
def n_is_shape : List Str := ["thing"]
theorem law_is_integer (ds : List D) (S : Sto) (Φ : D → Sto → Prop) (h : sp_is_integer ds S Φ) : w_is_integer { nx := fun _ S' => Φ .non S', rt := Φ } (ro n_is_integer ds) S := by
  obtain ⟨d, rfl, hp, q⟩ := h
  unfold w_is_integer n_is_integer
  cases d <;> simp only [plain] at hp <;> walk_at "sq" <;> first | exact q | simpa [isI, hp] using q
theorem law_is_number (ds : List D) (S : Sto) (Φ : D → Sto → Prop) (h : sp_is_number ds S Φ) : w_is_number { nx := fun _ S' => Φ .non S', rt := Φ } (ro n_is_number ds) S := by
  obtain ⟨l, d, rfl, hp, q⟩ := h
  unfold w_is_number n_is_number
  have hr : ∀ S : Sto, res S d = d := fun S => by cases d <;> simp only [plain] at hp <;> rfl
  simp only [wVar, wRet, wAndV, wOp, wCall, wCons, wNil, gt, ro, List.map_cons, List.map_nil, List.length_cons, List.length_nil, List.cons_append, List.nil_append, onS_some, hr, List.append_nil, true_and, Nat.reduceAdd]
  refine ⟨d, rfl, hp, ?_⟩
  cases d <;> simp only [plain] at hp <;> simp only [isI, Bool.false_eq_true, if_false, if_true] <;> first | exact q | (walk_at "sq"; exact q)
theorem law_is_shape (n : Nat) (ds : List D) (S : Sto) (Φ : D → Sto → Prop) (h : sp_is_shape_n (n + 1) ds S Φ) : w_is_shape (sp_is_shape_n n) { nx := fun _ S' => Φ .non S', rt := Φ } (ro n_is_shape ds) S := by
  obtain ⟨r, rfl, ok, hd, q⟩ := h
  cases r with
  | «at» t p =>
    unfold w_is_shape n_is_shape Rt.d
    walk_at "sq"
    obtain ⟨h1, h2, h3⟩ := ok
    refine ⟨1, _, rfl, trivial, ?_⟩
    simp only [isN, h1, decide_true, if_true]
    refine ⟨1, _, rfl, trivial, ?_⟩
    simp only [isN, h2, h3, decide_true, if_true]
    exact q
  | or x y =>
    unfold w_is_shape n_is_shape Rt.d
    walk_at "sq"
    simp only [Rt.dep] at hd
    exact ⟨x, rfl, ok.1, by omega, y, rfl, ok.2, by omega, q⟩
  | and x y =>
    unfold w_is_shape n_is_shape Rt.d
    walk_at "sq"
    simp only [Rt.dep] at hd
    exact ⟨x, rfl, ok.1, by omega, y, rfl, ok.2, by omega, q⟩
def sp_atoms_n (n : Nat) : FSp := fun ds S Q => ∃ r : Rt, ds = [r.d] ∧ r.num ≤ 100 ∧ r.dep ≤ n ∧ Q (.lst r.atoms) S
def sp_atoms_of : FSp := sp_atoms_n 6
def sp_is_tree : FSp := fun ds S Q => ∃ r : Rt, ds = [r.d] ∧ r.ok ∧ r.num ≤ 6 ∧ Q (.bl true) S
def w_atoms_of (sp_atoms_of : FSp) : WS :=
  (wRet (wIf (wTest (wOp fEq (wOp fIx (wVar 0) (wC (.int 0))) (wC (.str "at")))) (wLst (wCons (wVar 0) wNil)) (wOp fAdd (wCall 1 sp_atoms_of [] (wCons (wOp fIx (wVar 0) (wC (.int 1))) wNil)) (wCall 1 sp_atoms_of [] (wCons (wOp fIx (wVar 0) (wC (.int 2))) wNil)))))
def n_atoms_of : List Str := ["tree"]
def w_is_tree : WS :=
  (wRet (wAndV (wCall 1 sp_is_shape [] (wCons (wVar 0) wNil)) (wOp (fCmp fun i j => decide (i ≤ j)) (wB fLen (wCons (wCall 1 sp_atoms_of [] (wCons (wVar 0) wNil)) wNil)) (wC (.int 6)))))
def n_is_tree : List Str := ["thing"]
theorem law_atoms_of (n : Nat) (ds : List D) (S : Sto) (Φ : D → Sto → Prop) (h : sp_atoms_n (n + 1) ds S Φ) : w_atoms_of (sp_atoms_n n) { nx := fun _ S' => Φ .non S', rt := Φ } (ro n_atoms_of ds) S := by
  obtain ⟨r, rfl, hn, hd, q⟩ := h
  cases r with
  | «at» t p =>
    unfold w_atoms_of n_atoms_of
    simp only [Rt.d, Rt.atoms] at q ⊢
    walk_at "sq"
    exact ⟨by decide, q⟩
  | or x y =>
    unfold w_atoms_of n_atoms_of Rt.d
    walk_at "sq"
    simp only [Rt.dep, Rt.num] at hd hn
    refine ⟨x, rfl, by omega, by omega, y, rfl, by omega, by omega, ?_⟩
    walk_at "sq"
    refine ⟨?_, q⟩
    rw [x.atoms_len, y.atoms_len]; unfold LIM; omega
  | and x y =>
    unfold w_atoms_of n_atoms_of Rt.d
    walk_at "sq"
    simp only [Rt.dep, Rt.num] at hd hn
    refine ⟨x, rfl, by omega, by omega, y, rfl, by omega, by omega, ?_⟩
    walk_at "sq"
    refine ⟨?_, q⟩
    rw [x.atoms_len, y.atoms_len]; unfold LIM; omega
theorem law_is_tree (ds : List D) (S : Sto) (Φ : D → Sto → Prop) (h : sp_is_tree ds S Φ) : w_is_tree { nx := fun _ S' => Φ .non S', rt := Φ } (ro n_is_tree ds) S := by
  obtain ⟨r, rfl, ok, hn, q⟩ := h
  unfold w_is_tree n_is_tree
  walk_at "sq"
  have hd := r.dep_num
  refine ⟨r, rfl, ok, by omega, ?_⟩
  simp only [if_true]
  refine ⟨r, rfl, by omega, by omega, ?_⟩
  walk_at "sq"
  rw [r.atoms_len]
  have : decide ((r.num : Int) ≤ 6) = true := decide_eq_true (by omega)
  rw [this]
  exact q
def rule (r : Rt) : D := .ins "Rule" [("its_tree", r.d)]
theorem rule_res (S : Sto) (r : Rt) : res S (rule r) = rule r := rfl
def sp_Rule_init : FSp := fun ds S Q => ∃ (n : Nat) (r : Rt), ds = [.h n, r.d] ∧ S[n]? = some (.ins "Rule" []) ∧ r.ok ∧ r.num ≤ 6 ∧ Q .non (S.set n (.ins "Rule" [("its_tree", r.d)]))
def sp_Rule_call : FSp := fun ds S Q => ∃ (r : Rt) (a : Int), ds = [rule r, .int a] ∧ r.ok ∧ r.num ≤ 6 ∧ Q (.int (given r a)) S
def lowS (S : Sto) : Prop := ∀ (k : Nat) (m : M), k < S.length → S[k]? = some m → lowM S.length m
theorem low_tree (n : Nat) : ∀ r : Rt, low n r.d
  | .at _ _ => by simp [Rt.d, low, lows]
  | .or a b => by simp [Rt.d, low, lows, low_tree n a, low_tree n b]
  | .and a b => by simp [Rt.d, low, lows, low_tree n a, low_tree n b]
theorem low_rule (n : Nat) (r : Rt) : low n (rule r) := by simp [rule, low, lowf, low_tree]
def w_Rule_init : WS :=
  (wSeq (wIfS (wNot (wTru (wCall 1 sp_is_tree [] (wCons (wVar 1) wNil)))) wNever wSkip) (wSetA "Rule" "its_tree" (wVar 1) (wVar 0)))
def n_Rule_init : List Str := ["self", "tree"]
def w_Rule_call : WS :=
  (wRet (wCall 2 sp_given_of [] (wCons (wFld "Rule" "its_tree" (wVar 0)) (wCons (wVar 1) wNil))))
def n_Rule_call : List Str := ["self", "amount"]
theorem law_Rule_init (ds : List D) (S : Sto) (Φ : D → Sto → Prop) (h : sp_Rule_init ds S Φ) : w_Rule_init { nx := fun _ S' => Φ .non S', rt := Φ } (ro n_Rule_init ds) S := by
  obtain ⟨n, r, rfl, hS, ok, hn, q⟩ := h
  unfold w_Rule_init n_Rule_init
  walk_at "sq"
  refine ⟨r, rfl, ok, hn, ?_⟩
  walk_at "sq"
  rw [res_hi hS]
  simp only [hS, onS_some, List.length_nil]
  exact ⟨trivial, by decide, q⟩
theorem law_Rule_call (ds : List D) (S : Sto) (Φ : D → Sto → Prop) (h : sp_Rule_call ds S Φ) : w_Rule_call { nx := fun _ S' => Φ .non S', rt := Φ } (ro n_Rule_call ds) S := by
  obtain ⟨r, a, rfl, ok, hn, q⟩ := h
  have hd := r.dep_num
  unfold w_Rule_call n_Rule_call rule
  walk_at "sq"
  exact ⟨r, a, rfl, ok, by omega, q⟩
end Sq
set_option maxHeartbeats 4000000
namespace Sq
open PySem L2
def sp_q_take : FSp := fun ds S Q => ∃ (k : Nat) (n : Int), ds = [.h k, .int n] ∧ S[k]? = some .bag ∧ 0 < n ∧ n ≤ 10 ^ 60 ∧ ∀ v : Int, 0 ≤ v → v < n → Q (.int v) S
def sp_q_bag : FSp := fun ds S Q => ∃ ns : List Int, ds = [.scr ns] ∧ Q (.h S.length) (S ++ [.bag])
local macro_rules | `(tactic| walk_at "sq") => `(tactic| simp only [↓wSeq, ↓wAsg, ↓wVar, ↓wC, ↓wOp, ↓wTest, ↓wIfS, ↓wRet, ↓wRetN, ↓wIf, ↓wCall, ↓wCons, ↓wNil, ↓wName, ↓wGTup, ↓wGCons, ↓wGNil, ↓wPar, ↓wTup, ↓wLst, ↓wAnd, ↓wOr, ↓wNot, ↓wTru, ↓tru, ↓wAndV, ↓wOrV, ↓wNotV, ↓wSkip, ↓wDrop, ↓fAdd, ↓fSub, ↓fMod, ↓fMul, ↓fMulA, ↓fDiv, ↓fEq, ↓fEqB, ↓fNe, ↓fCmp, ↓fI, ↓fIsN, ↓fNotN, ↓isNon, ↓fLen, ↓lenS, ↓fAbs, ↓fMax, ↓fMax2, ↓fMin, ↓fMin2, ↓fInt, ↓fIx, ↓fIn, ↓scV, ↓scVs, ↓wB, ↓wIsB, ↓wIsO, ↓kindT, ↓kindIs, ↓wFld, ↓atts, ↓wMeth, ↓wCallO, ↓wProp, ↓wSetA, ↓putA, ↓wNever, ↓gt, ↓st, ↓res_i, ↓res_b, ↓res_s, ↓res_n, ↓res_t, ↓res_l, ↓res_d, ↓res_c, ↓res_scr, ↓view_i, ↓view_b, ↓view_s, ↓view_n, ↓view_t, ↓view_l, ↓view_d, ↓view_c, ↓Rt.res, ↓Rt.view, ↓onS_some, ↓onS_none, ↓ro, ↓List.map_cons, ↓List.map_nil, ↓List.length_cons, ↓List.length_nil, ↓List.cons_append, ↓List.nil_append, ↓List.replicate_succ, ↓List.replicate_zero, Nat.reduceAdd, Nat.reduceSub, ↓Nat.add_zero, ↓Nat.zero_add, ↓Nat.sub_self, ↓so_inj, ↓so_beq, ↓at0, ↓at1, ↓at2, ↓at3, ↓gx0, ↓gx1, ↓gx2, ↓gx3, ↓nc0, ↓nc1, ↓nc2, ↓nc3, ↓nc4, ↓nc6, String.reduceBEq, ↓ix40, ↓ix41, ↓ix42, ↓set40, ↓set41, ↓set42, ↓List.set_set, ↓Bool.true_or, ↓Bool.or_true, ↓Bool.false_or, ↓Bool.or_false, ↓Bool.and_true, ↓Bool.true_and, ↓Bool.and_false, ↓Bool.false_and, ↓inV, ↓eqV, ↓List.any_cons, ↓List.any_nil, Int.reduceLE, Int.reduceLT, String.reduceEq, ↓decide_true, ↓decide_false, ↓if_true, ↓if_false, ↓Bool.not_true, ↓Bool.not_false, reduceIte, ↓true_and, ↓and_true, ↓false_and, ↓and_false, ↓Bool.false_eq_true, ↓ite_true, ↓ite_false, reduceCtorEq])
local macro_rules | `(tactic| walk_at "sqh") => `(tactic| simp only [↓wSeq, ↓wAsg, ↓wVar, ↓wC, ↓wOp, ↓wTest, ↓wIfS, ↓wRet, ↓wRetN, ↓wIf, ↓wCall, ↓wCons, ↓wNil, ↓wName, ↓wGTup, ↓wGCons, ↓wGNil, ↓wPar, ↓wTup, ↓wLst, ↓wAnd, ↓wOr, ↓wNot, ↓wTru, ↓tru, ↓wAndV, ↓wOrV, ↓wNotV, ↓wSkip, ↓wDrop, ↓fAdd, ↓fSub, ↓fMod, ↓fMul, ↓fMulA, ↓fDiv, ↓fEq, ↓fEqB, ↓fNe, ↓fCmp, ↓fI, ↓fIsN, ↓fNotN, ↓isNon, ↓fLen, ↓lenS, ↓fAbs, ↓fMax, ↓fMax2, ↓fMin, ↓fMin2, ↓fInt, ↓fIx, ↓fIn, ↓scV, ↓scVs, ↓wB, ↓wIsB, ↓wIsO, ↓kindT, ↓kindIs, ↓wFld, ↓atts, ↓wMeth, ↓wCallO, ↓wProp, ↓wSetA, ↓putA, ↓wNever, ↓gt, ↓st, ↓res_i, ↓res_b, ↓res_s, ↓res_n, ↓res_t, ↓res_l, ↓res_d, ↓res_c, ↓res_scr, ↓view_i, ↓view_b, ↓view_s, ↓view_n, ↓view_t, ↓view_l, ↓view_d, ↓view_c, ↓Rt.res, ↓Rt.view, ↓onS_some, ↓onS_none, ↓ro, ↓List.map_cons, ↓List.map_nil, ↓List.length_cons, ↓List.length_nil, ↓List.cons_append, ↓List.nil_append, ↓List.replicate_succ, ↓List.replicate_zero, Nat.reduceAdd, Nat.reduceSub, ↓Nat.add_zero, ↓Nat.zero_add, ↓Nat.sub_self, ↓so_inj, ↓so_beq, ↓at0, ↓at1, ↓at2, ↓at3, ↓gx0, ↓gx1, ↓gx2, ↓gx3, ↓nc0, ↓nc1, ↓nc2, ↓nc3, ↓nc4, ↓nc6, String.reduceBEq, ↓ix40, ↓ix41, ↓ix42, ↓set40, ↓set41, ↓set42, ↓List.set_set, ↓Bool.true_or, ↓Bool.or_true, ↓Bool.false_or, ↓Bool.or_false, ↓Bool.and_true, ↓Bool.true_and, ↓Bool.and_false, ↓Bool.false_and, ↓inV, ↓eqV, ↓List.any_cons, ↓List.any_nil, Int.reduceLE, Int.reduceLT, String.reduceEq, ↓decide_true, ↓decide_false, ↓if_true, ↓if_false, ↓Bool.not_true, ↓Bool.not_false, reduceIte, ↓true_and, ↓and_true, ↓false_and, ↓and_false, ↓Bool.false_eq_true, ↓ite_true, ↓ite_false, reduceCtorEq, ↓gt_st, ↓st_length, Nat.reduceEqDiff, Nat.reduceLT, Int.reduceToNat, ↓List.length_map, ↓List.append_nil, *])
def w_q_bag_elt1 : WE :=
  (wB fAbs (wCons (wVar 1) wNil))
def w_q_bag : WS :=
  (wRet (wLstM (wCons (wC (.int 0)) (wCons (wC (.int 1234567891)) (wCons (wC (.int 0)) (wCons (wLc (wItL (wSl (wVar 0) wNoPart (wPart (wC (.int 63))))) (wName 1) wYes (w_q_bag_elt1) [1]) wNil))))))
def n_q_bag : List Str := ["_law_script", "_law_cell"]
def w_q_take_p1 : WS :=
  (wAsg (wC (.int 0)) (wName 2))
def w_q_take_p2 : WS :=
  (wIfS (wTest (wOp (fCmp fun i j => decide (i < j)) (wOp fIx (wVar 0) (wC (.int 2))) (wB fLen (wCons (wOp fIx (wVar 0) (wC (.int 3))) wNil)))) (wAsg (wOp fIx (wOp fIx (wVar 0) (wC (.int 3))) (wOp fIx (wVar 0) (wC (.int 2)))) (wName 2)) wSkip)
def w_q_take_p3 : WS :=
  (wAugL (fun i j => i + j) (wVar 0) (wC (.int 2)) (wC (.int 1)))
def w_q_take_p4 : WS :=
  (wIfS (wTest (wOp (fCmp fun i j => decide (j ≤ i)) (wVar 2) (wC (.int 1000000000000000000)))) (wAsg (wVar 2) (wSubL (wVar 0) (wC (.int 0)))) wSkip)
def w_q_take_p5 : WS :=
  (wAsg (wOp fAdd (wOp fAdd (wOp fMulA (wOp fIx (wVar 0) (wC (.int 1))) (wC (.int 48271))) (wOp fMod (wB fInt (wCons (wVar 2) wNil)) (wC (.int 2147483647)))) (wOp fMulA (wC (.int 7919)) (wOp fIx (wVar 0) (wC (.int 2))))) (wName 3))
def w_q_take_p6 : WS :=
  (wAsg (wOp fMod (wB fInt (wCons (wVar 3) wNil)) (wC (.int 2147483647))) (wSubL (wVar 0) (wC (.int 1))))
def w_q_take_p7 : WS :=
  (wAsg (wOp fMod (wB fInt (wCons (wOp fIx (wVar 0) (wC (.int 0))) wNil)) (wVar 1)) (wName 4))
def w_q_take_p8 : WS :=
  (wAsg (wOp fDiv (wOp fIx (wVar 0) (wC (.int 0))) (wVar 1)) (wSubL (wVar 0) (wC (.int 0))))
def w_q_take_p9 : WS :=
  (wRet (wVar 4))
def w_q_take_0 : WS :=
  (wIfS (wTest (wOp fEq (wOp fIx (wVar 0) (wC (.int 0))) (wC (.int 0)))) (wSeq (w_q_take_p1) (wSeq (w_q_take_p2) (wSeq (w_q_take_p3) (wSeq (w_q_take_p4) (wSeq (w_q_take_p5) (w_q_take_p6)))))) wSkip)
def w_q_take_1 : WS :=
  (wIfS (wTest (wOp (fCmp fun i j => decide (j < i)) (wOp fIx (wVar 0) (wC (.int 0))) (wC (.int 0)))) (wSeq (w_q_take_p7) (wSeq (w_q_take_p8) (w_q_take_p9))) wSkip)
def w_q_take_2 : WS :=
  (wAsg (wOp fMod (wB fInt (wCons (wOp fMulA (wOp fAdd (wOp fIx (wVar 0) (wC (.int 1))) (wC (.int 1))) (wC (.int 39373))) wNil)) (wC (.int 1000000007))) (wName 5))
def w_q_take_3 : WS :=
  (wAsg (wOp fMod (wB fInt (wCons (wOp fMulA (wOp fMod (wB fInt (wCons (wOp fMulA (wVar 5) (wVar 5)) wNil)) (wC (.int 998244353))) (wC (.int 30011))) wNil)) (wC (.int 998244353))) (wName 6))
def w_q_take_4 : WS :=
  (wIfS (wTest (wOp (fCmp fun i j => decide (j < i)) (wVar 1) (wC (.int 1000000)))) (wRet (wOp fMod (wB fInt (wCons (wOp fAdd (wOp fMulA (wVar 6) (wC (.int 1000000007))) (wVar 5)) wNil)) (wVar 1))) wSkip)
def w_q_take_5 : WS :=
  (wRet (wOp fMod (wB fInt (wCons (wOp fDiv (wVar 6) (wC (.int 7))) wNil)) (wVar 1)))
def w_q_take : WS :=
  (wSeq (w_q_take_0) (wSeq (w_q_take_1) (wSeq (w_q_take_2) (wSeq (w_q_take_3) (wSeq (w_q_take_4) (w_q_take_5))))))
def n_q_take : List Str := ["_law_bag_here", "_law_many", "_law_cell", "_law_mixed", "_law_value", "_law_begin", "_law_second"]
section
variable {k : Nat} {S : Sto} {x y z : Int} {cs : List Int}
theorem log2_small {i : Int} {b : Nat} (h : i.natAbs < 2 ^ b) (hb : 0 < b) : i.natAbs.log2 < b := by
  exact PySem.Flt.log2_lt_of hb h
theorem mulW {i j : Int} (h : i.natAbs < 2 ^ 400) (h' : j.natAbs < 2 ^ 400) : IntMulOk i j := (wide_mul h h' (by decide) (by decide) (by decide)).ok
theorem mulL {i j : Int} (h : Builtin.Int.intBits i ≤ 64) : IntMulOk i j := .of_left h
theorem divW {i j : Int} (h : 0 < j) (h' : j.natAbs < 2 ^ 400) : CDivW i j := wide_div h h' (by decide) (by decide)
theorem sm {i : Int} (h : -(10 ^ 100) ≤ i) (h' : i ≤ 10 ^ 100) : i.natAbs < 2 ^ 400 := by
  have : (10 : Nat) ^ 100 < 2 ^ 400 := by decide
  have h1 : i.natAbs ≤ 10 ^ 100 := by omega
  exact Nat.lt_of_le_of_lt h1 this
end
theorem take_p4 {k : Nat} {n c y z : Int} {cs : List Int} {S : Sto} {κ : WK} (hk : k < S.length) (hc : 0 ≤ c)
    (q : ∀ x, 0 ≤ x → κ.nx [some (.h k), some (.int n), some (.int c), none, none, none, none] (S.set k (.lst [.int x, .int y, .int z, .lst (cs.map D.int)]))) :
    w_q_take_p4 κ [some (.h k), some (.int n), some (.int c), none, none, none, none] (S.set k (.lst [.int 0, .int y, .int z, .lst (cs.map D.int)])) := by
  have gs : ∀ m : M, (S.set k m)[k]? = some m := fun m => List.getElem?_set_self hk
  have r0 : ∀ L : List D, res (S.set k (.lst L)) (.h k) = .h k := fun L => res_hl (gs _)
  have v0 : ∀ L : List D, view (S.set k (.lst L)) (.h k) = .lst L := fun L => view_hl (gs _)
  have q0 := q 0 (by decide)
  have qc := q c hc
  clear q
  unfold w_q_take_p4 wSubL
  generalize (1000000000000000000 : Int) = N
  by_cases h18 : N ≤ c
  · walk_at "sqh"
  · walk_at "sqh"
theorem law_q_take (ds : List D) (S : Sto) (Φ : D → Sto → Prop) (h : sp_q_take ds S Φ) : ∃ n, S[n]? = some .bag ∧ ∀ (x y z : Int) (cs : List Int), BagOk x y z cs →
      w_q_take { nx := fun _ _ => False, rt := fun r S' => ∃ x' y' z', BagOk x' y' z' cs ∧ S' = S.set n (bagL x' y' z' cs) ∧ Φ r S } (ro n_q_take ds) (S.set n (bagL x y z cs)) := by
  obtain ⟨k, n, rfl, hS, h0, hn, hq⟩ := h
  refine ⟨k, hS, fun x y z cs b => ?_⟩
  have hk : k < S.length := (List.getElem?_eq_some_iff.mp hS).1
  -- behind the first part
  have tail : ∀ (x y z : Int) (ρ : Ro), BagOk x y z cs → gt ρ 0 = some (.h k) → gt ρ 1 = some (.int n) → ρ.length = 7 →
      (wSeq w_q_take_1 (wSeq w_q_take_2 (wSeq w_q_take_3 (wSeq w_q_take_4 w_q_take_5)))) { nx := fun _ _ => False, rt := fun r S' => ∃ x' y' z', BagOk x' y' z' cs ∧ S' = S.set k (bagL x' y' z' cs) ∧ Φ r S } ρ (S.set k (bagL x y z cs)) := by
    intro x y z ρ b g0 g1 gl
    have gs : ∀ m : M, (S.set k m)[k]? = some m := fun m => List.getElem?_set_self hk
    have r0 : ∀ L : List D, res (S.set k (.lst L)) (.h k) = .h k := fun L => res_hl (gs _)
    have v0 : ∀ L : List D, view (S.set k (.lst L)) (.h k) = .lst L := fun L => view_hl (gs _)
    unfold bagL
    unfold w_q_take_1 w_q_take_p7 w_q_take_p8 w_q_take_p9 w_q_take_2 w_q_take_3 w_q_take_4 w_q_take_5 wSubL
    walk_at "sqh"
    obtain ⟨bl, bx, by0, by1, bz, bp⟩ := b
    by_cases hx : 0 < x
    · rw [if_pos (decide_eq_true hx)]
      refine ⟨divW h0 (sm (by omega) (by omega)), x / n, y, z, ⟨bl, Int.ediv_nonneg bx (by omega), by0, by1, bz, bp⟩, rfl, hq _ (Int.emod_nonneg _ (by omega)) (Int.emod_lt_of_pos _ h0)⟩
    · rw [if_neg (by rw [decide_eq_true_eq]; exact hx)]
      have m1 := Int.emod_nonneg ((y + 1) * 39373) (show (1000000007 : Int) ≠ 0 by decide)
      have m2 := Int.emod_lt_of_pos ((y + 1) * 39373) (show (0 : Int) < 1000000007 by decide)
      generalize (y + 1) * 39373 % 1000000007 = u at m1 m2
      have m3 := Int.emod_nonneg (u * u) (show (998244353 : Int) ≠ 0 by decide)
      have m4 := Int.emod_lt_of_pos (u * u) (show (0 : Int) < 998244353 by decide)
      generalize u * u % 998244353 = p at m3 m4
      have m5 := Int.emod_nonneg (p * 30011) (show (998244353 : Int) ≠ 0 by decide)
      have m6 := Int.emod_lt_of_pos (p * 30011) (show (0 : Int) < 998244353 by decide)
      generalize p * 30011 % 998244353 = r at m5 m6
      refine ⟨mulW (sm (by omega) (by omega)) (sm (by omega) (by omega)), mulW (sm (by omega) (by omega)) (sm (by omega) (by omega)), mulW (sm (by omega) (by omega)) (sm (by omega) (by omega)), ?_⟩
      have fin : ∀ v : Int, ∃ x' y' z', BagOk x' y' z' cs ∧ List.set S k (bagL x y z cs) = List.set S k (bagL x' y' z' cs) ∧ Φ (.int (v % n)) S := fun v =>
        ⟨x, y, z, ⟨bl, bx, by0, by1, bz, bp⟩, rfl, hq _ (Int.emod_nonneg _ (by omega)) (Int.emod_lt_of_pos _ h0)⟩
      split
      · exact ⟨mulW (sm (by omega) (by omega)) (sm (by omega) (by omega)), fin _⟩
      · exact ⟨divW (by decide) (sm (by omega) (by omega)), fin _⟩
  -- the first part
  have gs : ∀ m : M, (S.set k m)[k]? = some m := fun m => List.getElem?_set_self hk
  have r0 : ∀ L : List D, res (S.set k (.lst L)) (.h k) = .h k := fun L => res_hl (gs _)
  have v0 : ∀ L : List D, view (S.set k (.lst L)) (.h k) = .lst L := fun L => view_hl (gs _)
  unfold w_q_take
  rw [wSeq]
  generalize ht : (wSeq w_q_take_1 (wSeq w_q_take_2 (wSeq w_q_take_3 (wSeq w_q_take_4 w_q_take_5)))) = rest at tail
  generalize hR : (fun (r : D) (S' : Sto) => ∃ x' y' z', BagOk x' y' z' cs ∧ S' = S.set k (bagL x' y' z' cs) ∧ Φ r S) = R at tail ⊢
  unfold w_q_take_0 n_q_take
  unfold bagL at tail ⊢
  by_cases hx : x = 0
  · subst hx
    obtain ⟨bl, bx, by0, by1, bz, bp⟩ := b
    have b5 : ∀ (c x : Int), 0 ≤ x → w_q_take_p5 { nx := fun ρ S' => w_q_take_p6 { nx := fun ρ S' => rest { nx := fun _ _ => False, rt := R } ρ S', rt := R } ρ S', rt := R } [some (.h k), some (.int n), some (.int c), none, none, none, none] (S.set k (.lst [.int x, .int y, .int (z + 1), .lst (cs.map D.int)])) := by
      intro c x hx
      unfold w_q_take_p5
      walk_at "sqh"
      unfold w_q_take_p6 wSubL
      walk_at "sqh"
      refine ⟨mulW (sm (by omega) (by omega)) (sm (by omega) (by omega)), mulL (by decide), ?_⟩
      exact tail _ _ _ _ ⟨bl, hx, Int.emod_nonneg _ (by decide), Int.emod_lt_of_pos _ (by decide), by omega, bp⟩ rfl rfl rfl
    -- behind the cell
    have behind : ∀ c : Int, 0 ≤ c → w_q_take_p3 { nx := fun ρ S' => w_q_take_p4 { nx := fun ρ S' => w_q_take_p5 { nx := fun ρ S' => w_q_take_p6 { nx := fun ρ S' => rest { nx := fun _ _ => False, rt := R } ρ S', rt := R } ρ S', rt := R } ρ S', rt := R } ρ S', rt := R } [some (.h k), some (.int n), some (.int c), none, none, none, none] (S.set k (.lst [.int 0, .int y, .int z, .lst (cs.map D.int)])) := by
      intro c hc
      unfold w_q_take_p3 wAugL
      walk_at "sqh"
      exact take_p4 hk hc fun x hx => b5 c x hx
    walk_at "sqh"
    unfold w_q_take_p1
    walk_at "sqh"
    unfold w_q_take_p2
    by_cases hz : z < cs.length
    · have hc : atI (cs.map D.int) z = some (.int (cs[z.toNat]'(by omega))) := by
        obtain ⟨m, rfl⟩ := Int.eq_ofNat_of_zero_le bz
        rw [atN]
        have : m < cs.length := by omega
        simp [this]
      walk_at "sqh"
      exact behind _ (bp _ (List.getElem_mem _))
    · walk_at "sqh"
      exact behind 0 (by decide)
  · walk_at "sqh"
    exact tail _ _ _ _ b rfl rfl rfl
theorem take_bag_elt {ρ : Ro} {S : Sto} {Q : D → Sto → Prop} {c : Int} (g : gt ρ 1 = some (.int c)) (q : Q (.int (if c < 0 then -c else c)) S) : w_q_bag_elt1 ρ S Q := by
  unfold w_q_bag_elt1
  walk_at "sqh"
theorem cut_len (ns : List Int) : (cutD ns none (some 63)).length ≤ 63 := by
  unfold cutD
  have h : HT.sIx ns.length ns.length (some 63) ≤ 63 := by
    show (if (63 : Int) < 0 then ((63 : Int) + (ns.length : Int)).toNat else min (63 : Int).toNat ns.length) ≤ 63
    rw [if_neg (by decide)]
    exact Nat.min_le_left _ _
  rw [List.length_take]
  omega
theorem compD_y {i : Nat} {we : WE} {ρ : Ro} {Q : List D → Sto → Prop} {d : D} {ds acc : List D} {S : Sto} (h : we (st ρ i (some d)) S fun y S3 => acc.length < LIM ∧ compD (wName i) wYes we ρ Q ds (acc ++ [y]) S3) :
    compD (wName i) wYes we ρ Q (d :: ds) acc S := by
  unfold compD
  unfold wName at h ⊢
  unfold wYes at h ⊢
  simp only [if_true]
  exact h
theorem bag_comp {ρ : Ro} {S : Sto} {Q : List D → Sto → Prop} (hρ : ρ.length = 2) : ∀ (ns cs : List Int), cs.length + ns.length ≤ 63 → (∀ c, c ∈ cs → 0 ≤ c) →
    (∀ cs : List Int, cs.length ≤ 63 → (∀ c, c ∈ cs → 0 ≤ c) → Q (cs.map D.int) S) → compD (wName 1) wYes w_q_bag_elt1 ρ Q (ns.map D.int) (cs.map D.int) S
  | [], cs, hl, hp, q => by
    unfold compD
    exact q cs (by simpa using hl) hp
  | n :: ns, cs, hl, hp, q => by
    rw [List.map_cons]
    refine compD_y ?_
    refine take_bag_elt (c := n) (by rw [gt_st, if_pos ⟨rfl, by omega⟩]) ?_
    rw [List.length_cons] at hl
    refine ⟨by rw [List.length_map]; unfold LIM; omega, ?_⟩
    have e : cs.map D.int ++ [D.int (if n < 0 then -n else n)] = (cs ++ [if n < 0 then -n else n]).map D.int := by simp
    rw [e]
    refine bag_comp hρ ns _ (by rw [List.length_append, List.length_singleton]; omega) (fun c hc => ?_) q
    rw [List.mem_append, List.mem_singleton] at hc
    rcases hc with h | h
    · exact hp c h
    · rw [h]; split <;> omega
theorem law_q_bag (ds : List D) (S : Sto) (Φ : D → Sto → Prop) (h : sp_q_bag ds S Φ) :
    w_q_bag { nx := fun _ _ => False, rt := fun r S' => ∃ x y z cs, BagOk x y z cs ∧ r = .h S.length ∧ S' = S ++ [bagL x y z cs] ∧ Φ r (S ++ [.bag]) } (ro n_q_bag ds) S := by
  obtain ⟨ns, rfl, q⟩ := h
  unfold w_q_bag n_q_bag
  simp only [wRet, wLstM, wCons, wC, wNil, wLc, wItL, wSl, wVar, wNoPart, wPart, ro, List.map_cons, List.map_nil, List.length_cons, List.length_nil, List.cons_append, List.nil_append, gt, onS_some, at0, at1, res_scr, fSl]
  refine bag_comp (ρ := _) (by rw [wp_length]; rfl) _ [] (by simpa using cut_len ns) (by simp) fun cs hl hp => ?_
  refine ⟨by decide, ?_⟩
  exact ⟨0, 1234567891, 0, cs, ⟨hl, by decide, by decide, by decide, by decide, hp⟩, rfl, rfl, q⟩
end Sq
set_option maxHeartbeats 4000000
namespace Sq
open PySem L2
mutual
def sml : D → Prop
  | .int i => i.natAbs.log2 < 1920
  | .str s => PyData.strOk s = true
  | .non => True
  | .bl _ => True
  | .tup ds => smls ds
  | .lst ds => smls ds
  | _ => False
def smls : List D → Prop
  | [] => True
  | d :: ds => sml d ∧ smls ds
end
mutual
def wgt : D → Nat
  | .int i => if i == 0 then 0 else i.natAbs.log2 + 1
  | .str s => s.cps.size
  | .tup ds => wgts ds
  | .lst ds => wgts ds
  | _ => 0
def wgts : List D → Nat
  | [] => 0
  | d :: ds => wgt d + 1 + wgts ds
end
mutual
def dpt : D → Nat
  | .tup ds => dpts ds + 1
  | .lst ds => dpts ds + 1
  | _ => 0
def dpts : List D → Nat
  | [] => 0
  | d :: ds => max (dpt d) (dpts ds)
end
structure Shw (d : D) (p : PyData) : Prop where
  py : py d = some p
  sh : p.showable = true
  le : p.leavesShort 1921 = true
  hd : p.hasDict = false
  cl : p.canLay0 = true
  wt : p.weight = wgt d
  dp : p.depth = dpt d
structure Shws (ds : List D) (ps : List PyData) : Prop where
  py : pys ds = some ps
  sh : PyData.showableAll ps = true
  le : PyData.leavesShortAll 1921 ps = true
  hd : PyData.hasDictAll ps = false
  cl : PyData.canLayAll0 ps = true
  wt : PyData.weightAll ps = wgts ds
  dp : PyData.depthAll ps = dpts ds
mutual
theorem sml_shw : ∀ d : D, sml d → ∃ p, Shw d p
  | .non, _ => ⟨.none, rfl, rfl, rfl, rfl, rfl, rfl, rfl⟩
  | .bl b, _ => ⟨.bool b, rfl, rfl, rfl, rfl, rfl, rfl, rfl⟩
  | .int i, h => by
    have h' : i.natAbs.log2 < 1920 := by simpa only [sml] using h
    refine ⟨.int i, rfl, by simpa [PyData.showable] using h', ?_, rfl, rfl, rfl, rfl⟩
    have z : (Str.ofString (toString i)).length ≤ 1921 := by rw [PySem.ofString_length]; exact PySem.int_text_length_le (k := 1920) (by decide) h'
    exact decide_eq_true z
  | .str s, h => by
    have h' : PyData.strOk s = true := by simpa only [sml] using h
    refine ⟨.str s, rfl, rfl, ?_, rfl, h', rfl, rfl⟩
    unfold PyData.strOk at h'
    rw [← Array.all_toList, List.all_eq_true] at h'
    simp only [PyData.leavesShort, List.all_eq_true, decide_eq_true_eq]
    intro c hc
    have := of_decide_eq_true (h' c hc)
    omega
  | .tup ds, h => by
    obtain ⟨ps, a, b, c, d, e, f, g⟩ := smls_shw ds (by simpa only [sml] using h)
    exact ⟨.tuple ps, by simp only [py, a, Option.map_some], by simpa only [PyData.showable] using b, by simpa only [PyData.leavesShort] using c, by simpa only [PyData.hasDict] using d, by simpa only [PyData.canLay0] using e, by simp only [PyData.weight, wgt, f], by simp only [PyData.depth, dpt, g]⟩
  | .lst ds, h => by
    obtain ⟨ps, a, b, c, d, e, f, g⟩ := smls_shw ds (by simpa only [sml] using h)
    exact ⟨.list ps, by simp only [py, a, Option.map_some], by simpa only [PyData.showable] using b, by simpa only [PyData.leavesShort] using c, by simpa only [PyData.hasDict] using d, by simpa only [PyData.canLay0] using e, by simp only [PyData.weight, wgt, f], by simp only [PyData.depth, dpt, g]⟩
  | .dct _, h => by simp only [sml] at h
  | .ins _ _, h => by simp only [sml] at h
  | .h _, h => by simp only [sml] at h
  | .scr _, h => by simp only [sml] at h
  | .exc _ _, h => by simp only [sml] at h
theorem smls_shw : ∀ ds : List D, smls ds → ∃ ps, Shws ds ps
  | [], _ => ⟨[], rfl, rfl, rfl, rfl, rfl, rfl, rfl⟩
  | d :: ds, h => by
    have h' : sml d ∧ smls ds := by simpa only [smls] using h
    obtain ⟨p, a1, b1, c1, d1, e1, f1, g1⟩ := sml_shw d h'.1
    obtain ⟨ps, a, b, c, d, e, f, g⟩ := smls_shw ds h'.2
    exact ⟨p :: ps, by simp only [pys, a1, a], by simp only [PyData.showableAll, b1, b, Bool.and_self], by simp only [PyData.leavesShortAll, c1, c, Bool.and_self], by simp only [PyData.hasDictAll, d1, d, Bool.or_self], by simp only [PyData.canLayAll0, e1, e, Bool.and_self], by simp only [PyData.weightAll, wgts, f1, f], by simp only [PyData.depthAll, dpts, g1, g]⟩
end
structure Sm (d : D) : Prop where
  sm : sml d
  wt : wgt d ≤ 4000
  dp : dpt d ≤ 60
theorem Sm.all {d : D} (h : Sm d) : ∃ p, py d = some p ∧ p.showable = true ∧ p.hasDict = false ∧ p.depth ≤ 60 ∧ p.shown.length ≤ sizeLine ∧ SeqAt.shaped p = true ∧ PyData.eqv p p = true := by
  obtain ⟨p, s⟩ := sml_shw d h.sm
  have w := h.wt
  have z := h.dp
  rw [← s.wt] at w
  rw [← s.dp] at z
  refine ⟨p, s.py, s.sh, s.hd, z, ?_, ?_, SeqAt.eqv_refl p s.cl⟩
  · have y := PyData.shown_le 1921 (by decide) p s.le
    have y2 : (1921 + 2) * p.weight ≤ 1923 * 4000 := Nat.mul_le_mul (by decide) w
    rw [sizeLine_eq]
    omega
  · unfold SeqAt.shaped
    rw [s.cl, Bool.true_and, decide_eq_true_eq]
    omega
theorem fEq_same {S : Sto} {a b d : D} {Q : D → Sto → Prop} (ha : view S a = d) (hb : view S b = d) (h : Sm d) (q : Q (.bl true) S) : fEq S a b Q := by
  obtain ⟨p, e, _, _, _, _, sh, ev⟩ := h.all
  unfold fEq fEqB
  rw [ha, hb]
  cases d with
  | int i => simpa using q
  | str i => simpa using q
  | bl i => simpa using q
  | non => simpa using q
  | tup ds => simp only [e, onS_some, sh, ev, true_and]; exact q
  | lst ds => simp only [e, onS_some, sh, ev, true_and]; exact q
  | _ => exact absurd h.sm (by simp [sml])
theorem fRepr_same {S : Sto} {a d : D} {Q : D → Sto → Prop} (ha : view S a = d) (h : Sm d) (q : ∀ s : Str, (∃ p, py d = some p ∧ s = p.shown) → Q (.str s) S) : fRepr [a] S Q := by
  obtain ⟨p, e, h1, h2, h3, h4, _⟩ := h.all
  unfold fRepr
  simp only [ha, e, onS_some]
  exact ⟨h1, h2, h3, h4, q _ ⟨p, e, rfl⟩⟩
def sp_q_alike : FSp := fun ds S Q => ∃ a b d : D, ds = [a, b] ∧ res S a = a ∧ res S b = b ∧ view S a = d ∧ view S b = d ∧ Sm d ∧ Q (.bl true) S
theorem loop_inv {g : WG} {w : WS} {κ : WK} (Inv : Ro → Sto → Prop) : ∀ {ds : List D}, (∀ d, d ∈ ds → ∀ (ρ : Ro) (S : Sto) (κ' : WK), Inv ρ S → (∀ ρ' S', Inv ρ' S' → κ'.nx ρ' S') → g d ρ S fun ρ1 S1 => w κ' ρ1 S1) →
    ∀ {ρ : Ro} {S : Sto}, Inv ρ S → (∀ ρ' S', Inv ρ' S' → κ.nx ρ' S') → loopD g w κ ds ρ S
  | [], _, ρ, S, i, q => by
    unfold loopD
    exact q ρ S i
  | d :: ds, step, ρ, S, i, q => by
    unfold loopD
    refine step d (by simp) ρ S _ i fun ρ' S' i' => ?_
    exact loop_inv Inv (fun d' hd => step d' (by simp [hd])) i' q
inductive All2 {α β : Type} (R : α → β → Prop) : List α → List β → Prop
  | nil : All2 R [] []
  | cons {a : α} {b : β} {as : List α} {bs : List β} : R a b → All2 R as bs → All2 R (a :: as) (b :: bs)
theorem All2.len {α β : Type} {R : α → β → Prop} {as : List α} {bs : List β} (h : All2 R as bs) : as.length = bs.length := by
  induction h with
  | nil => rfl
  | cons _ _ ih => simp [ih]
end Sq
set_option maxHeartbeats 4000000
namespace Sq
open PySem L2
theorem lm1 : (1 ≤ LIM) = True := by simp [LIM]
theorem lm2 : (2 ≤ LIM) = True := by simp [LIM]
theorem lm3 : (3 ≤ LIM) = True := by simp [LIM]
theorem lm4 : (4 ≤ LIM) = True := by simp [LIM]
theorem lm6 : (6 ≤ LIM) = True := by simp [LIM]
theorem max2 {i j : Int} {S : Sto} {Q : D → Sto → Prop} : fMaxL [.lst [.int i, .int j]] S Q = Q (.int (if i < j then j else i)) S := by
  unfold fMaxL
  simp only [view, intsD, onS_some]
  apply propext
  constructor
  · intro h
    refine h.2 _ ?_ ?_
    · split <;> simp
    · intro y hy
      simp only [List.mem_cons, List.not_mem_nil, or_false] at hy
      split <;> omega
  · intro h
    refine ⟨by simp, fun m hm hy => ?_⟩
    have h1 := hy i (by simp)
    have h2 := hy j (by simp)
    simp only [List.mem_cons, List.not_mem_nil, or_false] at hm
    have : m = if i < j then j else i := by split <;> omega
    rw [this]; exact h
theorem min2 {i j : Int} {S : Sto} {Q : D → Sto → Prop} : fMinL [.lst [.int i, .int j]] S Q = Q (.int (if j < i then j else i)) S := by
  unfold fMinL
  simp only [view, intsD, onS_some]
  apply propext
  constructor
  · intro h
    refine h.2 _ ?_ ?_
    · split <;> simp
    · intro y hy
      simp only [List.mem_cons, List.not_mem_nil, or_false] at hy
      split <;> omega
  · intro h
    refine ⟨by simp, fun m hm hy => ?_⟩
    have h1 := hy i (by simp)
    have h2 := hy j (by simp)
    simp only [List.mem_cons, List.not_mem_nil, or_false] at hm
    have : m = if j < i then j else i := by split <;> omega
    rw [this]; exact h
local macro_rules | `(tactic| walk_at "sq") => `(tactic| simp only [↓wSeq, ↓lm1, ↓lm2, ↓lm3, ↓lm4, ↓lm6, ↓max2, ↓min2, ↓fPow, ↓wNeg, ↓wAsg, ↓wVar, ↓wC, ↓wOp, ↓wTest, ↓wIfS, ↓wRet, ↓wRetN, ↓wIf, ↓wCall, ↓wCons, ↓wNil, ↓wName, ↓wGTup, ↓wGCons, ↓wGNil, ↓wPar, ↓wTup, ↓wLst, ↓wAnd, ↓wOr, ↓wNot, ↓wTru, ↓tru, ↓wAndV, ↓wOrV, ↓wNotV, ↓wSkip, ↓wDrop, ↓fAdd, ↓fSub, ↓fMod, ↓fMul, ↓fMulA, ↓fDiv, ↓fEq, ↓fEqB, ↓fNe, ↓fCmp, ↓fI, ↓fIsN, ↓fNotN, ↓isNon, ↓fLen, ↓lenS, ↓fAbs, ↓fMax, ↓fMax2, ↓fMin, ↓fMin2, ↓fInt, ↓fIx, ↓fIn, ↓scV, ↓scVs, ↓wB, ↓wIsB, ↓wIsO, ↓kindT, ↓kindIs, ↓wFld, ↓atts, ↓wMeth, ↓wCallO, ↓wProp, ↓wSetA, ↓putA, ↓wNever, ↓gt, ↓st, ↓res_i, ↓res_b, ↓res_s, ↓res_n, ↓res_t, ↓res_l, ↓res_d, ↓res_c, ↓res_scr, ↓view_i, ↓view_b, ↓view_s, ↓view_n, ↓view_t, ↓view_l, ↓view_d, ↓view_c, ↓Rt.res, ↓Rt.view, ↓onS_some, ↓onS_none, ↓ro, ↓List.map_cons, ↓List.map_nil, ↓List.length_cons, ↓List.length_nil, ↓List.cons_append, ↓List.nil_append, ↓List.replicate_succ, ↓List.replicate_zero, Nat.reduceAdd, Nat.reduceSub, ↓Nat.add_zero, ↓Nat.zero_add, ↓Nat.sub_self, ↓so_inj, ↓so_beq, ↓at0, ↓at1, ↓at2, ↓at3, ↓gx0, ↓gx1, ↓gx2, ↓gx3, ↓nc0, ↓nc1, ↓nc2, ↓nc3, ↓nc4, ↓nc6, String.reduceBEq, ↓ix40, ↓ix41, ↓ix42, ↓set40, ↓set41, ↓set42, ↓List.set_set, ↓Bool.true_or, ↓Bool.or_true, ↓Bool.false_or, ↓Bool.or_false, ↓Bool.and_true, ↓Bool.true_and, ↓Bool.and_false, ↓Bool.false_and, ↓inV, ↓eqV, ↓List.any_cons, ↓List.any_nil, Int.reduceLE, Int.reduceLT, Int.reduceEq, String.reduceEq, ↓decide_true, ↓decide_false, ↓if_true, ↓if_false, ↓Bool.not_true, ↓Bool.not_false, reduceIte, ↓true_and, ↓and_true, ↓false_and, ↓and_false, ↓Bool.false_eq_true, ↓ite_true, ↓ite_false, reduceCtorEq])
local macro_rules | `(tactic| walk_at "sqh") => `(tactic| simp only [↓wSeq, ↓lm1, ↓lm2, ↓lm3, ↓lm4, ↓lm6, ↓max2, ↓min2, ↓fPow, ↓wNeg, ↓wAsg, ↓wVar, ↓wC, ↓wOp, ↓wTest, ↓wIfS, ↓wRet, ↓wRetN, ↓wIf, ↓wCall, ↓wCons, ↓wNil, ↓wName, ↓wGTup, ↓wGCons, ↓wGNil, ↓wPar, ↓wTup, ↓wLst, ↓wAnd, ↓wOr, ↓wNot, ↓wTru, ↓tru, ↓wAndV, ↓wOrV, ↓wNotV, ↓wSkip, ↓wDrop, ↓fAdd, ↓fSub, ↓fMod, ↓fMul, ↓fMulA, ↓fDiv, ↓fEq, ↓fEqB, ↓fNe, ↓fCmp, ↓fI, ↓fIsN, ↓fNotN, ↓isNon, ↓fLen, ↓lenS, ↓fAbs, ↓fMax, ↓fMax2, ↓fMin, ↓fMin2, ↓fInt, ↓fIx, ↓fIn, ↓scV, ↓scVs, ↓wB, ↓wIsB, ↓wIsO, ↓kindT, ↓kindIs, ↓wFld, ↓atts, ↓wMeth, ↓wCallO, ↓wProp, ↓wSetA, ↓putA, ↓wNever, ↓gt, ↓st, ↓res_i, ↓res_b, ↓res_s, ↓res_n, ↓res_t, ↓res_l, ↓res_d, ↓res_c, ↓res_scr, ↓view_i, ↓view_b, ↓view_s, ↓view_n, ↓view_t, ↓view_l, ↓view_d, ↓view_c, ↓Rt.res, ↓Rt.view, ↓onS_some, ↓onS_none, ↓ro, ↓List.map_cons, ↓List.map_nil, ↓List.length_cons, ↓List.length_nil, ↓List.cons_append, ↓List.nil_append, ↓List.replicate_succ, ↓List.replicate_zero, Nat.reduceAdd, Nat.reduceSub, ↓Nat.add_zero, ↓Nat.zero_add, ↓Nat.sub_self, ↓so_inj, ↓so_beq, ↓at0, ↓at1, ↓at2, ↓at3, ↓gx0, ↓gx1, ↓gx2, ↓gx3, ↓nc0, ↓nc1, ↓nc2, ↓nc3, ↓nc4, ↓nc6, String.reduceBEq, ↓ix40, ↓ix41, ↓ix42, ↓set40, ↓set41, ↓set42, ↓List.set_set, ↓Bool.true_or, ↓Bool.or_true, ↓Bool.false_or, ↓Bool.or_false, ↓Bool.and_true, ↓Bool.true_and, ↓Bool.and_false, ↓Bool.false_and, ↓inV, ↓eqV, ↓List.any_cons, ↓List.any_nil, Int.reduceLE, Int.reduceLT, Int.reduceEq, String.reduceEq, ↓decide_true, ↓decide_false, ↓if_true, ↓if_false, ↓Bool.not_true, ↓Bool.not_false, reduceIte, ↓true_and, ↓and_true, ↓false_and, ↓and_false, ↓Bool.false_eq_true, ↓ite_true, ↓ite_false, reduceCtorEq, ↓gt_st, ↓st_length, Nat.reduceEqDiff, Nat.reduceLT, Int.reduceToNat, Int.reduceEq, ↓List.length_map, ↓List.append_nil, *])
def Rt.le (B : Int) : Rt → Prop
  | .at t _ => t ≤ B
  | .or a b => a.le B ∧ b.le B
  | .and a b => a.le B ∧ b.le B
def sp_q_draw_size : FSp := fun ds S Q => ∃ (k : Nat) (top sc : Int), ds = [.h k, .int top, .int sc] ∧ S[k]? = some .bag ∧ 0 < top ∧ top ≤ 10 ^ 60 ∧ 1 ≤ sc ∧ sc ≤ 10 ^ 60 ∧ ∀ v : Int, 1 ≤ v → v ≤ top * sc → Q (.int v) S
def sp_q_give_n (n : Nat) : FSp := fun ds S Q => ∃ (r : Rt) (a : Int), ds = [r.d, .int a] ∧ r.ok ∧ r.dep ≤ n ∧ Q (.int (given r a)) S
def sp_q_give : FSp := sp_q_give_n 6
def bds : Rt → List Int
  | .at t q => [max t q]
  | .or a b => bds a ++ bds b
  | .and a b => bds a ++ bds b
theorem bds_in {B : Int} (hB : 6 ≤ B) : ∀ r : Rt, r.ok → r.le B → ∀ x, x ∈ bds r → 1 ≤ x ∧ x ≤ B
  | .at t q, h, l, x, hx => by
    simp only [bds, List.mem_singleton] at hx
    obtain ⟨h1, h2, h3⟩ := h
    simp only [Rt.le] at l
    omega
  | .or a b, h, l, x, hx => by
    simp only [bds, List.mem_append] at hx
    rcases hx with hx | hx
    · exact bds_in hB a h.1 l.1 x hx
    · exact bds_in hB b h.2 l.2 x hx
  | .and a b, h, l, x, hx => by
    simp only [bds, List.mem_append] at hx
    rcases hx with hx | hx
    · exact bds_in hB a h.1 l.1 x hx
    · exact bds_in hB b h.2 l.2 x hx
def w_q_draw_size : WS :=
  (wRet (wOp fMulA (wOp fAdd (wC (.int 1)) (wCall 2 sp_q_take [] (wCons (wVar 0) (wCons (wVar 1) wNil)))) (wOp fIx (wLst (wCons (wC (.int 1)) (wCons (wVar 2) wNil))) (wCall 2 sp_q_take [] (wCons (wVar 0) (wCons (wC (.int 2)) wNil))))))
def n_q_draw_size : List Str := ["_law_bag_here", "_law_top", "_law_scale"]
def w_q_give (sp_q_give : FSp) : WS :=
  (wSeq (wAsg (wVar 0) (wGTup 3 (wGCons (wName 2) (wGCons (wName 3) (wGCons (wName 4) wGNil))))) (wSeq (wIfS (wTest (wOp fEq (wVar 2) (wC (.str "at")))) (wRet (wIf (wTest (wOp (fCmp fun i j => decide (j ≤ i)) (wVar 1) (wVar 3))) (wOp fSub (wVar 1) (wOp fMod (wB fInt (wCons (wVar 1) wNil)) (wVar 4))) (wC (.int 0)))) wSkip) (wSeq (wAsg (wLst (wCons (wCall 2 sp_q_give [] (wCons (wVar 3) (wCons (wVar 1) wNil))) (wCons (wCall 2 sp_q_give [] (wCons (wVar 4) (wCons (wVar 1) wNil))) wNil))) (wName 5)) (wRet (wIf (wTest (wOp fEq (wVar 2) (wC (.str "or")))) (wB fMax (wCons (wVar 5) wNil)) (wB fMin (wCons (wVar 5) wNil)))))))
def n_q_give : List Str := ["_law_tree", "_law_amount", "_law_word", "_law_one", "_law_other", "_law_pair"]
theorem law_q_draw_size (ds : List D) (S : Sto) (Φ : D → Sto → Prop) (h : sp_q_draw_size ds S Φ) : w_q_draw_size { nx := fun _ S' => Φ .non S', rt := Φ } (ro n_q_draw_size ds) S := by
  obtain ⟨k, top, sc, rfl, hS, t1, t2, s1, s2, q⟩ := h
  have r0 := res_hb hS
  unfold w_q_draw_size n_q_draw_size
  walk_at "sqh"
  refine ⟨k, top, rfl, hS, t1, t2, fun v v0 v1 => ?_⟩
  walk_at "sqh"
  refine ⟨k, 2, rfl, hS, by decide, by decide, fun u u0 u1 => ?_⟩
  have hu : u = 0 ∨ u = 1 := by omega
  rcases hu with rfl | rfl
  · walk_at "sqh"
    refine ⟨(wide_mul (sm (by omega) (by omega)) (sm (by omega) (by omega)) (by decide) (by decide) (by decide)).ok, q _ (by omega) ?_⟩
    have h : (1 + v) * 1 ≤ top * sc := Int.mul_le_mul (by omega) s1 (by decide) (by omega)
    omega
  · walk_at "sqh"
    refine ⟨(wide_mul (sm (by omega) (by omega)) (sm (by omega) (by omega)) (by decide) (by decide) (by decide)).ok, q _ ?_ (Int.mul_le_mul_of_nonneg_right (by omega) (by omega))⟩
    have h : 1 * 1 ≤ (1 + v) * sc := Int.mul_le_mul (by omega) s1 (by decide) (by omega)
    omega
theorem law_q_give (n : Nat) (ds : List D) (S : Sto) (Φ : D → Sto → Prop) (h : sp_q_give_n (n + 1) ds S Φ) : w_q_give (sp_q_give_n n) { nx := fun _ S' => Φ .non S', rt := Φ } (ro n_q_give ds) S := by
  obtain ⟨r, a, rfl, ok, hd, q⟩ := h
  cases r with
  | «at» t p =>
    unfold w_q_give n_q_give Rt.d
    walk_at "sqh"
    obtain ⟨h1, h2, h3⟩ := ok
    unfold given at q
    by_cases z : t ≤ a
    · rw [if_pos z] at q
      simp only [z, decide_true, if_true]
      exact ⟨by omega, q⟩
    · rw [if_neg z] at q
      simp only [z, decide_false, Bool.false_eq_true, if_false]
      exact q
  | or x y =>
    unfold w_q_give n_q_give Rt.d
    walk_at "sqh"
    simp only [Rt.dep] at hd
    refine ⟨x, a, rfl, ok.1, by omega, y, a, rfl, ok.2, by omega, ?_⟩
    walk_at "sqh"
    simpa [given] using q
  | and x y =>
    unfold w_q_give n_q_give Rt.d
    walk_at "sqh"
    simp only [Rt.dep] at hd
    refine ⟨x, a, rfl, ok.1, by omega, y, a, rfl, ok.2, by omega, ?_⟩
    walk_at "sqh"
    simpa [given] using q
section
variable {k : Nat} {S : Sto} {top sc : Int}
end
section
variable {k : Nat} {S0 : Sto} {r : Rt}
end
theorem lows_int (n : Nat) : ∀ xs : List Int, lows n (xs.map D.int)
  | [] => trivial
  | _ :: xs => ⟨trivial, lows_int n xs⟩
end Sq
set_option maxHeartbeats 4000000
namespace Sq
open PySem L2
local macro_rules | `(tactic| walk_at "sq") => `(tactic| simp only [↓wSeq, ↓lm1, ↓lm2, ↓lm3, ↓lm4, ↓lm6, ↓max2, ↓min2, ↓fPow, ↓wNeg, ↓wAsg, ↓wVar, ↓wC, ↓wOp, ↓wTest, ↓wIfS, ↓wRet, ↓wRetN, ↓wIf, ↓wCall, ↓wCons, ↓wNil, ↓wName, ↓wGTup, ↓wGCons, ↓wGNil, ↓wPar, ↓wTup, ↓wLst, ↓wAnd, ↓wOr, ↓wNot, ↓wTru, ↓tru, ↓wAndV, ↓wOrV, ↓wNotV, ↓wSkip, ↓wDrop, ↓fAdd, ↓fSub, ↓fMod, ↓fMul, ↓fMulA, ↓fDiv, ↓fEq, ↓fEqB, ↓fNe, ↓fCmp, ↓fI, ↓fIsN, ↓fNotN, ↓isNon, ↓fLen, ↓lenS, ↓fAbs, ↓fMax, ↓fMax2, ↓fMin, ↓fMin2, ↓fInt, ↓fIx, ↓fIn, ↓scV, ↓scVs, ↓wB, ↓wIsB, ↓wIsO, ↓kindT, ↓kindIs, ↓wFld, ↓atts, ↓wMeth, ↓wCallO, ↓wProp, ↓wSetA, ↓putA, ↓wNever, ↓gt, ↓st, ↓res_i, ↓res_b, ↓res_s, ↓res_n, ↓res_t, ↓res_l, ↓res_d, ↓res_c, ↓res_scr, ↓view_i, ↓view_b, ↓view_s, ↓view_n, ↓view_t, ↓view_l, ↓view_d, ↓view_c, ↓Rt.res, ↓Rt.view, ↓onS_some, ↓onS_none, ↓ro, ↓List.map_cons, ↓List.map_nil, ↓List.length_cons, ↓List.length_nil, ↓List.cons_append, ↓List.nil_append, ↓List.replicate_succ, ↓List.replicate_zero, Nat.reduceAdd, Nat.reduceSub, ↓Nat.add_zero, ↓Nat.zero_add, ↓Nat.sub_self, ↓so_inj, ↓so_beq, ↓at0, ↓at1, ↓at2, ↓at3, ↓gx0, ↓gx1, ↓gx2, ↓gx3, ↓nc0, ↓nc1, ↓nc2, ↓nc3, ↓nc4, ↓nc6, String.reduceBEq, ↓ix40, ↓ix41, ↓ix42, ↓set40, ↓set41, ↓set42, ↓List.set_set, ↓Bool.true_or, ↓Bool.or_true, ↓Bool.false_or, ↓Bool.or_false, ↓Bool.and_true, ↓Bool.true_and, ↓Bool.and_false, ↓Bool.false_and, ↓inV, ↓eqV, ↓List.any_cons, ↓List.any_nil, Int.reduceLE, Int.reduceLT, Int.reduceEq, String.reduceEq, ↓decide_true, ↓decide_false, ↓if_true, ↓if_false, ↓Bool.not_true, ↓Bool.not_false, reduceIte, ↓true_and, ↓and_true, ↓false_and, ↓and_false, ↓Bool.false_eq_true, ↓ite_true, ↓ite_false, reduceCtorEq])
local macro_rules | `(tactic| walk_at "sqh") => `(tactic| simp only [↓wSeq, ↓lm1, ↓lm2, ↓lm3, ↓lm4, ↓lm6, ↓max2, ↓min2, ↓fPow, ↓wNeg, ↓wAsg, ↓wVar, ↓wC, ↓wOp, ↓wTest, ↓wIfS, ↓wRet, ↓wRetN, ↓wIf, ↓wCall, ↓wCons, ↓wNil, ↓wName, ↓wGTup, ↓wGCons, ↓wGNil, ↓wPar, ↓wTup, ↓wLst, ↓wAnd, ↓wOr, ↓wNot, ↓wTru, ↓tru, ↓wAndV, ↓wOrV, ↓wNotV, ↓wSkip, ↓wDrop, ↓fAdd, ↓fSub, ↓fMod, ↓fMul, ↓fMulA, ↓fDiv, ↓fEq, ↓fEqB, ↓fNe, ↓fCmp, ↓fI, ↓fIsN, ↓fNotN, ↓isNon, ↓fLen, ↓lenS, ↓fAbs, ↓fMax, ↓fMax2, ↓fMin, ↓fMin2, ↓fInt, ↓fIx, ↓fIn, ↓scV, ↓scVs, ↓wB, ↓wIsB, ↓wIsO, ↓kindT, ↓kindIs, ↓wFld, ↓atts, ↓wMeth, ↓wCallO, ↓wProp, ↓wSetA, ↓putA, ↓wNever, ↓gt, ↓st, ↓res_i, ↓res_b, ↓res_s, ↓res_n, ↓res_t, ↓res_l, ↓res_d, ↓res_c, ↓res_scr, ↓view_i, ↓view_b, ↓view_s, ↓view_n, ↓view_t, ↓view_l, ↓view_d, ↓view_c, ↓Rt.res, ↓Rt.view, ↓onS_some, ↓onS_none, ↓ro, ↓List.map_cons, ↓List.map_nil, ↓List.length_cons, ↓List.length_nil, ↓List.cons_append, ↓List.nil_append, ↓List.replicate_succ, ↓List.replicate_zero, Nat.reduceAdd, Nat.reduceSub, ↓Nat.add_zero, ↓Nat.zero_add, ↓Nat.sub_self, ↓so_inj, ↓so_beq, ↓at0, ↓at1, ↓at2, ↓at3, ↓gx0, ↓gx1, ↓gx2, ↓gx3, ↓nc0, ↓nc1, ↓nc2, ↓nc3, ↓nc4, ↓nc6, String.reduceBEq, ↓ix40, ↓ix41, ↓ix42, ↓set40, ↓set41, ↓set42, ↓List.set_set, ↓Bool.true_or, ↓Bool.or_true, ↓Bool.false_or, ↓Bool.or_false, ↓Bool.and_true, ↓Bool.true_and, ↓Bool.and_false, ↓Bool.false_and, ↓inV, ↓eqV, ↓List.any_cons, ↓List.any_nil, Int.reduceLE, Int.reduceLT, Int.reduceEq, String.reduceEq, ↓decide_true, ↓decide_false, ↓if_true, ↓if_false, ↓Bool.not_true, ↓Bool.not_false, reduceIte, ↓true_and, ↓and_true, ↓false_and, ↓and_false, ↓Bool.false_eq_true, ↓ite_true, ↓ite_false, reduceCtorEq, ↓gt_st, ↓st_length, Nat.reduceEqDiff, Nat.reduceLT, Int.reduceToNat, Int.reduceEq, ↓List.length_map, ↓List.append_nil, *])
def w_q_alike : WS :=
  (wRet (wAndV (wOp fEq (wVar 0) (wVar 1)) (wOp fEq (wB fRepr (wCons (wVar 0) wNil)) (wB fRepr (wCons (wVar 1) wNil)))))
def n_q_alike : List Str := ["_law_found", "_law_due"]
theorem law_q_alike (ds : List D) (S : Sto) (Φ : D → Sto → Prop) (h : sp_q_alike ds S Φ) : w_q_alike { nx := fun _ S' => Φ .non S', rt := Φ } (ro n_q_alike ds) S := by
  obtain ⟨a, b, d, rfl, ra, rb, va, vb, hs, q⟩ := h
  unfold w_q_alike n_q_alike
  simp only [wRet, wAndV, wOp, wB, wCons, wNil, wVar, ro, List.map_cons, List.map_nil, List.length_cons, List.length_nil, List.cons_append, List.nil_append, gt, onS_some, ra, rb]
  refine fEq_same va vb hs ?_
  simp only [if_true]
  refine fRepr_same (by rw [ra]; exact va) hs fun s ⟨p, e, hp⟩ => fRepr_same (by rw [rb]; exact vb) hs fun s' ⟨p', e', hp'⟩ => ?_
  rw [e] at e'
  cases e'
  subst hp
  subst hp'
  unfold fEq fEqB
  simp only [view_s, decide_true]
  exact q
section
end
theorem given_in : ∀ (r : Rt) (a : Int), r.ok → 0 ≤ a → 0 ≤ given r a ∧ given r a ≤ a
  | .at t p, a, ok, h => by
    obtain ⟨h1, h2, h3⟩ := ok
    unfold given
    have e1 := Int.emod_nonneg a (show p ≠ 0 by omega)
    have e2 : a % p ≤ a := by
      have z : 0 ≤ p * (a / p) := Int.mul_nonneg (by omega) (Int.ediv_nonneg h (by omega))
      rw [Int.emod_def]
      omega
    split <;> omega
  | .or x y, a, ok, h => by
    have := given_in x a ok.1 h
    have := given_in y a ok.2 h
    unfold given
    split <;> omega
  | .and x y, a, ok, h => by
    have := given_in x a ok.1 h
    have := given_in y a ok.2 h
    unfold given
    split <;> omega
theorem gt_put {ρ : Ro} {i j : Nat} {d : D} (h : i ≠ j) : gt (st ρ i (some d)) j = gt ρ j := by rw [gt_st, if_neg (fun z => h z.1)]
theorem gt_own {ρ : Ro} {i : Nat} {d : D} (h : i < ρ.length) : gt (st ρ i (some d)) i = some d := by rw [gt_st, if_pos ⟨rfl, h⟩]
theorem Rt.le_mono : ∀ (r : Rt) {A B : Int}, A ≤ B → r.le A → r.le B
  | .at _ _, _, _, hAB, h => Int.le_trans h hAB
  | .or x y, _, _, hAB, h => ⟨x.le_mono hAB h.1, y.le_mono hAB h.2⟩
  | .and x y, _, _, hAB, h => ⟨x.le_mono hAB h.1, y.le_mono hAB h.2⟩
end Sq
set_option maxHeartbeats 4000000
namespace Sq
open PySem L2
local macro_rules | `(tactic| walk_at "sq") => `(tactic| simp only [↓wSeq, ↓lm1, ↓lm2, ↓lm3, ↓lm4, ↓lm6, ↓max2, ↓min2, ↓fPow, ↓wNeg, ↓wAsg, ↓wVar, ↓wC, ↓wOp, ↓wTest, ↓wIfS, ↓wRet, ↓wRetN, ↓wIf, ↓wCall, ↓wCons, ↓wNil, ↓wName, ↓wGTup, ↓wGCons, ↓wGNil, ↓wPar, ↓wTup, ↓wLst, ↓wAnd, ↓wOr, ↓wNot, ↓wTru, ↓tru, ↓wAndV, ↓wOrV, ↓wNotV, ↓wSkip, ↓wDrop, ↓fAdd, ↓fSub, ↓fMod, ↓fMul, ↓fMulA, ↓fDiv, ↓fEq, ↓fEqB, ↓fNe, ↓fCmp, ↓fI, ↓fIsN, ↓fNotN, ↓isNon, ↓fLen, ↓lenS, ↓fAbs, ↓fMax, ↓fMax2, ↓fMin, ↓fMin2, ↓fInt, ↓fIx, ↓fIn, ↓scV, ↓scVs, ↓wB, ↓wIsB, ↓wIsO, ↓kindT, ↓kindIs, ↓wFld, ↓atts, ↓wMeth, ↓wCallO, ↓wProp, ↓wSetA, ↓putA, ↓wNever, ↓gt, ↓st, ↓res_i, ↓res_b, ↓res_s, ↓res_n, ↓res_t, ↓res_l, ↓res_d, ↓res_c, ↓res_scr, ↓view_i, ↓view_b, ↓view_s, ↓view_n, ↓view_t, ↓view_l, ↓view_d, ↓view_c, ↓Rt.res, ↓Rt.view, ↓onS_some, ↓onS_none, ↓ro, ↓List.map_cons, ↓List.map_nil, ↓List.length_cons, ↓List.length_nil, ↓List.cons_append, ↓List.nil_append, ↓List.replicate_succ, ↓List.replicate_zero, Nat.reduceAdd, Nat.reduceSub, ↓Nat.add_zero, ↓Nat.zero_add, ↓Nat.sub_self, ↓so_inj, ↓so_beq, ↓at0, ↓at1, ↓at2, ↓at3, ↓gx0, ↓gx1, ↓gx2, ↓gx3, ↓nc0, ↓nc1, ↓nc2, ↓nc3, ↓nc4, ↓nc6, String.reduceBEq, ↓ix40, ↓ix41, ↓ix42, ↓set40, ↓set41, ↓set42, ↓List.set_set, ↓Bool.true_or, ↓Bool.or_true, ↓Bool.false_or, ↓Bool.or_false, ↓Bool.and_true, ↓Bool.true_and, ↓Bool.and_false, ↓Bool.false_and, ↓inV, ↓eqV, ↓List.any_cons, ↓List.any_nil, Int.reduceLE, Int.reduceLT, Int.reduceEq, String.reduceEq, ↓decide_true, ↓decide_false, ↓if_true, ↓if_false, ↓Bool.not_true, ↓Bool.not_false, reduceIte, ↓true_and, ↓and_true, ↓false_and, ↓and_false, ↓Bool.false_eq_true, ↓ite_true, ↓ite_false, reduceCtorEq])
local macro_rules | `(tactic| walk_at "sqh") => `(tactic| simp only [↓wSeq, ↓lm1, ↓lm2, ↓lm3, ↓lm4, ↓lm6, ↓max2, ↓min2, ↓fPow, ↓wNeg, ↓wAsg, ↓wVar, ↓wC, ↓wOp, ↓wTest, ↓wIfS, ↓wRet, ↓wRetN, ↓wIf, ↓wCall, ↓wCons, ↓wNil, ↓wName, ↓wGTup, ↓wGCons, ↓wGNil, ↓wPar, ↓wTup, ↓wLst, ↓wAnd, ↓wOr, ↓wNot, ↓wTru, ↓tru, ↓wAndV, ↓wOrV, ↓wNotV, ↓wSkip, ↓wDrop, ↓fAdd, ↓fSub, ↓fMod, ↓fMul, ↓fMulA, ↓fDiv, ↓fEq, ↓fEqB, ↓fNe, ↓fCmp, ↓fI, ↓fIsN, ↓fNotN, ↓isNon, ↓fLen, ↓lenS, ↓fAbs, ↓fMax, ↓fMax2, ↓fMin, ↓fMin2, ↓fInt, ↓fIx, ↓fIn, ↓scV, ↓scVs, ↓wB, ↓wIsB, ↓wIsO, ↓kindT, ↓kindIs, ↓wFld, ↓atts, ↓wMeth, ↓wCallO, ↓wProp, ↓wSetA, ↓putA, ↓wNever, ↓gt, ↓st, ↓res_i, ↓res_b, ↓res_s, ↓res_n, ↓res_t, ↓res_l, ↓res_d, ↓res_c, ↓res_scr, ↓view_i, ↓view_b, ↓view_s, ↓view_n, ↓view_t, ↓view_l, ↓view_d, ↓view_c, ↓Rt.res, ↓Rt.view, ↓onS_some, ↓onS_none, ↓ro, ↓List.map_cons, ↓List.map_nil, ↓List.length_cons, ↓List.length_nil, ↓List.cons_append, ↓List.nil_append, ↓List.replicate_succ, ↓List.replicate_zero, Nat.reduceAdd, Nat.reduceSub, ↓Nat.add_zero, ↓Nat.zero_add, ↓Nat.sub_self, ↓so_inj, ↓so_beq, ↓at0, ↓at1, ↓at2, ↓at3, ↓gx0, ↓gx1, ↓gx2, ↓gx3, ↓nc0, ↓nc1, ↓nc2, ↓nc3, ↓nc4, ↓nc6, String.reduceBEq, ↓ix40, ↓ix41, ↓ix42, ↓set40, ↓set41, ↓set42, ↓List.set_set, ↓Bool.true_or, ↓Bool.or_true, ↓Bool.false_or, ↓Bool.or_false, ↓Bool.and_true, ↓Bool.true_and, ↓Bool.and_false, ↓Bool.false_and, ↓inV, ↓eqV, ↓List.any_cons, ↓List.any_nil, Int.reduceLE, Int.reduceLT, Int.reduceEq, String.reduceEq, ↓decide_true, ↓decide_false, ↓if_true, ↓if_false, ↓Bool.not_true, ↓Bool.not_false, reduceIte, ↓true_and, ↓and_true, ↓false_and, ↓and_false, ↓Bool.false_eq_true, ↓ite_true, ↓ite_false, reduceCtorEq, ↓gt_st, ↓st_length, Nat.reduceEqDiff, Nat.reduceLT, Int.reduceToNat, Int.reduceEq, ↓List.length_map, ↓List.append_nil, *])
def thr : Rt → Int
  | .at t q => max t q
  | .or x y => min (thr x) (thr y)
  | .and x y => max (thr x) (thr y)
def parts : Rt → List Int
  | .at _ q => [q]
  | .or x y => parts x ++ parts y
  | .and x y => parts x ++ parts y
theorem parts_in : ∀ r : Rt, r.ok → ∀ q, q ∈ parts r → 1 ≤ q ∧ q ≤ 6
  | .at t p, ok, q, h => by
    simp only [parts, List.mem_singleton] at h
    subst h
    exact ok.2
  | .or a b, ok, q, h => by
    rcases List.mem_append.mp h with h | h
    · exact parts_in a ok.1 q h
    · exact parts_in b ok.2 q h
  | .and a b, ok, q, h => by
    rcases List.mem_append.mp h with h | h
    · exact parts_in a ok.1 q h
    · exact parts_in b ok.2 q h
theorem thr_pos : ∀ r : Rt, r.ok → 1 ≤ thr r
  | .at t p, ok => by have := ok.1; have := ok.2; unfold thr; omega
  | .or a b, ok => by have := thr_pos a ok.1; have := thr_pos b ok.2; unfold thr; omega
  | .and a b, ok => by have := thr_pos a ok.1; have := thr_pos b ok.2; unfold thr; omega
theorem thr_le {B : Int} (hB : 6 ≤ B) : ∀ r : Rt, r.ok → r.le B → thr r ≤ B
  | .at t p, ok, le => by have := ok.2; simp only [Rt.le] at le; unfold thr; omega
  | .or a b, ok, le => by have := thr_le hB a ok.1 le.1; have := thr_le hB b ok.2 le.2; unfold thr; omega
  | .and a b, ok, le => by have := thr_le hB a ok.1 le.1; have := thr_le hB b ok.2 le.2; unfold thr; omega
theorem given_low : ∀ (r : Rt) (a : Int), r.ok → 0 ≤ a → a < thr r → given r a = 0
  | .at t p, a, ok, h, l => by
    obtain ⟨h1, h2, h3⟩ := ok
    unfold thr at l
    unfold given
    split
    · rw [Int.emod_eq_of_lt h (by omega)]; omega
    · rfl
  | .or x y, a, ok, h, l => by
    unfold thr at l
    unfold given
    rw [given_low x a ok.1 h (by omega), given_low y a ok.2 h (by omega)]
    rfl
  | .and x y, a, ok, h, l => by
    unfold thr at l
    have i1 := given_in x a ok.1 h
    have i2 := given_in y a ok.2 h
    unfold given
    rcases Int.lt_or_le a (thr x) with z | z
    · have := given_low x a ok.1 h z
      split <;> omega
    · have := given_low y a ok.2 h (by omega)
      split <;> omega
theorem given_high : ∀ (r : Rt) (a : Int), r.ok → thr r ≤ a → 0 < given r a ∧ ∃ q, q ∈ parts r ∧ a - given r a = a % q
  | .at t p, a, ok, l => by
    obtain ⟨h1, h2, h3⟩ := ok
    unfold thr at l
    have e : given (.at t p) a = a - a % p := by unfold given; rw [if_pos (by omega)]
    rw [e]
    have m := Int.emod_lt_of_pos a (show 0 < p by omega)
    exact ⟨by omega, p, by simp [parts], by omega⟩
  | .or x y, a, ok, l => by
    have px := thr_pos x ok.1
    have py := thr_pos y ok.2
    unfold thr at l
    have a0 : 0 ≤ a := by omega
    have i1 := given_in x a ok.1 a0
    have i2 := given_in y a ok.2 a0
    have gx : thr x ≤ a → 0 < given x a ∧ ∃ q, q ∈ parts x ∧ a - given x a = a % q := given_high x a ok.1
    have gy : thr y ≤ a → 0 < given y a ∧ ∃ q, q ∈ parts y ∧ a - given y a = a % q := given_high y a ok.2
    have lx : a < thr x → given x a = 0 := given_low x a ok.1 a0
    have ly : a < thr y → given y a = 0 := given_low y a ok.2 a0
    have e : given (.or x y) a = if given y a > given x a then given y a else given x a := rfl
    rw [e]
    by_cases z : given y a > given x a
    · rw [if_pos z]
      have hy : thr y ≤ a := by
        by_cases w : thr y ≤ a
        · exact w
        · have := ly (by omega); omega
      obtain ⟨p1, q, hq, eq⟩ := gy hy
      exact ⟨p1, q, List.mem_append_right _ hq, eq⟩
    · rw [if_neg z]
      have hx : thr x ≤ a := by
        by_cases w : thr x ≤ a
        · exact w
        · have := lx (by omega)
          have := gy (by omega)
          omega
      obtain ⟨p1, q, hq, eq⟩ := gx hx
      exact ⟨p1, q, List.mem_append_left _ hq, eq⟩
  | .and x y, a, ok, l => by
    unfold thr at l
    have gx := given_high x a ok.1 (by omega)
    have gy := given_high y a ok.2 (by omega)
    have e : given (.and x y) a = if given y a < given x a then given y a else given x a := rfl
    rw [e]
    by_cases z : given y a < given x a
    · rw [if_pos z]
      obtain ⟨p1, q, hq, eq⟩ := gy
      exact ⟨p1, q, List.mem_append_right _ hq, eq⟩
    · rw [if_neg z]
      obtain ⟨p1, q, hq, eq⟩ := gx
      exact ⟨p1, q, List.mem_append_left _ hq, eq⟩
theorem rest_lt : ∀ (r : Rt) (a : Int), r.ok → 0 ≤ a → a - given r a < thr r
  | .at t p, a, ok, h => by
    obtain ⟨h1, h2, h3⟩ := ok
    have m := Int.emod_lt_of_pos a (show 0 < p by omega)
    unfold thr given
    split <;> omega
  | .or x y, a, ok, h => by
    have := rest_lt x a ok.1 h
    have := rest_lt y a ok.2 h
    unfold thr given
    split <;> omega
  | .and x y, a, ok, h => by
    have := rest_lt x a ok.1 h
    have := rest_lt y a ok.2 h
    unfold thr given
    split <;> omega
def sp_threshold_of_n (n : Nat) : FSp := fun ds S Q => ∃ r : Rt, ds = [r.d] ∧ r.dep ≤ n ∧ Q (.int (thr r)) S
def sp_threshold_of : FSp := sp_threshold_of_n 6
def sp_q_threshold_n (n : Nat) : FSp := sp_threshold_of_n n
def sp_q_threshold : FSp := sp_q_threshold_n 6
def sp_Rule_threshold : FSp := fun ds S Q => ∃ r : Rt, ds = [rule r] ∧ r.num ≤ 6 ∧ Q (.int (thr r)) S
def w_threshold_of (sp_threshold_of : FSp) : WS :=
  (wSeq (wAsg (wVar 0) (wGTup 3 (wGCons (wName 1) (wGCons (wName 2) (wGCons (wName 3) wGNil))))) (wSeq (wIfS (wTest (wOp fEq (wVar 1) (wC (.str "at")))) (wRet (wB fMax (wCons (wVar 2) (wCons (wVar 3) wNil)))) wSkip) (wSeq (wPar 4 5 (wCons (wCall 1 sp_threshold_of [] (wCons (wVar 2) wNil)) (wCons (wCall 1 sp_threshold_of [] (wCons (wVar 3) wNil)) wNil))) (wRet (wIf (wTest (wOp fEq (wVar 1) (wC (.str "or")))) (wB fMin (wCons (wVar 4) (wCons (wVar 5) wNil))) (wB fMax (wCons (wVar 4) (wCons (wVar 5) wNil))))))))
def n_threshold_of : List Str := ["tree", "word", "one", "other", "first", "second"]
def w_Rule_threshold : WS :=
  (wRet (wCall 1 sp_threshold_of [] (wCons (wFld "Rule" "its_tree" (wVar 0)) wNil)))
def n_Rule_threshold : List Str := ["self"]
def w_q_threshold (sp_q_threshold : FSp) : WS :=
  (wSeq (wAsg (wVar 0) (wGTup 3 (wGCons (wName 1) (wGCons (wName 2) (wGCons (wName 3) wGNil))))) (wSeq (wIfS (wTest (wOp fEq (wVar 1) (wC (.str "at")))) (wRet (wB fMax (wCons (wVar 2) (wCons (wVar 3) wNil)))) wSkip) (wSeq (wAsg (wLst (wCons (wCall 1 sp_q_threshold [] (wCons (wVar 2) wNil)) (wCons (wCall 1 sp_q_threshold [] (wCons (wVar 3) wNil)) wNil))) (wName 4)) (wRet (wIf (wTest (wOp fEq (wVar 1) (wC (.str "or")))) (wB fMin (wCons (wVar 4) wNil)) (wB fMax (wCons (wVar 4) wNil)))))))
def n_q_threshold : List Str := ["_law_tree", "_law_word", "_law_one", "_law_other", "_law_pair"]
theorem law_threshold_of (n : Nat) (ds : List D) (S : Sto) (Φ : D → Sto → Prop) (h : sp_threshold_of_n (n + 1) ds S Φ) : w_threshold_of (sp_threshold_of_n n) { nx := fun _ S' => Φ .non S', rt := Φ } (ro n_threshold_of ds) S := by
  obtain ⟨r, rfl, hd, q⟩ := h
  cases r with
  | «at» t p =>
    unfold w_threshold_of n_threshold_of Rt.d
    walk_at "sqh"
    have e : thr (.at t p) = if p > t then p else t := by unfold thr; split <;> omega
    rw [e] at q
    exact q
  | or x y =>
    unfold w_threshold_of n_threshold_of Rt.d
    walk_at "sqh"
    simp only [Rt.dep] at hd
    refine ⟨x, rfl, by omega, y, rfl, by omega, ?_⟩
    walk_at "sqh"
    have e : thr (.or x y) = if thr y < thr x then thr y else thr x := by
      conv => lhs; unfold thr
      split <;> omega
    rw [e] at q
    exact q
  | and x y =>
    unfold w_threshold_of n_threshold_of Rt.d
    walk_at "sqh"
    simp only [Rt.dep] at hd
    refine ⟨x, rfl, by omega, y, rfl, by omega, ?_⟩
    walk_at "sqh"
    have e : thr (.and x y) = if thr y > thr x then thr y else thr x := by
      conv => lhs; unfold thr
      split <;> omega
    rw [e] at q
    exact q
theorem law_Rule_threshold (ds : List D) (S : Sto) (Φ : D → Sto → Prop) (h : sp_Rule_threshold ds S Φ) : w_Rule_threshold { nx := fun _ S' => Φ .non S', rt := Φ } (ro n_Rule_threshold ds) S := by
  obtain ⟨r, rfl, hn, q⟩ := h
  have hd := r.dep_num
  unfold w_Rule_threshold n_Rule_threshold rule
  walk_at "sq"
  exact ⟨r, rfl, by omega, q⟩
theorem law_q_threshold (n : Nat) (ds : List D) (S : Sto) (Φ : D → Sto → Prop) (h : sp_q_threshold_n (n + 1) ds S Φ) : w_q_threshold (sp_q_threshold_n n) { nx := fun _ S' => Φ .non S', rt := Φ } (ro n_q_threshold ds) S := by
  obtain ⟨r, rfl, hd, q⟩ := h
  cases r with
  | «at» t p =>
    unfold w_q_threshold n_q_threshold Rt.d
    walk_at "sqh"
    have e : thr (.at t p) = if p > t then p else t := by unfold thr; split <;> omega
    rw [e] at q
    exact q
  | or x y =>
    unfold w_q_threshold n_q_threshold Rt.d
    walk_at "sqh"
    simp only [Rt.dep] at hd
    refine ⟨x, rfl, by omega, y, rfl, by omega, ?_⟩
    walk_at "sqh"
    have e : thr (.or x y) = if thr y < thr x then thr y else thr x := by
      conv => lhs; unfold thr
      split <;> omega
    rw [e] at q
    exact q
  | and x y =>
    unfold w_q_threshold n_q_threshold Rt.d
    walk_at "sqh"
    simp only [Rt.dep] at hd
    refine ⟨x, rfl, by omega, y, rfl, by omega, ?_⟩
    walk_at "sqh"
    have e : thr (.and x y) = if thr x < thr y then thr y else thr x := by
      conv => lhs; unfold thr
      split <;> omega
    rw [e] at q
    exact q
end Sq
set_option maxHeartbeats 4000000
namespace Sq
open PySem L2
def keyD : D → Option Key
  | .int i => some (.inl i)
  | .str s => some (.inr s)
  | _ => none
def valD (kd : List (Key × D)) (k : Key) : Option D := (kd.find? fun p => decide (p.1 = k)).map (·.2)
def putD (kd : List (Key × D)) (k : Key) (d : D) : List (Key × D) :=
  if (kd.any fun p => decide (p.1 = k)) = true then kd.map (fun p => if p.1 = k then (p.1, d) else p) else kd ++ [(k, d)]
theorem valD_pos {p : Key × D} {r : List (Key × D)} {k : Key} (e : p.1 = k) : valD (p :: r) k = some p.2 := by simp [valD, List.find?_cons, e]
theorem valD_neg {p : Key × D} {r : List (Key × D)} {k : Key} (e : ¬ p.1 = k) : valD (p :: r) k = valD r k := by simp [valD, List.find?_cons, e]
section
variable {K : PySem.W.Frag} {mg : Str → Option Value} {Z : Zt} {I : Hp} {μ : List Addr} {S : Sto} {H : Hp}
theorem RpK.len {kv : List (Key × V)} {kd : List (Key × D)} (r : RpK K mg I μ kv kd) : kv.length = kd.length := by
  induction kd generalizing kv with
  | nil => cases r; rfl
  | cons p kd ih => cases r with | cons h t => simp [ih t]
theorem RpK.val (k : Key) : ∀ {kv : List (Key × V)} {kd : List (Key × D)}, RpK K mg I μ kv kd → (valV kv k).isSome = (valD kd k).isSome ∧ ∀ d, valD kd k = some d → ∃ v, valV kv k = some v ∧ Rp K mg I μ v d
  | _, _, .nil => ⟨rfl, fun d h => nomatch h⟩
  | _, _, .cons (k := j) h t => by
    by_cases e : j = k
    · rw [valV_pos (p := (j, _)) e, valD_pos (p := (j, _)) e]
      exact ⟨rfl, fun d h' => by cases h'; exact ⟨_, rfl, h⟩⟩
    · rw [valV_neg (p := (j, _)) e, valD_neg (p := (j, _)) e]
      exact t.val k
theorem RpK.any (k : Key) : ∀ {kv : List (Key × V)} {kd : List (Key × D)}, RpK K mg I μ kv kd → (kv.any fun p => decide (p.1 = k)) = (kd.any fun p => decide (p.1 = k))
  | _, _, .nil => rfl
  | _, _, .cons h t => by rw [List.any_cons, List.any_cons, t.any k]
theorem RpK.put {k : Key} {v : V} {d : D} (r : Rp K mg I μ v d) {kv : List (Key × V)} {kd : List (Key × D)} (t : RpK K mg I μ kv kd) : RpK K mg I μ (putK kv k v) (putD kd k d) := by
  unfold putK putD
  rw [t.any k]
  have m : ∀ {kv : List (Key × V)} {kd : List (Key × D)}, RpK K mg I μ kv kd → RpK K mg I μ (kv.map fun p => if p.1 = k then (p.1, v) else p) (kd.map fun p => if p.1 = k then (p.1, d) else p) := by
    intro kv kd t
    induction kd generalizing kv with
    | nil => cases t; exact .nil
    | cons p kd ih =>
      cases t with
      | cons h t =>
        rename_i j x _ _
        rw [List.map_cons, List.map_cons]
        by_cases e : j = k
        · rw [if_pos e, if_pos e]; exact .cons r (ih t)
        · rw [if_neg e, if_neg e]; exact .cons h (ih t)
  have a : ∀ {kv : List (Key × V)} {kd : List (Key × D)}, RpK K mg I μ kv kd → RpK K mg I μ (kv ++ [(k, v)]) (kd ++ [(k, d)]) := by
    intro kv kd t
    induction kd generalizing kv with
    | nil => cases t; exact .cons r .nil
    | cons p kd ih => cases t with | cons h t => exact .cons h (ih t)
  split
  · exact m t
  · exact a t
theorem keyD_rp {v : V} {d : D} {k : Key} (r : Rp K mg I μ v d) (e : keyD d = some k) : v = kV k := by
  cases r <;> simp [keyD] at e <;> subst e <;> rfl
end
def dctD : D → Option (List (Key × D))
  | .dct kd => some kd
  | _ => none
theorem dctD_eq {d : D} {kd : List (Key × D)} (h : dctD d = some kd) : d = .dct kd := by
  cases d <;> simp [dctD] at h
  rw [h]
def fDIn (neg : Bool) : F2 := fun S x y Q => onS (keyD x) fun k => onS (dctD (view S y)) fun kd => Q (.bl (if neg then !(valD kd k).isSome else (valD kd k).isSome)) S
def rDIn (neg : Bool) : R2 := fun y x H Q => ∃ a o, x = .ref a ∧ DGet H a y o ∧ Q (.bl (if neg then !o.isSome else o.isSome)) H
def fDIx : F2 := fun S x y Q => onS (dctD (view S x)) fun kd => onS (keyD y) fun k => onS (valD kd k) fun d => Q d S
theorem opd_din {K : PySem.W.Frag} {mg : Str → Option Value} {Z : Zt} {neg : Bool} : OpD K mg Z (rDIn neg) (fDIn neg) := by
  intro I μ S H x y a b Q Φ ok ra rb q k
  obtain ⟨key, e, q⟩ := onS_iff q
  obtain ⟨kd, e2, q⟩ := onS_iff q
  obtain ⟨p, vs, rfl, h1, r1⟩ := view_dct ok rb (dctD_eq e2)
  refine ⟨p, valV vs key, rfl, .inl ⟨vs, key, h1, keyD_rp ra e, rfl⟩, ?_⟩
  rw [(r1.val key).1]
  exact k _ _ I μ S H .refl ok .bl q
section
variable {X : Cx} {Γ : Gam} {a b o ix e : Expr} {ta tb to ti te : TE} {wa wb wo wi we : WE} {pos pos' : Pos} {j : Nat}
theorem cm_din (hr : Room j X.A) : CmpR X .In (rDIn false) (fDIn false) := ⟨fun pins s σ H x y v u Q I rx ry h => by
  obtain ⟨p, o, rfl, g, q⟩ := h
  cases ry
  exact d_in (by have := hr.un; omega) I g rx fun s' I' => ⟨.bl o.isSome, H, I', rfl, q⟩, fun _ => opd_din⟩
theorem se_dix (hr : Room j X.A) (ha : SE X Γ a ta wa) (hb : SE X Γ b tb wb) (hs : NoSl b := by exact fun _ _ => rfl) : SE X Γ (.Subscript a b pos) (tDGet ta tb) (wOp fDIx wa wb) :=
  ⟨pe_dget (by have := hr.un; omega) ha.pe hb.pe hs, fun Z lk σ ρ I μ S H Q Φ rs ok hw k => ha.si Z lk σ ρ I μ S H _ _ rs ok hw fun x dx I1 μ1 S1 H1 e1 o1 r1 q1 => hb.si Z lk σ ρ I1 μ1 S1 H1 _ _ (rs.ext e1) o1 q1 fun y dy I2 μ2 S2 H2 e2 o2 r2 q2 => by
    obtain ⟨kd, g1, q2⟩ := onS_iff q2
    obtain ⟨key, g2, q2⟩ := onS_iff q2
    obtain ⟨d, g3, q2⟩ := onS_iff q2
    obtain ⟨p, vs, rfl, h1, rk⟩ := view_dct o2 (r1.ext e2) (dctD_eq g1)
    obtain ⟨v, g4, rv⟩ := (rk.val key).2 d g3
    exact ⟨p, v, rfl, .inl ⟨vs, key, h1, keyD_rp r2 g2, g4.symm⟩, k v d I2 μ2 S2 H2 (e1.trans e2) o2 rv q2⟩⟩
def wDNew : WE := fun _ S Q => Q (.h S.length) (S ++ [.dct []])
theorem se_dnew : SE X Γ (.Dict [] [] pos) tDNewK wDNew :=
  ⟨pe_dnewK, fun Z lk σ ρ I μ S H Q Φ rs ok hw k p hp => by
    have i := free_of ok.sub hp
    exact k _ _ _ _ _ _ Ext.push (ok.push (m := .dct []) hp ⟨i, [], upd_same, .nil⟩) (.h (mu_last ok p)) hw⟩
def wDPut (wo wi we : WE) : WS := fun κ ρ S => we ρ S fun d S1 => wo ρ S1 fun x S2 => wi ρ S2 fun y S3 => match x with
  | .h n => match S3[n]? with
    | some (.dct kd) => kd.length < LIM ∧ onS (keyD y) fun k => κ.nx ρ (S3.set n (.dct (putD kd k d)))
    | _ => False
  | _ => False
theorem s_dput (hr : Room j X.A) (ho : SE X Γ o to wo) (hi : SE X Γ ix ti wi) (he : SE X Γ e te we) (hs : swapsWith e (some (.Subscript o ix pos')) pos.line X.env = pure false := by rfl) :
    SS X Γ (.Assign [.Subscript o ix pos'] e pos) (sDPut to ti te) (wDPut wo wi we) :=
  ⟨ps_dput (by have := hr.un; omega) ho.pe hi.pe he.pe hs, fun Z lk σ ρ I μ S H E κ rs ok h c => he.si Z lk σ ρ I μ S H _ _ rs ok h fun v d I1 μ1 S1 H1 e1 o1 r1 q1 => ho.si Z lk σ ρ I1 μ1 S1 H1 _ _ (rs.ext e1) o1 q1 fun x dx I2 μ2 S2 H2 e2 o2 r2 q2 =>
    hi.si Z lk σ ρ I2 μ2 S2 H2 _ _ (rs.ext (e1.trans e2)) o2 q2 fun y dy I3 μ3 S3 H3 e3 o3 r3 q3 => by
      split at q3
      · rename_i n
        split at q3
        · rename_i kd g
          obtain ⟨key, g2, q3⟩ := onS_iff q3.2
          rename_i q0
          have hl := q0.1
          cases r2 with
          | h hn =>
            obtain ⟨i3, vs, hH, rk⟩ := o3.ob _ _ _ (e3.mu _ _ hn) g
            have e13 := (e1.trans e2).trans e3
            refine ⟨_, _, rfl, .inl ⟨vs, key, hH, keyD_rp r3 g2, lim (by rw [rk.len]; omega), rfl⟩, ?_⟩
            exact c.nx σ ρ I3 μ3 _ _ e13 (rs.ext e13) (o3.put (m := .dct (putD kd key d)) (e3.mu _ _ hn) i3 ⟨i3, _, upd_same, rk.put (r1.ext (e2.trans e3))⟩) q3
        · exact q3.elim
      · exact q3.elim⟩
def wPar3 (i j l : Nat) (wa : WA) : WS := fun κ ρ S => wa ρ S fun ds S1 => match ds with
  | [a, b, c] => κ.nx (st (st (st ρ i (some a)) j (some b)) l (some c)) S1
  | _ => False
theorem s_par3 {x y z : Str} {a b c : Expr} {ta : TA} {wa : WA} {px py pz pt : Pos} {kt k2 pt2} (i j l : Nat) (hc : X.calm = true) (hN : X.N.Nodup) (hi : X.N[i]? = some x) (hj : X.N[j]? = some y) (hl : X.N[l]? = some z) (hij : i ≠ j) (hil : i ≠ l) (hjl : j ≠ l)
    (hx : X.env.scope.names.lookup x = some .local) (hy : X.env.scope.names.lookup y = some .local) (hz : X.env.scope.names.lookup z = some .local) (ha : SA X Γ [a, b, c] ta wa)
    (hw : swappedStores [.Tuple [.Name x px, .Name y py, .Name z pz] kt pt] (.Tuple [a, b, c] k2 pt2) X.env = pure (some [x, y, z]))
    (hs : swapsWithSole [.Tuple [.Name x px, .Name y py, .Name z pz] kt pt] (.Tuple [a, b, c] k2 pt2) pos.line X.env = pure false := by rfl) :
    SS X Γ (.Assign [.Tuple [.Name x px, .Name y py, .Name z pz] kt pt] (.Tuple [a, b, c] k2 pt2) pos) (tPar3 i j l ta) (wPar3 i j l wa) :=
  ⟨ps_par3 hc hN hi hj hl hij hil hjl hx hy hz ha.pa hw hs, fun Z lk σ ρ I μ S H E κ rs ok h c => ha.si Z lk σ ρ I μ S H _ _ rs ok h fun vs ds I1 μ1 S1 H1 e1 o1 r1 q1 => by
    split at q1
    · rename_i da db dc
      cases r1 with
      | cons ra r1 =>
        cases r1 with
        | cons rb r1 =>
          cases r1 with
          | cons rc r1 =>
            cases r1
            exact ⟨_, _, _, rfl, c.nx _ _ I1 μ1 S1 H1 e1 ((((rs.ext e1).put ra i).put rb j).put rc l) o1 q1⟩
    · exact q1.elim⟩
end
end Sq
set_option maxHeartbeats 4000000
namespace Sq
open PySem L2
local macro_rules | `(tactic| walk_at "sq") => `(tactic| simp only [↓wSeq, ↓wPar3, ↓fDIx, ↓lm1, ↓lm2, ↓lm3, ↓lm4, ↓lm6, ↓max2, ↓min2, ↓fPow, ↓wNeg, ↓wAsg, ↓wVar, ↓wC, ↓wOp, ↓wTest, ↓wIfS, ↓wRet, ↓wRetN, ↓wIf, ↓wCall, ↓wCons, ↓wNil, ↓wName, ↓wGTup, ↓wGCons, ↓wGNil, ↓wPar, ↓wTup, ↓wLst, ↓wAnd, ↓wOr, ↓wNot, ↓wTru, ↓tru, ↓wAndV, ↓wOrV, ↓wNotV, ↓wSkip, ↓wDrop, ↓fAdd, ↓fSub, ↓fMod, ↓fMul, ↓fMulA, ↓fDiv, ↓fEq, ↓fEqB, ↓fNe, ↓fCmp, ↓fI, ↓fIsN, ↓fNotN, ↓isNon, ↓fLen, ↓lenS, ↓fAbs, ↓fMax, ↓fMax2, ↓fMin, ↓fMin2, ↓fInt, ↓fIx, ↓fIn, ↓scV, ↓scVs, ↓wB, ↓wIsB, ↓wIsO, ↓kindT, ↓kindIs, ↓wFld, ↓atts, ↓wMeth, ↓wCallO, ↓wProp, ↓wSetA, ↓putA, ↓wNever, ↓gt, ↓st, ↓res_i, ↓res_b, ↓res_s, ↓res_n, ↓res_t, ↓res_l, ↓res_d, ↓res_c, ↓res_scr, ↓view_i, ↓view_b, ↓view_s, ↓view_n, ↓view_t, ↓view_l, ↓view_d, ↓view_c, ↓Rt.res, ↓Rt.view, ↓onS_some, ↓onS_none, ↓ro, ↓List.map_cons, ↓List.map_nil, ↓List.length_cons, ↓List.length_nil, ↓List.cons_append, ↓List.nil_append, ↓List.replicate_succ, ↓List.replicate_zero, Nat.reduceAdd, Nat.reduceSub, ↓Nat.add_zero, ↓Nat.zero_add, ↓Nat.sub_self, ↓so_inj, ↓so_beq, ↓at0, ↓at1, ↓at2, ↓at3, ↓gx0, ↓gx1, ↓gx2, ↓gx3, ↓nc0, ↓nc1, ↓nc2, ↓nc3, ↓nc4, ↓nc6, String.reduceBEq, ↓ix40, ↓ix41, ↓ix42, ↓set40, ↓set41, ↓set42, ↓List.set_set, ↓Bool.true_or, ↓Bool.or_true, ↓Bool.false_or, ↓Bool.or_false, ↓Bool.and_true, ↓Bool.true_and, ↓Bool.and_false, ↓Bool.false_and, ↓inV, ↓eqV, ↓List.any_cons, ↓List.any_nil, Int.reduceLE, Int.reduceLT, Int.reduceEq, String.reduceEq, ↓decide_true, ↓decide_false, ↓if_true, ↓if_false, ↓Bool.not_true, ↓Bool.not_false, reduceIte, ↓true_and, ↓and_true, ↓false_and, ↓and_false, ↓Bool.false_eq_true, ↓ite_true, ↓ite_false, reduceCtorEq])
local macro_rules | `(tactic| walk_at "sqh") => `(tactic| simp only [↓wSeq, ↓wPar3, ↓fDIx, ↓lm1, ↓lm2, ↓lm3, ↓lm4, ↓lm6, ↓max2, ↓min2, ↓fPow, ↓wNeg, ↓wAsg, ↓wVar, ↓wC, ↓wOp, ↓wTest, ↓wIfS, ↓wRet, ↓wRetN, ↓wIf, ↓wCall, ↓wCons, ↓wNil, ↓wName, ↓wGTup, ↓wGCons, ↓wGNil, ↓wPar, ↓wTup, ↓wLst, ↓wAnd, ↓wOr, ↓wNot, ↓wTru, ↓tru, ↓wAndV, ↓wOrV, ↓wNotV, ↓wSkip, ↓wDrop, ↓fAdd, ↓fSub, ↓fMod, ↓fMul, ↓fMulA, ↓fDiv, ↓fEq, ↓fEqB, ↓fNe, ↓fCmp, ↓fI, ↓fIsN, ↓fNotN, ↓isNon, ↓fLen, ↓lenS, ↓fAbs, ↓fMax, ↓fMax2, ↓fMin, ↓fMin2, ↓fInt, ↓fIx, ↓fIn, ↓scV, ↓scVs, ↓wB, ↓wIsB, ↓wIsO, ↓kindT, ↓kindIs, ↓wFld, ↓atts, ↓wMeth, ↓wCallO, ↓wProp, ↓wSetA, ↓putA, ↓wNever, ↓gt, ↓st, ↓res_i, ↓res_b, ↓res_s, ↓res_n, ↓res_t, ↓res_l, ↓res_d, ↓res_c, ↓res_scr, ↓view_i, ↓view_b, ↓view_s, ↓view_n, ↓view_t, ↓view_l, ↓view_d, ↓view_c, ↓Rt.res, ↓Rt.view, ↓onS_some, ↓onS_none, ↓ro, ↓List.map_cons, ↓List.map_nil, ↓List.length_cons, ↓List.length_nil, ↓List.cons_append, ↓List.nil_append, ↓List.replicate_succ, ↓List.replicate_zero, Nat.reduceAdd, Nat.reduceSub, ↓Nat.add_zero, ↓Nat.zero_add, ↓Nat.sub_self, ↓so_inj, ↓so_beq, ↓at0, ↓at1, ↓at2, ↓at3, ↓gx0, ↓gx1, ↓gx2, ↓gx3, ↓nc0, ↓nc1, ↓nc2, ↓nc3, ↓nc4, ↓nc6, String.reduceBEq, ↓ix40, ↓ix41, ↓ix42, ↓set40, ↓set41, ↓set42, ↓List.set_set, ↓Bool.true_or, ↓Bool.or_true, ↓Bool.false_or, ↓Bool.or_false, ↓Bool.and_true, ↓Bool.true_and, ↓Bool.and_false, ↓Bool.false_and, ↓inV, ↓eqV, ↓List.any_cons, ↓List.any_nil, Int.reduceLE, Int.reduceLT, Int.reduceEq, String.reduceEq, ↓decide_true, ↓decide_false, ↓if_true, ↓if_false, ↓Bool.not_true, ↓Bool.not_false, reduceIte, ↓true_and, ↓and_true, ↓false_and, ↓and_false, ↓Bool.false_eq_true, ↓ite_true, ↓ite_false, reduceCtorEq, ↓gt_st, ↓st_length, Nat.reduceEqDiff, Nat.reduceLT, Int.reduceToNat, Int.reduceEq, ↓List.length_map, ↓List.append_nil, *])
section
variable (r : Rt) (s w0 : Int)
def wS : Nat → Int
  | 0 => w0
  | n + 1 => wS n + s - given r (wS n + s)
def gS : Nat → Int
  | 0 => 0
  | n + 1 => gS n + given r (wS r s w0 n + s)
def pS : Nat → Int
  | 0 => w0
  | n + 1 => max (pS n) (wS r s w0 n)
end
section
variable {r : Rt} {s w0 : Int} (ok : r.ok) (h0 : 0 ≤ w0) (h1 : w0 < thr r) (hs : 1 ≤ s)
include ok h0 h1 hs
theorem wS_in : ∀ n, 0 ≤ wS r s w0 n ∧ wS r s w0 n < thr r
  | 0 => ⟨h0, h1⟩
  | n + 1 => by
    have ih := wS_in n
    have a := given_in r (wS r s w0 n + s) ok (by omega)
    have b := rest_lt r (wS r s w0 n + s) ok (by omega)
    unfold wS
    omega
omit hs h1 in
theorem gS_in (h1 : w0 < thr r) (hs : 1 ≤ s) : ∀ n : Nat, 0 ≤ gS r s w0 n ∧ gS r s w0 n + wS r s w0 n = w0 + n * s
  | 0 => ⟨Int.le_refl _, by simp [gS, wS]⟩
  | n + 1 => by
    have ih := gS_in h1 hs n
    have w := wS_in ok h0 h1 hs n
    have a := given_in r (wS r s w0 n + s) ok (by omega)
    have e : ((n + 1 : Nat) : Int) * s = n * s + s := by rw [Int.natCast_add, Int.add_mul]; simp
    rw [e]
    unfold wS gS
    omega
theorem quiet {n : Nat} : ∀ k : Nat, wS r s w0 n + k * s < thr r → wS r s w0 (n + k) = wS r s w0 n + k * s ∧ gS r s w0 (n + k) = gS r s w0 n ∧ pS r s w0 (n + k) = (if k = 0 then pS r s w0 n else max (pS r s w0 n) (wS r s w0 n + k * s - s))
  | 0, _ => by simp
  | k + 1, h => by
    have e : ((k + 1 : Nat) : Int) * s = k * s + s := by rw [Int.natCast_add, Int.add_mul]; simp
    rw [e] at h ⊢
    obtain ⟨a, b, c⟩ := quiet (n := n) k (by omega)
    have w := wS_in ok h0 h1 hs (n + k)
    have z : given r (wS r s w0 (n + k) + s) = 0 := given_low r _ ok (by omega) (by rw [a]; omega)
    refine ⟨?_, ?_, ?_⟩
    · show wS r s w0 (n + k) + s - given r (wS r s w0 (n + k) + s) = _
      rw [z, a]; omega
    · show gS r s w0 (n + k) + given r (wS r s w0 (n + k) + s) = _
      rw [z, b]; omega
    · show max (pS r s w0 (n + k)) (wS r s w0 (n + k)) = _
      rw [if_neg (Nat.succ_ne_zero k), c, a]
      by_cases q : k = 0
      · subst q
        rw [if_pos rfl]
        have : ((0 : Nat) : Int) * s = 0 := by simp
        omega
      · rw [if_neg q]; omega
end
section
variable {r : Rt} {s w0 : Int} {d L : Nat}
theorem wS_shift (h : wS r s w0 (d + L) = wS r s w0 d) : ∀ j : Nat, wS r s w0 (d + L + j) = wS r s w0 (d + j) ∧ gS r s w0 (d + L + j) = gS r s w0 (d + j) + (gS r s w0 (d + L) - gS r s w0 d)
  | 0 => ⟨h, by simp; omega⟩
  | j + 1 => by
    obtain ⟨a, b⟩ := wS_shift h j
    refine ⟨?_, ?_⟩
    · show wS r s w0 (d + L + j) + s - given r (wS r s w0 (d + L + j) + s) = wS r s w0 (d + j) + s - given r (wS r s w0 (d + j) + s)
      rw [a]
    · show gS r s w0 (d + L + j) + given r (wS r s w0 (d + L + j) + s) = gS r s w0 (d + j) + given r (wS r s w0 (d + j) + s) + (gS r s w0 (d + L) - gS r s w0 d)
      rw [a, b]; omega
theorem wS_turns (h : wS r s w0 (d + L) = wS r s w0 d) : ∀ t : Nat, wS r s w0 (d + L + t * L) = wS r s w0 (d + L) ∧ gS r s w0 (d + L + t * L) = gS r s w0 (d + L) + t * (gS r s w0 (d + L) - gS r s w0 d)
  | 0 => by simp
  | t + 1 => by
    obtain ⟨a, b⟩ := wS_turns h t
    obtain ⟨c, e⟩ := wS_shift h (L + t * L)
    have n1 : d + L + (t + 1) * L = d + L + (L + t * L) := by rw [Nat.add_mul, Nat.one_mul]; omega
    have n2 : d + (L + t * L) = d + L + t * L := by omega
    rw [n1, c, e, n2, a, b]
    refine ⟨rfl, ?_⟩
    have z : ((t + 1 : Nat) : Int) * (gS r s w0 (d + L) - gS r s w0 d) = t * (gS r s w0 (d + L) - gS r s w0 d) + (gS r s w0 (d + L) - gS r s w0 d) := by rw [Int.natCast_add, Int.add_mul]; simp
    rw [z]
    omega
theorem pS_le : ∀ (n i : Nat), i < n → wS r s w0 i ≤ pS r s w0 n
  | n + 1, i, h => by
    show _ ≤ max (pS r s w0 n) (wS r s w0 n)
    by_cases e : i = n
    · subst e; omega
    · have := pS_le n i (by omega); omega
theorem pS_same {D : Nat} : ∀ j : Nat, (∀ i, i < j → wS r s w0 (D + i) ≤ pS r s w0 D) → pS r s w0 (D + j) = pS r s w0 D
  | 0, _ => rfl
  | j + 1, h => by
    have ih := pS_same j fun i hi => h i (by omega)
    show max (pS r s w0 (D + j)) (wS r s w0 (D + j)) = _
    rw [ih]
    have := h j (by omega)
    omega
theorem back_at (h : wS r s w0 (d + L) = wS r s w0 d) (hL : 0 < L) : ∀ (n i : Nat), i ≤ n → ∃ i', i' < d + L ∧ wS r s w0 (d + L + i) = wS r s w0 i'
  | n, i, hi => by
    by_cases z : i < L
    · exact ⟨d + i, by omega, (wS_shift h i).1⟩
    · match n with
      | 0 => omega
      | n + 1 =>
        obtain ⟨i', a, b⟩ := back_at h hL n (i - L) (by omega)
        refine ⟨i', a, ?_⟩
        rw [(wS_shift h i).1, ← b]
        congr 1
        omega
theorem pS_turns (h : wS r s w0 (d + L) = wS r s w0 d) (hL : 0 < L) (j : Nat) : pS r s w0 (d + L + j) = pS r s w0 (d + L) :=
  pS_same j fun i _ => by
    obtain ⟨i', a, b⟩ := back_at h hL i i (Nat.le_refl _)
    rw [b]
    exact pS_le _ _ a
end
theorem few_ints : ∀ (n : Nat) (l : List Int), l.Nodup → (∀ x, x ∈ l → 0 ≤ x ∧ x < n) → l.length ≤ n
  | 0, l, _, h => by
    cases l with
    | nil => exact Nat.le_refl _
    | cons x l => have := h x (by simp); omega
  | n + 1, l, nd, h => by
    have e := few_ints n (l.erase (n : Int)) (nd.erase _) fun x hx => by
      have a := h x (List.mem_of_mem_erase hx)
      have b : x ≠ (n : Int) := fun z => by
        subst z
        exact (nd.not_mem_erase) hx
      omega
    have := List.length_erase_le (a := (n : Int)) (l := l)
    have z : l.length ≤ (l.erase (n : Int)).length + 1 := by
      rw [List.length_erase]
      split <;> omega
    omega
def w_repeated_p1 : WS :=
  (wAsg (wOp fDIx (wVar 7) (wVar 1)) (wGTup 2 (wGCons (wName 10) (wGCons (wName 11) wGNil))))
def w_repeated_p2 : WS :=
  (wAsg (wOp fDiv (wOp fSub (wVar 3) (wVar 4)) (wOp fSub (wVar 4) (wVar 10))) (wName 12))
def w_repeated_p3 : WS :=
  (wAsg (wOp fAdd (wVar 5) (wOp fMulA (wVar 12) (wOp fSub (wVar 5) (wVar 11)))) (wName 5))
def w_repeated_p4 : WS :=
  (wPar 4 7 (wCons (wOp fAdd (wVar 4) (wOp fMulA (wVar 12) (wOp fSub (wVar 4) (wVar 10)))) (wCons wDNew wNil)))
def w_repeated_p5 : WS :=
  (wAsg (wB fMin (wCons (wOp fSub (wVar 3) (wVar 4)) (wCons (wOp fDiv (wOp fSub (wOp fSub (wProp "Rule" sp_Rule_threshold (wVar 0)) (wC (.int 1))) (wVar 1)) (wVar 2)) wNil))) (wName 8))
def w_repeated_p6 : WS :=
  (wPar 4 1 (wCons (wOp fAdd (wVar 4) (wVar 8)) (wCons (wOp fAdd (wVar 1) (wOp fMulA (wVar 8) (wVar 2))) wNil)))
def w_repeated_p7 : WS :=
  (wIfS (wTest (wOp fEq (wVar 4) (wVar 3))) (wRet (wTup (wCons (wVar 1) (wCons (wVar 5) (wCons (wB fMax (wCons (wVar 6) (wCons (wOp fSub (wVar 1) (wVar 2)) wNil))) wNil))))) wSkip)
def w_repeated_p8 : WS :=
  (wPar 6 9 (wCons (wB fMax (wCons (wVar 6) (wCons (wVar 1) wNil))) (wCons (wCallO "Rule" 2 sp_Rule_call (wVar 0) (wCons (wOp fAdd (wVar 1) (wVar 2)) wNil)) wNil)))
def w_repeated_p9 : WS :=
  (wPar3 4 5 1 (wCons (wOp fAdd (wVar 4) (wC (.int 1))) (wCons (wOp fAdd (wVar 5) (wVar 9)) (wCons (wOp fSub (wOp fAdd (wVar 1) (wVar 2)) (wVar 9)) wNil))))
def w_repeated_p10 : WS :=
  (wIfS (wTest (wOp (fDIn false) (wVar 1) (wVar 7))) (wSeq (w_repeated_p1) (wSeq (w_repeated_p2) (wSeq (w_repeated_p3) (w_repeated_p4)))) (wDPut (wVar 7) (wVar 1) (wTup (wCons (wVar 4) (wCons (wVar 5) wNil)))))
def w_repeated_loop1 : WS :=
  (wSeq (w_repeated_p5) (wSeq (w_repeated_p6) (wSeq (w_repeated_p7) (wSeq (w_repeated_p8) (wSeq (w_repeated_p9) (w_repeated_p10))))))
def w_repeated_0 : WS :=
  (wAsg (wTup (wCons (wC (.int 0)) (wCons (wC (.int 0)) (wCons (wVar 1) (wCons wDNew wNil))))) (wGTup 4 (wGCons (wName 4) (wGCons (wName 5) (wGCons (wName 6) (wGCons (wName 7) wGNil))))))
def w_repeated_1 : WS :=
  (wWhile (wTest (wOp (fCmp fun i j => decide (i < j)) (wVar 4) (wVar 3))) (w_repeated_loop1))
def w_repeated_2 : WS :=
  (wRet (wTup (wCons (wVar 1) (wCons (wVar 5) (wCons (wVar 6) wNil)))))
def w_repeated : WS :=
  (wSeq (w_repeated_0) (wSeq (w_repeated_1) (w_repeated_2)))
def n_repeated : List Str := ["rule", "withheld", "size", "many", "done", "given", "peak", "met", "quiet", "back", "elder_done", "elder_given", "times"]
def sp_repeated : FSp := fun ds S Q => ∃ (r : Rt) (w0 s : Int) (m : Nat), ds = [rule r, .int w0, .int s, .int m] ∧ r.ok ∧ r.num ≤ 6 ∧ r.le (10 ^ 34) ∧ 0 ≤ w0 ∧ w0 < thr r ∧ 1 ≤ s ∧ s ≤ 10 ^ 33 ∧ (m : Int) ≤ 10 ^ 33 ∧ lowS S ∧
  Q (.tup [.int (wS r s w0 m), .int (gS r s w0 m), .int (pS r s w0 m)]) S
section
variable {r : Rt} {s w0 : Int} {m : Nat} {S0 : Sto}
def ent (r : Rt) (s w0 : Int) (es : List Nat) : List (Key × D) := es.map fun e => (Sum.inl (wS r s w0 e), D.tup [.int e, .int (gS r s w0 e)])
theorem ent_some {x : Int} {d : D} : ∀ {es : List Nat}, valD (ent r s w0 es) (.inl x) = some d → ∃ e, e ∈ es ∧ wS r s w0 e = x ∧ d = .tup [.int e, .int (gS r s w0 e)]
  | [], h => nomatch h
  | e :: es, h => by
    by_cases z : wS r s w0 e = x
    · rw [ent, List.map_cons, valD_pos (by rw [z])] at h
      cases h
      exact ⟨e, by simp, z, rfl⟩
    · rw [ent, List.map_cons, valD_neg (by intro y; exact z (Sum.inl.inj y))] at h
      obtain ⟨e', a, b⟩ := ent_some (es := es) h
      exact ⟨e', by simp [a], b⟩
theorem ent_none {x : Int} : ∀ {es : List Nat}, valD (ent r s w0 es) (.inl x) = none → x ∉ es.map (wS r s w0) ∧ (ent r s w0 es).any (fun p => decide (p.1 = (Sum.inl x : Key))) = false
  | [], _ => ⟨by simp, rfl⟩
  | e :: es, h => by
    by_cases z : wS r s w0 e = x
    · rw [ent, List.map_cons, valD_pos (by rw [z])] at h
      cases h
    · rw [ent, List.map_cons, valD_neg (by intro y; exact z (Sum.inl.inj y))] at h
      obtain ⟨a, b⟩ := ent_none (es := es) h
      refine ⟨fun y => ?_, ?_⟩
      · rw [List.map_cons, List.mem_cons] at y
        rcases y with q | q
        · exact z q.symm
        · exact a q
      rw [ent, List.map_cons, List.any_cons, decide_eq_false (by intro y; exact z (Sum.inl.inj y)), Bool.false_or]
      exact b
structure Head (r : Rt) (s w0 : Int) (m : Nat) (S0 : Sto) (n : Nat) (ρ : Ro) (S : Sto) : Prop where
  nm : n ≤ m
  len : ρ.length = 13
  g0 : gt ρ 0 = some (rule r)
  g1 : gt ρ 1 = some (.int (wS r s w0 n))
  g2 : gt ρ 2 = some (.int s)
  g3 : gt ρ 3 = some (.int m)
  g4 : gt ρ 4 = some (.int n)
  g5 : gt ρ 5 = some (.int (gS r s w0 n))
  g6 : gt ρ 6 = some (.int (pS r s w0 n))
  met : ∃ (j : Nat) (es : List Nat), gt ρ 7 = some (.h j) ∧ S0.length ≤ j ∧ S[j]? = some (.dct (ent r s w0 es)) ∧ S.take S0.length = S0 ∧ S0.length ≤ S.length ∧ (∀ e, e ∈ es → e ≤ n) ∧ (es.map (wS r s w0)).Nodup ∧ ∀ e, e ∈ es → 0 ≤ wS r s w0 e ∧ wS r s w0 e < 6
theorem quiet_many {w t s k : Int} (hw : w < t) (hs : 1 ≤ s) (hk : 0 < k) : ∃ q : Nat, min k ((t - 1 - w) / s) = q ∧ (q : Int) ≤ k ∧ w + q * s < t ∧ ((q : Int) < k → t ≤ w + q * s + s) := by
  have a := Int.ediv_nonneg (show 0 ≤ t - 1 - w by omega) (show 0 ≤ s by omega)
  have b := Int.ediv_mul_le (t - 1 - w) (show s ≠ 0 by omega)
  have c := Int.lt_ediv_add_one_mul_self (t - 1 - w) (show 0 < s by omega)
  rw [Int.add_mul, Int.one_mul] at c
  by_cases z : k ≤ (t - 1 - w) / s
  · obtain ⟨q, hq⟩ := Int.eq_ofNat_of_zero_le (show 0 ≤ k by omega)
    refine ⟨q, by omega, by omega, ?_, by omega⟩
    have : (q : Int) * s ≤ (t - 1 - w) / s * s := Int.mul_le_mul_of_nonneg_right (by omega) (by omega)
    omega
  · obtain ⟨q, hq⟩ := Int.eq_ofNat_of_zero_le a
    rw [hq] at b c
    exact ⟨q, by omega, by omega, by omega, fun _ => by omega⟩
theorem rep_turn {n : Nat} {ρ : Ro} {S : Sto} {κ : WK} (ok : r.ok) (hn : r.num ≤ 6) (le : r.le (10 ^ 34)) (h0 : 0 ≤ w0) (h1 : w0 < thr r) (hs : 1 ≤ s) (s1 : s ≤ 10 ^ 33) (m1 : (m : Int) ≤ 10 ^ 33) (hd : Head r s w0 m S0 n ρ S) (hm : n < m)
    (nx : ∀ (n' : Nat) (ρ' : Ro) (S' : Sto), n < n' → Head r s w0 m S0 n' ρ' S' → κ.nx ρ' S')
    (rt : κ.rt (.tup [.int (wS r s w0 m), .int (gS r s w0 m), .int (pS r s w0 m)]) S) : w_repeated_loop1 κ ρ S := by
  obtain ⟨nm, len, g0, g1, g2, g3, g4, g5, g6, j, es, g7, hj, hS, ht, hl, e1, e2, e3⟩ := hd
  have w := wS_in ok h0 h1 hs n
  have t1 := thr_le (B := 10 ^ 34) (by decide) r ok le
  have ar : atts S "Rule" (rule r) = some ([("its_tree", r.d)] : List (Str × D)) := rfl
  obtain ⟨q, q1, q2, q3, q4⟩ := quiet_many w.2 hs (show (0 : Int) < (m : Int) - n by omega)
  obtain ⟨qw, qg, qp⟩ := quiet ok h0 h1 hs (n := n) q q3
  unfold w_repeated_loop1
  rw [wSeq]
  unfold w_repeated_p5
  simp only [wAsg, wB, wCons, wNil, wOp, wVar, wProp, wC, g0, g1, g2, g3, g4, onS_some, rule_res, res_i, ar, Option.isSome_some, true_and, fSub, fI, view_i, List.length_cons, List.length_nil]
  refine ⟨r, rfl, hn, ?_⟩
  simp only [wC, fSub, fI, view_i, true_and, fDiv, g1, g2, onS_some, res_i, fMin, fMin2]
  refine ⟨divW (by omega) (sm (by omega) (by omega)), ?_⟩
  have eq : (if (thr r - 1 - wS r s w0 n) / s < (m : Int) - n then (thr r - 1 - wS r s w0 n) / s else (m : Int) - n) = (q : Int) := by split <;> omega
  rw [eq]
  show wSeq w_repeated_p6 (wSeq w_repeated_p7 (wSeq w_repeated_p8 (wSeq w_repeated_p9 w_repeated_p10))) κ (st ρ 8 (some (.int q))) S
  rw [wSeq]
  unfold w_repeated_p6
  simp only [wPar, wCons, wNil, wOp, wVar, gt_st, len, g1, g2, g4, Nat.reduceEqDiff, Nat.reduceLT, and_true, and_false, false_and, if_false, if_true, true_and, onS_some, res_i, fAdd, fMulA, view_i]
  refine ⟨mulW (sm (by omega) (by omega)) (sm (by omega) (by omega)), ?_⟩
  have a4 : (n : Int) + q = ((n + q : Nat) : Int) := by omega
  rw [a4, ← qw]
  generalize hρ : st (st (st ρ 8 (some (D.int q))) 4 (some (.int ((n + q : Nat) : Int)))) 1 (some (.int (wS r s w0 (n + q)))) = ρ2
  have len2 : ρ2.length = 13 := by rw [← hρ]; simp only [st_length]; exact len
  have k (i : Nat) (hi : i ≠ 8) (hi4 : i ≠ 4) (hi1 : i ≠ 1) : gt ρ2 i = gt ρ i := by rw [← hρ, gt_put hi1.symm, gt_put hi4.symm, gt_put hi.symm]
  have k1 : gt ρ2 1 = some (.int (wS r s w0 (n + q))) := by rw [← hρ]; exact gt_own (by simp only [st_length, len]; decide)
  have k4 : gt ρ2 4 = some (.int ((n + q : Nat) : Int)) := by rw [← hρ, gt_put (by decide)]; exact gt_own (by simp only [st_length, len]; decide)
  have k0 : gt ρ2 0 = some (rule r) := by rw [k 0 (by decide) (by decide) (by decide)]; exact g0
  have k2 : gt ρ2 2 = some (.int s) := by rw [k 2 (by decide) (by decide) (by decide)]; exact g2
  have k3 : gt ρ2 3 = some (.int m) := by rw [k 3 (by decide) (by decide) (by decide)]; exact g3
  have k5 : gt ρ2 5 = some (.int (gS r s w0 n)) := by rw [k 5 (by decide) (by decide) (by decide)]; exact g5
  have k6 : gt ρ2 6 = some (.int (pS r s w0 n)) := by rw [k 6 (by decide) (by decide) (by decide)]; exact g6
  have k7 : gt ρ2 7 = some (.h j) := by rw [k 7 (by decide) (by decide) (by decide)]; exact g7
  clear k hρ g0 g1 g2 g3 g4 g5 g6 g7 len
  show wSeq w_repeated_p7 (wSeq w_repeated_p8 (wSeq w_repeated_p9 w_repeated_p10)) κ ρ2 S
  rw [wSeq]
  unfold w_repeated_p7
  have w2 := wS_in ok h0 h1 hs (n + q)
  by_cases last : n + q = m
  · have d1 : decide (((n + q : Nat) : Int) = (m : Int)) = true := decide_eq_true (by omega)
    have q0 : q ≠ 0 := by omega
    rw [if_neg q0] at qp
    simp only [wIfS, wTest, wOp, wVar, k1, k2, k3, k4, k5, k6, onS_some, res_i, fEq, fEqB, view_i, d1, if_true, wRet, wTup, wCons, wNil, wB, fSub, fI, fMax, fMax2, true_and, List.length_cons, List.length_nil, Nat.reduceAdd, lm3]
    have e : (if wS r s w0 (n + q) - s > pS r s w0 n then wS r s w0 (n + q) - s else pS r s w0 n) = pS r s w0 m := by
      rw [← last, qp, qw]; split <;> omega
    rw [e, ← qg, last]
    exact rt
  have d1 : decide (((n + q : Nat) : Int) = (m : Int)) = false := decide_eq_false (by omega)
  simp only [wIfS, wTest, wOp, wVar, k3, k4, onS_some, res_i, fEq, fEqB, view_i, d1, Bool.false_eq_true, if_false, wSkip]
  have loud := q4 (by omega)
  rw [← qw] at loud
  -- the loud one
  have gi := given_in r (wS r s w0 (n + q) + s) ok (by omega)
  obtain ⟨gh, u, hu, eu⟩ := given_high r (wS r s w0 (n + q) + s) ok (by omega)
  have hu2 := parts_in r ok u hu
  have small : wS r s w0 (n + q + 1) < 6 := by
    have := Int.emod_lt_of_pos (wS r s w0 (n + q) + s) (show 0 < u by omega)
    show wS r s w0 (n + q) + s - given r (wS r s w0 (n + q) + s) < 6
    omega
  have w3 := wS_in ok h0 h1 hs (n + q + 1)
  rw [wSeq]
  unfold w_repeated_p8
  simp only [wPar, wB, wCallO, wCons, wNil, wOp, wVar, k0, k1, k2, k6, onS_some, res_i, rule_res, fMax, fMax2, fAdd, view_i, ar, Option.isSome_some, true_and, List.length_cons, List.length_nil, Nat.reduceAdd]
  refine ⟨r, _, rfl, ok, hn, ?_⟩
  have ep : (if wS r s w0 (n + q) > pS r s w0 n then wS r s w0 (n + q) else pS r s w0 n) = pS r s w0 (n + q + 1) := by
    show _ = max (pS r s w0 (n + q)) (wS r s w0 (n + q))
    rw [qp, qw]
    have : ((0 : Nat) : Int) * s = 0 := by simp
    by_cases z : q = 0
    · rw [if_pos z]; split <;> omega
    · rw [if_neg z]; split <;> omega
  rw [ep]
  show wSeq w_repeated_p9 w_repeated_p10 κ (st (st ρ2 6 (some (.int (pS r s w0 (n + q + 1))))) 9 (some (.int (given r (wS r s w0 (n + q) + s))))) S
  rw [wSeq]
  unfold w_repeated_p9
  simp only [wPar3, wCons, wNil, wOp, wVar, wC, gt_st, st_length, len2, k1, k2, k4, k5, Nat.reduceEqDiff, Nat.reduceLT, and_true, and_false, false_and, if_false, if_true, true_and, onS_some, res_i, fAdd, fSub, fI, view_i]
  have b4 : ((n + q : Nat) : Int) + 1 = ((n + q + 1 : Nat) : Int) := by omega
  have b5 : gS r s w0 n + given r (wS r s w0 (n + q) + s) = gS r s w0 (n + q + 1) := by
    show _ = gS r s w0 (n + q) + given r (wS r s w0 (n + q) + s)
    rw [qg]
  have b1 : wS r s w0 (n + q) + s - given r (wS r s w0 (n + q) + s) = wS r s w0 (n + q + 1) := rfl
  rw [b4, b5, b1]
  generalize hρ : st (st (st (st (st ρ2 6 (some (D.int (pS r s w0 (n + q + 1))))) 9 (some (.int (given r (wS r s w0 (n + q) + s))))) 4 (some (.int ((n + q + 1 : Nat) : Int)))) 5 (some (.int (gS r s w0 (n + q + 1))))) 1 (some (.int (wS r s w0 (n + q + 1)))) = ρ3
  have len3 : ρ3.length = 13 := by rw [← hρ]; simp only [st_length]; exact len2
  have l0 : gt ρ3 0 = some (rule r) := by rw [← hρ, gt_put (by decide), gt_put (by decide), gt_put (by decide), gt_put (by decide), gt_put (by decide)]; exact k0
  have l1 : gt ρ3 1 = some (.int (wS r s w0 (n + q + 1))) := by rw [← hρ]; exact gt_own (by simp only [st_length, len2]; decide)
  have l2 : gt ρ3 2 = some (.int s) := by rw [← hρ, gt_put (by decide), gt_put (by decide), gt_put (by decide), gt_put (by decide), gt_put (by decide)]; exact k2
  have l3 : gt ρ3 3 = some (.int m) := by rw [← hρ, gt_put (by decide), gt_put (by decide), gt_put (by decide), gt_put (by decide), gt_put (by decide)]; exact k3
  have l4 : gt ρ3 4 = some (.int ((n + q + 1 : Nat) : Int)) := by rw [← hρ, gt_put (by decide), gt_put (by decide)]; exact gt_own (by simp only [st_length, len2]; decide)
  have l5 : gt ρ3 5 = some (.int (gS r s w0 (n + q + 1))) := by rw [← hρ, gt_put (by decide)]; exact gt_own (by simp only [st_length, len2]; decide)
  have l6 : gt ρ3 6 = some (.int (pS r s w0 (n + q + 1))) := by rw [← hρ, gt_put (by decide), gt_put (by decide), gt_put (by decide), gt_put (by decide)]; exact gt_own (by simp only [len2]; decide)
  have l7 : gt ρ3 7 = some (.h j) := by rw [← hρ, gt_put (by decide), gt_put (by decide), gt_put (by decide), gt_put (by decide), gt_put (by decide)]; exact k7
  clear hρ k0 k1 k2 k3 k4 k5 k6 k7 len2
  show w_repeated_p10 κ ρ3 S
  have vj := view_hd hS
  have rj := res_hd hS
  have hjl : j < S.length := (List.getElem?_eq_some_iff.mp hS).1
  unfold w_repeated_p10
  simp only [wIfS, wTest, wOp, wVar, l1, l7, onS_some, res_i, rj, fDIn, keyD, vj, dctD, Bool.false_eq_true, if_false]
  cases hv : valD (ent r s w0 es) (.inl (wS r s w0 (n + q + 1))) with
  | none =>
    obtain ⟨ne, na⟩ := ent_none hv
    simp only [Option.isSome_none, Bool.false_eq_true, if_false, wDPut, wTup, wCons, wNil, wVar, l1, l4, l5, l7, onS_some, res_i, rj, keyD, hS, List.length_cons, List.length_nil, Nat.reduceAdd, lm2, true_and]
    have nd : ((es ++ [n + q + 1]).map (wS r s w0)).Nodup := by
      rw [List.map_append, List.nodup_append]
      refine ⟨e2, by simp, fun a ha b hb => ?_⟩
      simp only [List.map_cons, List.map_nil, List.mem_singleton] at hb
      subst hb
      intro z
      subst z
      exact ne ha
    have few : (es.map (wS r s w0)).length ≤ 6 := few_ints 6 _ e2 fun x hx => by
      obtain ⟨e, he, rfl⟩ := List.mem_map.mp hx
      exact e3 e he
    refine ⟨by rw [ent, List.length_map]; rw [List.length_map] at few; unfold LIM; omega, ?_⟩
    have ep : putD (ent r s w0 es) (.inl (wS r s w0 (n + q + 1))) (.tup [.int ((n + q + 1 : Nat) : Int), .int (gS r s w0 (n + q + 1))]) = ent r s w0 (es ++ [n + q + 1]) := by
      unfold putD
      rw [na, if_neg (by decide)]
      simp [ent]
    rw [ep]
    refine nx (n + q + 1) ρ3 _ (by omega) ⟨by omega, len3, l0, l1, l2, l3, l4, l5, l6, j, es ++ [n + q + 1], l7, hj, by rw [List.getElem?_set_self hjl], by rw [List.take_set_of_le hj]; exact ht, by rw [List.length_set]; exact hl, fun e he => ?_, nd, fun e he => ?_⟩
    · rcases List.mem_append.mp he with h | h
      · have := e1 e h; omega
      · simp at h; omega
    · rcases List.mem_append.mp he with h | h
      · exact e3 e h
      · simp only [List.mem_singleton] at h; subst h; exact ⟨w3.1, small⟩
  | some d =>
    obtain ⟨e, he, we, rfl⟩ := ent_some hv
    have he1 := e1 e he
    obtain ⟨L, hL⟩ : ∃ L : Nat, n + q + 1 = e + L := ⟨n + q + 1 - e, by omega⟩
    have L0 : 0 < L := by omega
    simp only [Option.isSome_some, if_true]
    have per : wS r s w0 (e + L) = wS r s w0 e := by rw [← hL]; exact we.symm
    have dl : ((n + q + 1 : Nat) : Int) - (e : Int) = (L : Int) := by omega
    obtain ⟨t, ht'⟩ := Int.eq_ofNat_of_zero_le (Int.ediv_nonneg (show (0 : Int) ≤ (m : Int) - ((n + q + 1 : Nat) : Int) by omega) (show (0 : Int) ≤ (L : Int) by omega))
    have tm := Int.ediv_mul_le ((m : Int) - ((n + q + 1 : Nat) : Int)) (show (L : Int) ≠ 0 by omega)
    rw [ht'] at tm
    have tm2 : ((t * L : Nat) : Int) = (t : Int) * (L : Int) := by simp
    have tle : (t : Int) ≤ (t : Int) * (L : Int) := by
      have := Int.mul_le_mul_of_nonneg_left (show (1 : Int) ≤ (L : Int) by omega) (show (0 : Int) ≤ (t : Int) by omega)
      omega
    obtain ⟨tw, tg⟩ := wS_turns per t
    have tp := pS_turns per L0 (t * L)
    rw [← hL] at tw tg tp
    have gn := gS_in ok h0 h1 hs (n + q + 1)
    have ge := gS_in ok h0 h1 hs e
    have we0 := wS_in ok h0 h1 hs e
    have mul1 : ((n + q + 1 : Nat) : Int) * s ≤ 10 ^ 33 * 10 ^ 33 := Int.mul_le_mul (by omega) s1 (by omega) (by decide)
    have mul2 : (e : Int) * s ≤ 10 ^ 33 * 10 ^ 33 := Int.mul_le_mul (by omega) s1 (by omega) (by decide)
    rw [wSeq]
    unfold w_repeated_p1
    simp only [wAsg, wOp, wVar, wGTup, wGCons, wGNil, wName, l1, l7, onS_some, res_i, rj, fDIx, vj, dctD, keyD, hv, view_t, List.length_cons, List.length_nil, Nat.reduceAdd, true_and]
    rw [wSeq]
    unfold w_repeated_p2
    simp only [wAsg, wOp, wVar, wName, gt_st, st_length, len3, l3, l4, Nat.reduceEqDiff, Nat.reduceLT, and_true, and_false, false_and, if_false, if_true, true_and, onS_some, res_i, fSub, fDiv, fI, view_i, dl]
    refine ⟨divW (by omega) (sm (by omega) (by omega)), ?_⟩
    rw [ht', wSeq]
    unfold w_repeated_p3
    simp only [wAsg, wOp, wVar, wName, gt_st, st_length, len3, l5, Nat.reduceEqDiff, Nat.reduceLT, and_true, and_false, false_and, if_false, if_true, true_and, onS_some, res_i, fAdd, fSub, fMulA, fI, view_i]
    refine ⟨mulW (sm (by omega) (by omega)) (sm (by omega) (by omega)), ?_⟩
    unfold w_repeated_p4
    simp only [wPar, wCons, wNil, wDNew, wOp, wVar, gt_st, st_length, len3, l4, Nat.reduceEqDiff, Nat.reduceLT, and_true, and_false, false_and, if_false, if_true, true_and, onS_some, res_i, fAdd, fSub, fMulA, fI, view_i, dl]
    refine ⟨mulW (sm (by omega) (by omega)) (sm (by omega) (by omega)), ?_⟩
    have c4 : ((n + q + 1 : Nat) : Int) + t * L = ((n + q + 1 + t * L : Nat) : Int) := by rw [Int.natCast_add (n + q + 1), tm2]
    rw [c4, ← tg]
    generalize hρ : st (st (st (st (st (st ρ3 10 (some (D.int e))) 11 (some (.int (gS r s w0 e)))) 12 (some (.int t))) 5 (some (.int (gS r s w0 (n + q + 1 + t * L))))) 4 (some (.int ((n + q + 1 + t * L : Nat) : Int)))) 7 (some (.h S.length)) = ρ4
    refine nx (n + q + 1 + t * L) ρ4 _ (by omega) ⟨by omega, ?_, ?_, ?_, ?_, ?_, ?_, ?_, ?_, S.length, [], ?_, hl, ?_, ?_, ?_, by simp, by simp, by simp⟩
    · rw [← hρ]; simp only [st_length]; exact len3
    · rw [← hρ, gt_put (by decide), gt_put (by decide), gt_put (by decide), gt_put (by decide), gt_put (by decide), gt_put (by decide)]; exact l0
    · rw [← hρ, gt_put (by decide), gt_put (by decide), gt_put (by decide), gt_put (by decide), gt_put (by decide), gt_put (by decide), tw]; exact l1
    · rw [← hρ, gt_put (by decide), gt_put (by decide), gt_put (by decide), gt_put (by decide), gt_put (by decide), gt_put (by decide)]; exact l2
    · rw [← hρ, gt_put (by decide), gt_put (by decide), gt_put (by decide), gt_put (by decide), gt_put (by decide), gt_put (by decide)]; exact l3
    · rw [← hρ, gt_put (by decide)]; exact gt_own (by simp only [st_length, len3]; decide)
    · rw [← hρ, gt_put (by decide), gt_put (by decide)]; exact gt_own (by simp only [st_length, len3]; decide)
    · rw [← hρ, gt_put (by decide), gt_put (by decide), gt_put (by decide), gt_put (by decide), gt_put (by decide), gt_put (by decide), tp]; exact l6
    · rw [← hρ]; exact gt_own (by simp only [st_length, len3]; decide)
    · rw [List.getElem?_append_right (Nat.le_refl _), Nat.sub_self]; rfl
    · rw [List.take_append_of_le_length hl]; exact ht
    · rw [List.length_append]; omega
end
theorem law_repeated (ds : List D) (S : Sto) (Φ : D → Sto → Prop) (h : sp_repeated ds S Φ) : w_repeated { nx := fun _ S' => Cut S.length Φ .non S', rt := Cut S.length Φ } (ro n_repeated ds) S := by
  obtain ⟨r, w0, s, m, rfl, ok, hn, le, h0, h1, hs, s1, m1, ls, q⟩ := h
  have fin : ∀ S' : Sto, S'.take S.length = S → S.length ≤ S'.length → Cut S.length Φ (.tup [.int (wS r s w0 m), .int (gS r s w0 m), .int (pS r s w0 m)]) S' := fun S' ht hl => by
    refine ⟨by simp [low, lows], fun k mm hk hm => ?_, by rw [ht]; exact q⟩
    have e : S[k]? = some mm := by
      rw [← ht, List.getElem?_take_of_lt hk]; exact hm
    exact ls k mm hk e
  unfold w_repeated n_repeated
  rw [wSeq]
  unfold w_repeated_0
  simp only [wAsg, wTup, wCons, wNil, wC, wVar, wDNew, wGTup, wGCons, wGNil, wName, ro, List.map_cons, List.map_nil, List.length_cons, List.length_nil, List.cons_append, List.nil_append, gt, st, onS_some, res_i, view_t, Nat.reduceAdd, Nat.reduceSub, List.replicate_succ, List.replicate_zero, lm4, true_and]
  rw [wSeq]
  unfold w_repeated_1
  refine ⟨fun mm ρ S' => ∃ n, mm = m - n ∧ Head r s w0 m S n ρ S', ⟨m, 0, rfl, ?_⟩, ?_⟩
  · refine ⟨Nat.zero_le _, rfl, rfl, rfl, rfl, rfl, rfl, rfl, rfl, S.length, [], rfl, Nat.le_refl _, ?_, ?_, ?_, by simp, by simp, by simp⟩
    · rw [List.getElem?_append_right (Nat.le_refl _), Nat.sub_self]; rfl
    · rw [List.take_left]
    · rw [List.length_append]; omega
  · rintro mm ρ S' ⟨n, rfl, hd⟩
    obtain ⟨j, es, _, _, _, ht, hl, _⟩ := hd.met
    simp only [wTest, wOp, wVar, hd.g3, hd.g4, onS_some, res_i, fCmp, fI, view_i, true_and]
    by_cases z : n < m
    · have d1 : decide ((n : Int) < (m : Int)) = true := decide_eq_true (by omega)
      simp only [d1, if_true]
      exact rep_turn ok hn le h0 h1 hs s1 m1 hd z (fun n' ρ' S2 hn' hd' => ⟨m - n', by have := hd'.nm; omega, n', rfl, hd'⟩) (fin S' ht hl)
    · have d1 : decide ((n : Int) < (m : Int)) = false := decide_eq_false (by omega)
      have e : n = m := by have := hd.nm; omega
      subst e
      simp only [d1, Bool.false_eq_true, if_false]
      unfold w_repeated_2
      simp only [wRet, wTup, wCons, wNil, wVar, hd.g1, hd.g5, hd.g6, onS_some, res_i, List.length_cons, List.length_nil, Nat.reduceAdd, lm3, true_and]
      exact fin S' ht hl
end Sq
set_option maxHeartbeats 4000000
namespace Sq
open PySem PySem.Spec PyProof.Rows L2
section
variable {X : Cx}
theorem addI_ok {pn : List (Addr × Obj)} {σ : L2.St} {G : Hp} {z : Shared} {E : Value → Shared → Prop} {D : Addr} {S : Int → Bool} {n : Nat} {k : Int} {tk : Tok} {Q : Value → Shared → Prop} (J : Inv X pn σ G z) (hD : G D = some (SetO X.w D S n)) (room : n + 1 < scanBound)
    (h : ∀ z', Inv X pn σ (upd G D (SetO X.w D (fun j => S j || decide (j = k)) (if S k = true then n else n + 1))) z' → Q .none z') : wpAny (model X.prog X.w) X.A (call (.builtin "set.add") [.ref D, .int k tk]) Q E z := by
  refine setR_add (setO_get J hD) room fun h' sb new => ?_
  obtain ⟨o, _, _, _, ho, _⟩ := id new
  exact h _ (J.write (e := D) (t' := z.toks + 1) (by rw [hD]; trivial) (.inl rfl) (fun b u hb hu => (sb.2 b hb).trans hu) ⟨o, ho⟩ (setO_new new))
def tScI (w : World) (wi : TI) (g : TG) (tt : TT) (te : TE) (vs : List Nat) : TE := fun σ G Q => wi σ G fun J G1 => ∀ D, G1 D = none → ∃ W : Nat → Nat → Hp → Prop, (∃ m, W 0 m (upd G1 D (SetO w D (fun _ => false) 0))) ∧ ∀ i m F, W i m F →
  (J.stop i F ∧ Q (.ref D) F) ∨ (J.go i F ∧ ∃ Nx : Hp → Prop, (∀ F', Nx F' → ∃ m', m' < m ∧ W (i + 1) m' F') ∧ ∀ x F', J.yld i F x F' → g x (wipe σ vs) F' fun σ2 F2 => wipe σ2 vs = wipe σ vs ∧ tt σ2 F2 fun b F3 =>
    if b = true then te σ2 F3 fun y F4 => ∃ (c : Int) (S : Int → Bool) (n : Nat), y = .int c ∧ F4 D = some (SetO w D S n) ∧ n + 1 < scanBound ∧ Nx (upd F4 D (SetO w D (fun j => S j || decide (j = c)) (if S c = true then n else n + 1))) else Nx F3)
theorem pe_scI {elt tg iter : Expr} {ifs : List Expr} {scope : Scope} {own : List (PySem.Str × Nat)} {pos : Pos} {wi : TI} {g : TG} {tt : TT} {te : TE} (calm : X.calm = true) (nod : X.N.Nodup) (pi : PI X tg iter wi) (bo : BlkOk X.N X.env.scope scope own)
    (pgs : ∀ (z : Shared) (G : Hp) (C : Addr) (cl : List (PySem.Str × Addr)) (fp : List Addr), PG (X.blk z G scope (compEnvC scope cl C X.env) fp) tg g)
    (pts : ∀ (z : Shared) (G : Hp) (C : Addr) (cl : List (PySem.Str × Addr)) (fp : List Addr), PTs (X.blk z G scope (compEnvC scope cl C X.env) fp) ifs tt)
    (pes : ∀ (z : Shared) (G : Hp) (C : Addr) (cl : List (PySem.Str × Addr)) (fp : List Addr), PE (X.blk z G scope (compEnvC scope cl C X.env) fp) elt te)
    (fo : ∀ x, foldedSetIterable iter X.env x = pure x := by intro _; rfl) :
    PE X (.SetComp elt [⟨tg, iter, ifs, 0⟩] scope pos) (tScI X.w wi g tt te (own.map (·.2))) := by
  refine ⟨fun pn z σ G Q J hw => ?_⟩
  rw [PpSet.eval_SetComp]
  have fre : ∀ y ∈ scope.names, y.2 = .free → ∃ c, X.env.cells.lookup y.1 = some c := fun y hy e => by
    cases bo.free y hy e with
    | inl k => exact J.ok.has _ (.inl k)
    | inr k => exact J.ok.has _ (.inr k)
  refine wpAny_comprehension_free rfl fo (closure_ok fre) bo.kind (fun y hy e => by rw [bo.uniq y hy, e]) (thn (pi.run pn z σ G _ J hw) fun xv z1 hx => thn hx fun itv z2 h2 => ?_)
  obtain ⟨it, fp, tn, V, G2, rfl, J2, T, st2, f2, q⟩ := h2
  refine PpSet.newSet_ok (newEnv_comp ?_)
  generalize hD : z2.heap.objs.size = D
  have hDn : G2 D = none := J2.hok.fresh (Nat.le_of_eq hD)
  obtain ⟨W, ⟨m0, w0⟩, turn⟩ := q D hDn
  generalize hz3 : ({ z2 with heap := z2.heap.push { cls := .type "set", dict := none, data := .set #[] 0 (.fresh 0 0 (!X.w.params.followText "set-order")) } } : Shared) = z3
  have hp3 : z3.heap = z2.heap.push { cls := .type "set", dict := none, data := .set #[] 0 (.fresh 0 0 (!X.w.params.followText "set-order")) } := by subst hz3; rfl
  have J3 : Inv X pn σ (upd G2 D (SetO X.w D (fun _ => false) 0)) z3 := by
    subst hz3
    subst hD
    exact J2.laid (t' := z2.toks) (fun b o e => Heap.get?_push_of_some _ e) (Nat.le_refl _) (setO_new (setR_fresh X.w))
  have small : ∀ b ∈ fp, b < z2.heap.objs.size := fun b hb => Heap.lt_size (T.obj _ _ st2 b hb).choose_spec.1
  have f3 : ∀ b ∈ fp, FpOk X pn (upd G2 D (SetO X.w D (fun _ => false) 0)) b ∧ b < z3.heap.objs.size := fun b hb => by
    refine ⟨⟨?_, (f2 b hb).2⟩, by rw [hp3, Heap.size_push]; exact Nat.lt_succ_of_lt (small b hb)⟩
    rw [upd_ne (by subst hD; exact Nat.ne_of_lt (small b hb))]
    exact (f2 b hb).1
  have st3 : tn 0 z3.heap := T.keep _ _ _ st2 fun b _ o e => by rw [hp3]; exact Heap.get?_push_of_some _ e
  have J4 := block_start J3 bo nod f3
  have pg := pgs z3 (upd G2 D (SetO X.w D (fun _ => false) 0)) z3.heap.objs.size (cellsFrom (z3.heap.objs.size + 1) scope.names (cloFrom X.env.cells scope.names [])) fp
  have pt := pts z3 (upd G2 D (SetO X.w D (fun _ => false) 0)) z3.heap.objs.size (cellsFrom (z3.heap.objs.size + 1) scope.names (cloFrom X.env.cells scope.names [])) fp
  have pe := pes z3 (upd G2 D (SetO X.w D (fun _ => false) 0)) z3.heap.objs.size (cellsFrom (z3.heap.objs.size + 1) scope.names (cloFrom X.env.cells scope.names [])) fp
  have nfp : ∀ b ∈ fp, (upd G2 D (SetO X.w D (fun _ => false) 0)) b = none := fun b hb => (f3 b hb).1.1
  show codeAny _ _ (.compStart _ 0 (.ref it) (.ref D) (compEnvC scope (cellsFrom (z3.heap.objs.size + 1) scope.names (cloFrom X.env.cells scope.names [])) z3.heap.objs.size X.env)) _ { z3 with heap := pushCells (z3.heap.push { cls := .type "dict", data := .dict #[] }) scope.names }
  generalize hce : compEnvC scope (cellsFrom (z3.heap.objs.size + 1) scope.names (cloFrom X.env.cells scope.names [])) z3.heap.objs.size X.env = ce at J4 pg pt pe ⊢
  have cL : ce.locals = z3.heap.objs.size := by rw [← hce]; rfl
  generalize hG3 : upd G2 D (SetO X.w D (fun _ => false) 0) = G3 at J3 J4 pg pt pe w0 nfp f3
  generalize hz4 : ({ z3 with heap := pushCells (z3.heap.push { cls := .type "dict", data := .dict #[] }) scope.names } : Shared) = z4 at J4 ⊢
  have st4 : tn 0 z4.heap := T.keep _ _ _ st3 fun b _ o e => by subst hz4; exact pushCells_keeps _ _ _ _ (Heap.get?_push_of_some _ e)
  have stat : ∀ {σ' : L2.St} {F : Hp} {z' : Shared}, Inv (X.blk z3 G3 scope ce fp) [] σ' F z' → (∀ b ∈ fp, F b = none) → ∀ b ∈ fp, FpOk (X.blk z3 G3 scope ce fp) [] F b := fun {σ' F z'} L hn b hb =>
    ⟨hn b hb, (L.ok.exf b hb).1, L.ok.exfs b hb, .inl hb, fun x c e => (L.ok.exf b hb).2 x c e, fun p hp => nomatch (show p ∈ ([] : List (Addr × Obj)) from hp)⟩
  have loop : codeAny (model X.prog X.w) X.A (.compLoop (.SetComp elt [⟨tg, iter, ifs, 0⟩] scope pos) 0 (.ref it) (.ref D) ce) (compPost (model X.prog X.w) X.A X.xe none (EP X pn σ Q) (.ref D) z3.heap.objs.size) z4 := by
    refine PpSet.compLoopS_any (fun n z' => ∃ i F, Inv (X.blk z3 G3 scope ce fp) [] (wipe σ (own.map (·.2))) F z' ∧ tn i z'.heap ∧ (∀ b ∈ fp, F b = none) ∧ W i n F) ?_ m0 ⟨0, G3, J4, st4, nfp, w0⟩
    rintro n z5 ⟨i, G5, J5, st5, n5, w5⟩
    rcases turn i n G5 w5 with ⟨stop, qq⟩ | ⟨go, Nx, hNx, step⟩
    · refine thnF (T.done (X.blk z3 G3 scope ce fp) rfl rfl rfl calm i [] z5 _ G5 (fun _ _ => False) J5 (stat J5 n5) st5 stop) fun r z6 ⟨hr, J6⟩ => ?_
      subst hr
      have J7 : Inv X pn σ G5 z6 := J3.call' (ch := fp) J6.os J6.base J6.hok J6.bare fun b hb => ⟨(f3 b hb).1.2.2.2.1, (f3 b hb).1.2.1, (f3 b hb).1.2.2.2.2.1, (f3 b hb).1.2.2.2.2.2⟩
      have nC : G5 z3.heap.objs.size = none := by rw [← cL]; exact J6.free
      obtain ⟨m, hn, _⟩ := J6.loc
      have hn' : z6.heap.Ns z3.heap.objs.size m := by rw [← cL]; exact hn
      obtain ⟨c0, c1, c2, c3, c4, c5⟩ := J3.fpOk (Nat.le_refl _) nC
      exact ⟨m, hn', fun h'' sb => ⟨.ref D, G5, J7.turned (t' := z6.toks) (fun b o hb e => (sb.2 b hb).trans e) c0 c1 c3 c4 c5, rfl, qq⟩⟩
    · refine thnF (T.item (X.blk z3 G3 scope ce fp) rfl rfl rfl calm i [] z5 _ G5 (fun _ _ => False) J5 (stat J5 n5) st5 go) fun r z6 ⟨u, hr, h6⟩ => ?_
      subst hr
      refine thnF h6 fun _ z7 ⟨x, G7, J7, r7, y7, st7, n7⟩ => ?_
      have J7' := J7.pinned (stat J7 n7) (T.obj _ _ st7)
      refine thnF (pg.run _ z7 _ G7 x u _ J7' r7 (step x G7 y7)) fun _ z8 ⟨σ8, G8, J8, hw8, q8⟩ => ?_
      refine thnF (pt.run _ z8 σ8 G8 _ J8 q8) fun b z9 ⟨G9, J9, q9⟩ => ?_
      have fin : ∀ {z' : Shared} {F : Hp}, Inv (X.blk z3 G3 scope ce fp) ([] ++ pinsAt fp z7.heap) σ8 F z' → Nx F → ∃ m, m < n ∧ ∃ i F, Inv (X.blk z3 G3 scope ce fp) [] (wipe σ (own.map (·.2))) F z' ∧ tn i z'.heap ∧ (∀ b ∈ fp, F b = none) ∧ W i m F := fun {z' F} L nx => by
        obtain ⟨m', hm, w'⟩ := hNx F nx
        have pin' : ∀ b ∈ fp, ∀ o, z7.heap.get? b = some o → z'.heap.get? b = some o ∧ F b = none := fun b hb o e =>
          let y := L.pin (b, o) (List.mem_append_right _ (List.mem_append_right _ (mem_pinsAt hb e)))
          ⟨y.1, y.2.1⟩
        have hl : (wipe σ (own.map (·.2))).length = σ8.length := by rw [← hw8, wipe_length]
        refine ⟨m', hm, i + 1, F, (L.unpinned (pins := [])).weak hl (fun j v e => ?_), T.keep _ _ _ st7 fun b hb o e => (pin' b hb o e).1, fun b hb => ?_, w'⟩
        · rw [← hw8] at e; exact (wipe_some e).1
        · obtain ⟨o, e, _⟩ := T.obj _ _ st7 b hb; exact (pin' b hb o e).2
      cases b with
      | false =>
        simp only [Bool.false_eq_true, if_false] at q9 ⊢
        exact fin J9 q9
      | true =>
        simp only [if_true] at q9 ⊢
        refine thnF (pe.run _ z9 σ8 G9 _ J9 q9) fun zv z10 ⟨yv, G10, J10, r10, cb, S0, n0, ey, hD10, hz10, nx⟩ => ?_
        subst ey
        obtain ⟨tk, rfl⟩ := r10
        exact addI_ok (X := X.blk z3 G3 scope ce fp) J10 hD10 hz10 fun z11 J11 => fin J11 nx
  exact PpSet.codeAny_compStart_set loop (T.self X.A 0 _ _ _ st4 loop)
end
theorem Ok.drop {K : PySem.W.Frag} {mg : Str → Option Value} {Z : Zt} {I : Hp} {μ : List Addr} {S : Sto} {H : Hp} {p : Addr} {u : HO} (o : Ok K mg (Z.up p u) I μ S H) (hz : Z.z p = none) : Ok K mg Z I μ S H :=
  ⟨fun b x e => o.fra b x (by show upd Z.z p u b = some x; rw [upd_ne (ne_of_none e hz)]; exact e), o.gnd, o.sub, o.len, o.nd, o.ob⟩
def compI (g : WG) (wt : WT) (we : WE) (ρ : Ro) (Q : List Int → Sto → Prop) : List D → List Int → Sto → Prop
  | [], acc, S => Q acc S
  | d :: ds, acc, S => g d ρ S fun ρ1 S1 => wt ρ1 S1 fun b S2 => if b = true then we ρ1 S2 fun y S3 => match y with
    | .int i => acc.length < 4000 ∧ compI g wt we ρ Q ds (acc ++ [i]) S3
    | _ => False
    else compI g wt we ρ Q ds acc S2
def wSortSC (wi : WA) (g : WG) (wt : WT) (we : WE) (vs : List Nat) : WE := fun ρ S Q => wi ρ S fun ds S1 => compI g wt we (wp ρ vs) (fun acc S2 => acc.length < 64 ∧ ∀ ms : List Int, ms.Pairwise (· < ·) → (∀ k, k ∈ ms ↔ k ∈ acc) → Q (.lst (ms.map D.int)) S2) ds [] S1
section
variable {X : Cx} {Γ : Gam} {elt tg iter : Expr} {ifs : List Expr} {scope : Scope} {own : List (PySem.Str × Nat)} {pos p pos2 : Pos} {wi : TI} {wa : WA} {g : TG} {wg : WG} {tt : TT} {wt : WT} {te : TE} {we : WE}
theorem bound10k {n : Nat} (h : n < 4000) : n + 1 < scanBound := Nat.lt_of_le_of_lt (show n + 1 ≤ 4000 from h) (by unfold scanBound; decide)
theorem sim_sortSC {w : World} {K : PySem.W.Frag} {mg : Str → Option Value} {vs : List Nat} {Z : Zt}
    (hi : ∀ (σ : L2.St) (ρ : Ro) (I : Hp) (μ : List Addr) (S : Sto) (H : Hp) (R : It → Hp → Prop) (Φ : List D → Sto → Prop), RpS K mg I μ σ ρ → Ok K mg Z I μ S H → wa ρ S Φ → Kd K mg Z I μ Φ R → wi σ H R)
    (hg : ∀ Z, SimW K mg Z vs g wg) (ht : ∀ Z, SimT K mg Z tt wt) (he : ∀ Z, Sim K mg Z te we) : Sim K mg Z (tCB (rSortedSet w) (tCons (tScI w wi g tt te vs) tNil)) (wSortSC wa wg wt we vs) := by
  intro σ ρ I μ S H Q Φ rs ok h k
  refine hi σ ρ I μ S H _ _ rs ok h fun J ds I1 μ1 S1 H1 e1 o1 dr q1 => ?_
  intro D hD
  have hZD : Z.z D = none := by
    cases q : Z.z D with
    | none => rfl
    | some u => have := (o1.fra D u q).1; rw [hD] at this; cases this
  have rsw : RpS K mg I1 μ1 (wipe σ vs) (wp ρ vs) := rps_wipe (rs.ext e1) vs
  have nil_ : (fun (_ : Int) => false) = fun (j : Int) => decide (j ∈ ([] : List Int)) := by funext j; simp
  refine ⟨fun i m H' => m = ds.length - i ∧ i ≤ ds.length ∧ ∃ acc I' μ' S' n, Ext I1 μ1 I' μ' ∧ n ≤ acc.length ∧ Ok K mg (Z.up D (SetO w D (fun j => decide (j ∈ acc)) n)) I' μ' S' H' ∧
      compI wg wt we (wp ρ vs) (fun acc S2 => acc.length < 64 ∧ ∀ ms : List Int, ms.Pairwise (· < ·) → (∀ k, k ∈ ms ↔ k ∈ acc) → Φ (.lst (ms.map Sq.D.int)) S2) (ds.drop i) acc S',
    ⟨ds.length, by simp, Nat.zero_le _, [], I1, μ1, S1, 0, .refl, Nat.le_refl _, by rw [← nil_]; exact o1.beside hD, by simpa using q1⟩, ?_⟩
  rintro i m H' ⟨rfl, hil, acc, I', μ', S', n, e', hn, o', q'⟩
  by_cases hlt : i < ds.length
  · have hd : ds[i]? = some ds[i] := List.getElem?_eq_getElem hlt
    rw [List.drop_eq_getElem_cons hlt] at q'
    refine .inr ⟨dr.go _ i I' μ' S' H' e' o' hlt, fun H2 => ∃ acc I2 μ2 S2 n, Ext I1 μ1 I2 μ2 ∧ n ≤ acc.length ∧ Ok K mg (Z.up D (SetO w D (fun j => decide (j ∈ acc)) n)) I2 μ2 S2 H2 ∧
      compI wg wt we (wp ρ vs) (fun acc S2 => acc.length < 64 ∧ ∀ ms : List Int, ms.Pairwise (· < ·) → (∀ k, k ∈ ms ↔ k ∈ acc) → Φ (.lst (ms.map Sq.D.int)) S2) (ds.drop (i + 1)) acc S2, fun H2 y => ⟨ds.length - (i + 1), by omega, rfl, hlt, y⟩, fun x H2 y => ?_⟩
    obtain ⟨I2, e2, o2, r2⟩ := dr.yld _ i _ I' μ' S' H' x H2 e' o' hd y
    refine hg _ x _ (wipe σ vs) σ (wp ρ vs) I2 μ' S' H2 _ _ r2 (wipe_twice σ vs) (rsw.ext (e'.trans e2)) o2 q' fun σ3 ρ3 I3 μ3 S3 H3 e3 rs3 o3 q3 => ?_
    refine ht _ σ3 ρ3 I3 μ3 S3 H3 _ _ rs3 o3 q3 fun b I4 μ4 S4 H4 e4 o4 q4 => ?_
    have e14 : Ext I1 μ1 I4 μ4 := ((e'.trans e2).trans e3).trans e4
    cases b with
    | true =>
      rw [if_pos rfl] at q4 ⊢
      refine he _ σ3 ρ3 I4 μ4 S4 H4 _ _ (rs3.ext e4) o4 q4 fun v d I5 μ5 S5 H5 e5 o5 r5 q5 => ?_
      split at q5
      · rename_i c
        cases r5
        refine ⟨c, _, n, rfl, (o5.fra D _ upd_same).1, bound10k (by omega), ?_⟩
        have ex : (fun j => decide (j ∈ acc) || decide (j = c)) = fun j => decide (j ∈ acc ++ [c]) := by funext j; simp
        rw [ex]
        exact ⟨acc ++ [c], I5, μ5, S5, _, e14.trans e5, by rw [List.length_append]; split <;> simp <;> omega, o5.beside_put, q5.2⟩
      · exact q5.elim
    | false =>
      rw [if_neg Bool.false_ne_true] at q4 ⊢
      exact ⟨acc, I4, μ4, S4, n, e14, hn, o4, q4⟩
  · have hi' : i = ds.length := by omega
    subst hi'
    rw [List.drop_length] at q'
    refine .inl ⟨dr.stop _ I' μ' S' H' e' o', ?_⟩
    obtain ⟨l64, q'⟩ := (by simpa [compI] using q' : acc.length < 64 ∧ ∀ ms : List Int, ms.Pairwise (· < ·) → (∀ k, k ∈ ms ↔ k ∈ acc) → Φ (.lst (ms.map Sq.D.int)) S')
    refine ⟨D, _, n, rfl, (o'.fra D _ upd_same).1, by omega, fun ms p hs hm _ hp => ?_⟩
    have o2 := o'.drop hZD
    exact k _ _ _ μ' S' _ ((e1.trans e').trans (Ext.new (free_of o2.sub hp))) (o2.new hp) (.lst upd_same RpL.ints) (q' ms hs fun k => by rw [hm k]; simp)
theorem se_sortSC (hc : X.calm = true) (hN : X.N.Nodup) (hm : X.mg "sorted" = none) (hi : SI X Γ tg iter wi wa) (ok : BlkOk X.N X.env.scope scope own) (hg : SB X scope (own.map (·.2)) tg g wg) (ht : SF X scope ifs tt wt) (he : SX X scope elt te we) (hs : ∀ x, foldedSetIterable iter X.env x = pure x := by intro _; rfl)
    (hgs : Gl X "sorted" := by rfl) (hst : starEach [.SetComp elt [⟨tg, iter, ifs, 0⟩] scope pos] X.env = (false, eval (.SetComp elt [⟨tg, iter, ifs, 0⟩] scope pos) X.env) :: starEach [] X.env := by rfl) (hpl : (backTo pos2 (starEach [] X.env)).any (·.1) = false := by rfl) :
    SE X Γ (.Call (.Name "sorted" p) [.SetComp elt [⟨tg, iter, ifs, 0⟩] scope pos] [] pos2) (tCB (rSortedSet X.w) (tCons (tScI X.w wi g tt te (own.map (·.2))) tNil)) (wSortSC wa wg wt we (own.map (·.2))) :=
  ⟨pe_callB (cr_sortedSet hc) hgs hm (by decide +kernel) (pa_cons (pe_scI hc hN hi.pi ok hg.pg ht.pt he.pe hs) pa_nil hst) (by decide) (by decide) hst hpl, fun Z lk => sim_sortSC (hi.si Z lk) hg.si ht.si he.si⟩
end
end Sq
set_option maxHeartbeats 4000000
namespace Sq
open PySem PySem.Spec PyProof.Rows L2
section
variable {prog : Program} {w : World} {A : Around} {E : Value → Shared → Prop} {z : Shared} {r : Addr} {a b c : Int} {t u v : Tok} {n : Nat}
theorem ext_long {R : Result → Shared → Prop} (calm : A.handled = none) (hr : IsRange z.heap r a b c t u v) (big : Builtin.Range.small a b c = false)
    (hn : Builtin.Range.rangeSize a b c = n) (few : n ≤ 2 ^ 24) (L : Addr) (out : Value) (c0 : Nat) (hL : z.heap.get? L = some { cls := .type "list", data := .seq #[] c0 })
    (fin : ∀ h' tk acc c', (∀ b o, b ≠ L → z.heap.get? b = some o → h'.get? b = some o) → h'.get? L = some { cls := .type "list", dict := none, data := .seq acc c', slots := #[] } →
      ItemsOf (fun i v => ∃ t, v = .int (a + i * c) t) acc n → R (.ok (.ret out)) { z with heap := h', toks := tk }) :
    wpAny (model prog w) A.in1 (Builtin.List.listExtendWith (.ref L) (.ref r) out)
      (fun fn s' => match fn with | .done f => R (.ok f) s' | .again c' => c'.quiet = true ∧ codeAny (model prog w) A c' R s') (fun e s' => R (.error e) s') z := by
  have ne : L ≠ r := fun e => by subst e; rw [hr] at hL; simp at hL
  have lt : L < z.heap.objs.size := Heap.lt_size hL
  have ne2 : L ≠ z.heap.objs.size := Nat.ne_of_lt lt
  have nm : L ∉ [z.heap.objs.size] := by simpa using ne2
  have Wk := (Walks.longrange (prog := prog) (w := w) (A := A.in1) calm z.heap.objs.size a c n).toS
  have loop : ∀ (h : Heap) (c1 tk : Nat), IsLongIter h z.heap.objs.size (a + ((0 : Nat) : Int) * c) ((n : Int) - ((0 : Nat) : Int)) c → (∀ b o, b ≠ L → z.heap.get? b = some o → h.get? b = some o) →
      h.get? L = some { cls := .type "list", data := .seq #[] c1 } → codeAny (model prog w) A (.builtin "list.extend.loop" ⟨[.ref L, .ref z.heap.objs.size, out], []⟩) R { z with heap := h, toks := tk } := by
    intro h c1 tk hit hk hL1
    refine codeAny_extend_loopS Wk (by rw [sizeLine_eq]; omega) L nm out n 0 _ #[] c1 rfl (Nat.zero_le _) hit hL1 (ItemsOf.nil _) fun s' acc c' hm hL' hacc => ?_
    rw [Moved.eq_with hm]
    refine fin s'.heap s'.toks acc c' (fun b o hb e => hm.heap b o (fun hmem => ?_) (hk b o hb e)) hL' hacc
    have hmem' : b = L ∨ b = z.heap.objs.size := by simpa using hmem
    cases hmem' with
    | inl q => exact hb q
    | inr q => subst q; exact Nat.lt_irrefl _ (Heap.lt_size e)
  unfold Builtin.List.listExtendWith
  refine wpAny_bind (wpAny_typeOf (T := "range") ⟨_, hr, rfl⟩ ?_)
  have k1 : Builtin.List.listSameRef (.ref L) (.ref r) = false := by simp [Builtin.List.listSameRef, ne]
  have k2 : (Value.type "range" == Value.type "list") = false := by decide
  have k3 : (Value.type "range" == Value.type "tuple") = false := by decide
  simp only [k1, k2, k3, Bool.or_false, Bool.false_eq_true, if_false]
  refine wpAny_bind (wpAny_pyIter_longrange hr big ?_)
  refine wpAny_bind (wpAny_holding (wpAny_hint_range (n := n) (Heap.get?_push_of_some _ hr) hn few ?_))
  have it1 : IsLongIter (z.heap.push { cls := .type "longrange_iterator", data := .fields #[rawInt a, rawInt (Builtin.Range.rangeSize a b c), rawInt c] }) z.heap.objs.size (a + ((0 : Nat) : Int) * c) ((n : Int) - ((0 : Nat) : Int)) c := by
    show IsLongIter _ _ _ _ _
    rw [hn]; simpa using Heap.get?_push_size _ rfl
  have hL1 := Heap.get?_push_of_some { cls := .type "longrange_iterator", data := .fields #[rawInt a, rawInt (Builtin.Range.rangeSize a b c), rawInt c] } hL
  refine wpAny_ite_split (fun _ => ?_) (fun _ => wpAny_pure ⟨plainId_quiet F.plain_extend_loop _, loop _ c0 _ it1 (fun b o _ e => Heap.get?_push_of_some _ e) hL1⟩)
  refine wpAny_bind (wpAny_rule ?_)
  refine wpAny_bind ?_
  show wpAny _ _ (updateSeq L (·.push .none) >>= fun _ => updateSeq L (·.pop)) _ _ _
  refine wpAny_bind (wpAny_updateSeq hL1 rfl ?_)
  have hL2 := Heap.get?_update_self (Obj.mapSeq (·.push Value.none)) hL1 rfl
  refine wpAny_updateSeq (hz := by seq_fits) hL2 rfl ?_
  have hL3 := Heap.get?_update_self (Obj.mapSeq (·.pop)) hL2 rfl
  refine wpAny_pure ⟨plainId_quiet F.plain_extend_loop _, loop _ _ _ ?_ (fun b o hb e => ?_) hL3⟩
  · exact Eq.trans (Heap.get?_update_other _ _ ne2) (Eq.trans (Heap.get?_update_other _ _ ne2) it1)
  · exact Eq.trans (Heap.get?_update_other _ _ (Ne.symm hb)) (Eq.trans (Heap.get?_update_other _ _ (Ne.symm hb)) (Heap.get?_push_of_some _ e))
theorem list_long {Q : Value → Shared → Prop} (calm : A.handled = none) (hr : IsRange z.heap r a b c t u v) (big : Builtin.Range.small a b c = false) (hn : Builtin.Range.rangeSize a b c = n) (few : n ≤ 2 ^ 24)
    (fin : ∀ h' tk acc c', (∀ b o, z.heap.get? b = some o → h'.get? b = some o) →
      h'.get? z.heap.objs.size = some { cls := .type "list", dict := none, data := .seq acc c', slots := #[] } → ItemsOf (fun i v => ∃ t, v = .int (a + i * c) t) acc n → Q (.ref z.heap.objs.size) { z with heap := h', toks := tk }) :
    wpAny (model prog w) A (call (.type "list") [.ref r]) Q E z := by
  refine callType_codes (Q₁ := fun obj z1 => obj = .ref z.heap.objs.size ∧ z1 = { z with heap := z.heap.push { cls := .type "list", data := .seq #[] } }) F.called_list (F.typeCall_list_1 _) F.entry_list_init
    (code_list_new _ ⟨rfl, rfl⟩) fun obj z1 h1 => ?_
  obtain ⟨rfl, rfl⟩ := h1
  have hL : (z.heap.push { cls := .type "list", data := .seq #[] }).get? z.heap.objs.size = some { cls := .type "list", data := .seq #[] } := Heap.get?_push_size _ rfl
  have hr' : IsRange (z.heap.push { cls := .type "list", data := .seq #[] }) r a b c t u v := Heap.get?_push_of_some _ hr
  refine ⟨⟨_, hL, rfl⟩, F.args_list_init_2 _ _, ?_⟩
  have ne : z.heap.objs.size ≠ r := fun e => by subst e; exact Nat.lt_irrefl _ (Heap.lt_size hr)
  show wpAny _ _ (do let old ← Builtin.List.listItems (.ref z.heap.objs.size); Builtin.List.listUpdate (.ref z.heap.objs.size) (fun _ => #[]); letGo old.toList.reverse; Builtin.List.listExtendWith (.ref z.heap.objs.size) (.ref r) .none) _ _ _
  refine wpAny_bind ?_
  unfold Builtin.List.listItems
  refine wpAny_bind (wpAny_seqItems hL rfl (wpAny_pure ?_))
  show wpAny _ _ (updateSeq z.heap.objs.size (fun _ => #[]) >>= fun _ => letGo (#[] : Array Value).toList.reverse >>= fun _ => Builtin.List.listExtendWith (.ref z.heap.objs.size) (.ref r) .none) _ _ _
  refine wpAny_bind (wpAny_updateSeq hL rfl ?_)
  have hL2 := Heap.get?_update_self (Obj.mapSeq (fun _ => (#[] : Array Value))) hL rfl
  have oth : ∀ b o, b ≠ z.heap.objs.size → (z.heap.push { cls := .type "list", data := .seq #[] }).get? b = some o → ((z.heap.push { cls := .type "list", data := .seq #[] }).update z.heap.objs.size (Obj.mapSeq (fun _ => (#[] : Array Value)))).get? b = some o :=
    fun b o hb e => by rw [Heap.get?_update_other _ _ (Ne.symm hb)]; exact e
  refine wpAny_bind (wpAny_letGo ?_)
  refine ext_long (A := A.in1) calm (oth r _ (Ne.symm ne) hr') big hn few z.heap.objs.size .none _ hL2 fun h' tk acc c' hk hL' hacc => ?_
  exact ⟨rfl, fin h' tk acc c' (fun b o e => hk b o (Nat.ne_of_lt (Heap.lt_size e)) (oth b o (Nat.ne_of_lt (Heap.lt_size e)) (Heap.get?_push_of_some _ e))) hL' hacc⟩
end
section
variable {X : Cx} {Γ : Gam} {e o a b : Expr} {te to ta tb : TE} {we wo wa wb : WE} {p pos cpos apos : Pos}
def tLR (tr : L2.St → Hp → (Int → Int → Hp → Prop) → Prop) : TE := fun σ G Q => tr σ G fun i j G1 => (j - i).toNat ≤ LIM ∧ ∀ q, G1 q = none → Q (.ref q) (upd G1 q (.lst (rgV i j)))
theorem pe_listR {tr : L2.St → Hp → (Int → Int → Hp → Prop) → Prop} (calm : X.calm = true) (hg : Gl X "list") (hm : X.mg "list" = none) (he : PRg X e tr) (na : starEach [e] X.env = (false, eval e X.env) :: starEach [] X.env := by rfl) : PE X (.Call (.Name "list" p) [e] [] pos) (tLR tr) := by
  refine ⟨fun pn z σ G Q J hw => ?_⟩
  refine Call_ (ld_blt J hg hm boot_list (PyProof.Rows.callWith_type1 (args_cons (thn (he pn z σ G _ J hw) fun x z1 ⟨r, i, j, t, u, v, G1, ex, hr, J1, ok, q⟩ => args_nil ?_) na) na))
  subst ex
  have few : (j - i).toNat ≤ 2 ^ 24 := Nat.le_trans ok (by decide)
  have fin : ∀ (h' : Heap) (tk : Nat) (acc : Array Value) (c' : Nat), (∀ b o, z1.heap.get? b = some o → h'.get? b = some o) → h'.get? z1.heap.objs.size = some { cls := .type "list", dict := none, data := .seq acc c', slots := #[] } →
      ItemsOf (fun k v => ∃ t, v = .int (i + k * 1) t) acc (j - i).toNat → EP X pn σ Q (.ref z1.heap.objs.size) { z1 with heap := h', toks := tk } := fun h' tk acc c' hk e' hi => by
    refine ⟨.ref z1.heap.objs.size, upd G1 z1.heap.objs.size (.lst (rgV i j)), J1.laid hk (Nat.le_refl _) (show ObjOk X.prog X.w _ _ _ (.lst (rgV i j)) from ⟨?_, acc.toList, c', vals_rg hi, ?_⟩), rfl, q _ (J1.hok.fresh (Nat.le_refl _))⟩
    · rw [rgV_length, sizeLine_eq]; omega
    · rw [Array.toArray_toList]; exact e'
  cases sm : Builtin.Range.small i j 1 with
  | true => exact call_list_range (n := (j - i).toNat) (J1.ok.hd calm) hr sm (rangeSize_nat i j) few fin
  | false => exact list_long (n := (j - i).toNat) (J1.ok.hd calm) hr sm (rangeSize_nat i j) few fin
theorem rpl_rg {K : PySem.W.Frag} {mg : Str → Option Value} {I : Hp} {μ : List Addr} (i j : Int) : RpL K mg I μ (rgV i j) (rngD i (j - i).toNat) := by
  unfold rgV rngD
  generalize List.range (j - i).toNat = l
  induction l with
  | nil => exact .nil
  | cons k l ih => exact .cons .int ih
def wLRg2 (wa wb : WE) : WE := fun ρ S Q => wa ρ S fun x S1 => wb ρ S1 fun y S2 => match x, y with
  | .int i, .int j => (j - i).toNat ≤ LIM ∧ Q (.lst (rngD i (j - i).toNat)) S2
  | _, _ => False
theorem se_listR2 {p2 pos2 : Pos} (calm : X.calm = true) (hl : X.mg "list" = none) (hr : X.mg "range" = none) (ha : SE X Γ a ta wa) (hb : SE X Γ b tb wb) (hg : Gl X "list" := by rfl) (hgr : Gl X "range" := by rfl)
    (n0 : starEach [.Call (.Name "range" p2) [a, b] [] pos2] X.env = (false, eval (.Call (.Name "range" p2) [a, b] [] pos2) X.env) :: starEach [] X.env := by rfl) (n1 : starEach [a, b] X.env = (false, eval a X.env) :: starEach [b] X.env := by rfl) (n2 : starEach [b] X.env = (false, eval b X.env) :: starEach [] X.env := by rfl) (n3 : (backTo pos2 (starEach [b] X.env)).any (·.1) = false := by rfl) :
    SE X Γ (.Call (.Name "list" p) [.Call (.Name "range" p2) [a, b] [] pos2] [] pos) (tLR (tRg2 ta tb)) (wLRg2 wa wb) :=
  ⟨pe_listR calm hg hl (prg_2 hgr hr ha.pe hb.pe n1 n2 n3) n0, fun Z lk σ ρ I μ S H Q Φ rs ok hw k => ha.si Z lk σ ρ I μ S H _ _ rs ok hw fun v x I1 μ1 S1 H1 e1 o1 r1 q1 => hb.si Z lk σ ρ I1 μ1 S1 H1 _ _ (rs.ext e1) o1 q1 fun u y I2 μ2 S2 H2 e2 o2 r2 q2 => by
    split at q2
    · rename_i i j
      cases r1
      cases r2
      refine ⟨i, j, rfl, rfl, q2.1, fun q hq => ?_⟩
      exact k _ _ _ μ2 S2 _ ((e1.trans e2).trans (Ext.new (free_of o2.sub hq))) (o2.new hq) (.lst upd_same (rpl_rg i j)) q2.2
    · exact q2.elim⟩
def enumD (ds : List D) : List D := ds.zipIdx.map fun q => D.tup [.int (q.2 : Nat), q.1]
theorem enumD_length (ds : List D) : (enumD ds).length = ds.length := by simp [enumD]
theorem enumD_get {ds : List D} {i : Nat} {x : D} (h : (enumD ds)[i]? = some x) : ∃ d, ds[i]? = some d ∧ x = .tup [.int (i : Nat), d] := by
  unfold enumD at h
  rw [List.getElem?_map] at h
  cases q : ds.zipIdx[i]? with
  | none => rw [q] at h; cases h
  | some y =>
    rw [q] at h
    cases h
    have hi : i < ds.length := by
      have := (List.getElem?_eq_some_iff.mp q).1
      simpa using this
    rw [List.getElem?_eq_getElem (by simpa using hi)] at q
    simp only [List.getElem_zipIdx, Option.some.injEq] at q
    subst q
    exact ⟨ds[i], List.getElem?_eq_getElem hi, by simp⟩
theorem drw_enum {K : PySem.W.Frag} {mg : Str → Option Value} {I : Hp} {μ : List Addr} {a : Addr} {vs : List V} {ds : List D} (h : I a = some (.lst vs)) (r : RpL K mg I μ vs ds) : Drw K mg (Ite K a) I μ (enumD ds) where
  go := fun Z i I' μ' S H e o hi => by
    rw [enumD_length] at hi
    exact ⟨vs, vs[i]'(by rw [r.length]; exact hi), SqL.of (o.sub _ _ (e.hp _ _ h)), List.getElem?_eq_getElem _⟩
  yld := fun Z i d I' μ' S H x H' e o hd y => by
    obtain ⟨T, y0, rfl, nT, rfl, y⟩ := y
    obtain ⟨d0, hd0, rfl⟩ := enumD_get hd
    have q := y vs (SqL.of (o.sub _ _ (e.hp _ _ h)))
    obtain ⟨d', e1, r1⟩ := r.getV q
    rw [hd0] at e1
    cases e1
    have en : Ext I' μ' (upd I' T (.tup [.int (i : Nat), y0])) μ' := Ext.new (free_of o.sub nT)
    exact ⟨_, en, o.new nT, .tup (SqT.of upd_same) (.cons .int (.cons ((r1.ext e).ext en) .nil))⟩
  stop := fun Z I' μ' S H e o => ⟨vs, SqL.of (o.sub _ _ (e.hp _ _ h)), by rw [enumD_length, r.length]; exact Nat.le_refl _⟩
def wEnum (we : WE) : WA := fun ρ S Q => we ρ S fun d S1 => match d with
  | .lst ds => Q (enumD ds) S1
  | .h n => match S1[n]? with
    | some (.lst ds) => Q (enumD ds) (S1.set n (.frz (.lst ds)))
    | some (.frz (.lst ds)) => Q (enumD ds) S1
    | _ => False
  | _ => False
theorem si_enum {elts : List Expr} {kk : Nat} {tpos : Pos} (hm : X.mg "enumerate" = none) (h : SE X Γ e te we) (hg : Gl X "enumerate" := by rfl) (n0 : starEach [e] X.env = (false, eval e X.env) :: starEach [] X.env := by rfl) (n1 : starEach [e] X.env = [(false, eval e X.env)] := by rfl) :
    SI X Γ (.Tuple elts kk tpos) (.Call (.Name "enumerate" p) [e] [] pos) (iEnum X.K (tCons te tNil)) (wEnum we) :=
  ⟨pi_enum hg hm (pa_cons h.pe pa_nil n0) n1, fun Z lk σ ρ I μ S H R Φ rs ok hw k => h.si Z lk σ ρ I μ S H _ _ rs ok hw fun v d I1 μ1 S1 H1 e1 o1 r1 q1 => by
    split at q1
    · cases r1 with
      | lst z t => exact ⟨_, _, rfl, SqL.of (o1.sub _ _ z), k _ _ I1 μ1 S1 H1 e1 o1 (drw_enum z t) q1⟩
    · split at q1
      · rename_i n _ ds q
        cases r1 with
        | h z =>
          obtain ⟨a, I2, z2, e2, o2, r2⟩ := o1.freeze q
          rw [z] at z2
          cases z2
          cases r2 with
          | lst y t => exact ⟨_, _, rfl, SqL.of (o2.sub _ _ y), k _ _ I2 μ1 _ H1 (e1.trans e2) o2 (drw_enum y t) q1⟩
      · rename_i n _ ds q
        cases r1 with
        | h z =>
          have y := (o1.ob n _ _ z q).2
          cases y with
          | lst y t => exact ⟨_, _, rfl, SqL.of (o1.sub _ _ y), k _ _ I1 μ1 _ H1 e1 o1 (drw_enum y t) q1⟩
      · exact q1.elim
    · exact q1.elim⟩
def wExt (wo we : WE) : WE := fun ρ S Q => wo ρ S fun x S1 => match x with
  | .h n => (match S1[n]? with | some (.lst _) => True | _ => False) ∧ we ρ S1 fun d S2 => match S2[n]? with
    | some (.lst ds) => match d with
      | .h _ => False
      | d => match view S2 d with
        | .lst es => ds.length + es.length ≤ LIM ∧ Q .non (S2.set n (.lst (ds ++ es)))
        | _ => False
    | _ => False
  | _ => False
theorem se_ext (ho : SE X Γ o to wo) (he : SE X Γ e te we) (h1 : attributeBase o "extend" X.env (eval o X.env) = eval o X.env := by rfl)
    (h2 : ((backTo cpos (starEach [e] X.env)).all (fun x => !x.1) && (backToKw cpos (keywordEach [] X.env)).all (fun x => x.1.isSome) && decide ([e].length + ([] : List Keyword).length + (if ([] : List Keyword).isEmpty then 0 else 1) < 30)) = true := by rfl)
    (h3 : (apos.endLine == cpos.line) = true := by rfl) (h4 : starEach [e] X.env = (false, eval e X.env) :: starEach [] X.env := by rfl) (h5 : (backTo cpos (starEach [] X.env)).any (·.1) = false := by rfl) :
    SE X Γ (.Call (.Attribute o "extend" apos) [e] [] cpos) (tBM X.K "list" rExtend to (tCons te tNil)) (wExt wo we) :=
  ⟨pe_bm PySem.F.plainAttrs_list PySem.F.slot_list_extend PySem.F.type_list_extend mt_extend ho.pe (pa_cons he.pe pa_nil h4) h1 h2 h3 h4 h5, fun Z lk σ ρ I μ S H Q Φ rs ok hw kp => by
    refine ho.si Z lk σ ρ I μ S H _ _ rs ok hw fun v x I1 μ1 S1 H1 e1 o1 r1 q1 => ?_
    split at q1
    · rename_i n
      obtain ⟨q0, q1⟩ := q1
      split at q0
      · rename_i ds z
        cases r1 with
        | h hn =>
          obtain ⟨hi, vs, hH, rl⟩ := o1.ob _ _ _ hn z
          refine ⟨.inl ⟨rfl, _, SqL.of hH⟩, ?_⟩
          refine he.si Z lk σ ρ I1 μ1 S1 H1 _ _ (rs.ext e1) o1 q1 fun u d I2 μ2 S2 H2 e2 o2 r2 q2 => ?_
          split at q2
          · rename_i es z2
            obtain ⟨hi2, ws, hH2, rl2⟩ := o2.ob _ _ _ (e2.mu _ _ hn) z2
            split at q2
            · exact q2.elim
            · split at q2
              · rename_i fs e3
                obtain ⟨p2, us, rfl, hB, tl⟩ := view_lst o2 r2 e3
                refine ⟨_, _, ws, us, rfl, rfl, hH2, hB, lim (by rw [rl2.length, tl.length]; exact q2.1), ?_⟩
                exact kp .non .non I2 μ2 _ _ (e1.trans e2) (o2.put (m := .lst (es ++ fs)) (e2.mu _ _ hn) hi2 ⟨hi2, _, upd_same, rl2.append tl⟩) .non q2.2
              · exact q2.elim
          · exact q2.elim
      · exact q0.elim
    · exact q1.elim⟩
end
end Sq
set_option maxHeartbeats 4000000
namespace Sq
open PySem PySem.Spec PyProof.Rows L2
section
variable {prog : Program} {w : World} {A : Around} {E : Value → Shared → Prop} {z : Shared} {K : PySem.W.Frag} {x C L f : Addr} {h0 : Heap} {m : Str → Option Value} {ox : Obj} {od : Option Obj} {b tb : Value}
theorem ne_own {Q : Value → Shared → Prop} (room : A.units + 1 < cLine) (X : K.In z.heap) (I : PySem.W.InstAt z.heap x ox C od) (hb : PySem.W.Looks (model prog w) z.heap (typeOf b) tb) (hn : PySem.W.notFirst K C tb = true)
    (hne : PySem.W.findIn K (.ref C) "__ne__" = some (some (.builtin "object.__ne__"))) (heq : PySem.W.findIn K (.ref C) "__eq__" = some (some (.ref f))) (hf : PySem.W.isFn K (.ref f) = true) (ho : PySem.W.mroIn K C (.type "object") = some true)
    (run : wpAny (model prog w) A.in1 (call (.ref f) [.ref x, b]) (fun v z' => ∃ c, v = .bool c ∧ Q (.bool (!c)) z') E z) : wpAny (model prog w) A (richCompare .NotEq (.ref x) b) Q E z := by
  have isO : PySem.W.Looks (model prog w) z.heap (isInstance (.ref x) (.type "object")) true := I.type.andThen (PySem.W.looks_mroIn X ho)
  have one : wpAny (model prog w) A (tryCompare (.ref x) "__ne__" b) (fun r z' => ∃ v, r = some v ∧ Q v z') E z := by
    unfold tryCompare
    refine wpAny_bind ?_
    simp only [callSpecialIfBound?, bindSpecialIfBound?]
    refine wpAny_holding (wpAny_bind (wpAny_bind (wpAny_bind (I.type.here ((PySem.W.looks_findIn X hne).here ?_)))))
    refine wpAny_bind (wpAny_askSetting (wpAny_ite ?_))
    have fin : wpAny (model prog w) A (call (.builtin "object.__ne__") ([.ref x] ++ [b]) >>= fun v => pure (some v)) (fun r z' => wpAny (model prog w) A (match r with
        | some .notImplemented | none => pure none
        | some v => pure (some v)) (fun r z' => ∃ v, r = some v ∧ Q v z') E z') E z := by
      refine wpAny_bind (wpAny_call (codeAny_call_builtin PySem.F.cmp_object.ne.plain F.cmpEntry_ne ?_))
      refine @PySem.W.check_slot (model prog w) _ _ z "object.__ne__" "object" "__ne__" (.ref x) [b] [] _ F.cmpKind_ne F.cmpSplit_ne isO (F.cmpArgs_ne _ _) ?_
      unfold Builtin.«object.__ne__»
      repeat (first
        | with_reducible refine wpAny_cRoomFor (A := A.in1) room ?_
        | (refine wpAny_bind (m := callSpecialIfBound? (.ref x) (Str.ofString "__eq__") [b]) (PySem.W.ifBound_K X I heq hf (wpAny_mono run (fun v z' hv => ?_) fun _ _ e => e)))
        | wp_step)
      obtain ⟨c, rfl, q⟩ := hv
      refine wpAny_bind (m := truthy (.bool _)) (wpAny_truthy_bool ?_)
      exact wpAny_pure (wpAny_pure (wpAny_pure ⟨_, rfl, q⟩))
    split
    · rw [PySem.F.cmp_object.ne.bind]
      exact wpAny_bind (wpAny_pure (wpAny_pure fin))
    · rw [PySem.F.cmp_object.ne.bind]
      exact wpAny_tryCatch (wpAny_bind (wpAny_pure (wpAny_pure fin)))
  have fin : wpAny (model prog w) A (tryCompare (.ref x) "__ne__" b) (fun r z' => ∃ v, r = some v ∧ Q v z') E z := one
  unfold richCompare
  simp only [oneThing_ref]
  refine wpAny_holding (wpAny_bind (wpAny_cRoomFor (Nat.lt_of_succ_lt room) ?_))
  refine wpAny_bind (I.type.here (wpAny_bind (hb.here ?_)))
  have last : ∀ {r : Option Value} {z' : Shared}, (∃ v, r = some v ∧ Q v z') → wpAny (model prog w) A (match r with
      | some v => pure v
      | none => unsupported "") Q E z' := fun ⟨v, e, q⟩ => by subst e; exact wpAny_pure q
  split
  · rename_i q
    have e : PySem.W.subIn K tb (.ref C) = some false := by
      rcases Bool.or_eq_true_iff.mp hn with e | e
      · rw [beq_iff_eq.mp e] at q; simp at q
      · exact beq_iff_eq.mp e
    refine wpAny_bind ((PySem.W.looks_subIn X e).here ?_)
    simp only [Bool.false_eq_true, if_false]
    refine wpAny_bind (wpAny_mono fin (fun r z' y => ?_) fun _ _ e => e)
    obtain ⟨v, rfl, hq⟩ := y
    exact wpAny_pure hq
  · refine wpAny_bind (wpAny_pure ?_)
    simp only [Bool.false_eq_true, if_false]
    refine wpAny_bind (wpAny_mono fin (fun r z' y => ?_) fun _ _ e => e)
    obtain ⟨v, rfl, hq⟩ := y
    exact wpAny_pure hq
end
end Sq
set_option maxHeartbeats 4000000
namespace Sq
open PySem PySem.Spec PyProof.Rows L2
structure SupE (self x f : Str) (p0 p1 p2 p3 p4 p5 p6 p7 p8 p9 : Pos) (env : Env) : Prop where
  ev : ∃ pl : Sem Bool, eval (.Call (.Attribute (.Call (.Name "super" p0) [] [] p1) "__init__" p2) [.Name x p3] [] p4) env = (do
      let ov ← attributeBase (.Call (.Name "super" p0) [] [] p1) "__init__" env (eval (.Call (.Name "super" p0) [] [] p1) env)
      standAt p2.atName
      let (u, first) ← holding [ov] (getMethod ov "__init__" pl)
      callWith p4 u first (backTo p4 (starEach [.Name x p3] env)) [])
  ia : interactive env = false
  s1 : swapsWith (.Call (.Attribute (.Call (.Name "super" p0) [] [] p1) "__init__" p2) [.Name x p3] [] p4) none p5.line env = pure false
  s2 : swapsWith (.Name x p8) (some (.Attribute (.Name self p6) f p7)) p9.line env = pure false
  st : starEach [.Name x p3] env = (false, eval (.Name x p3) env) :: starEach [] env
structure SupK (P : Program) (K : PySem.W.Frag) (C fI : Addr) (f : Str) : Prop where
  cls : ∃ nm q N bs bm sn sub ab col dd k0 k1 k2 k3 k5, K.lookup C = some (excClassObj nm q C N bs bm true sn sub ab col dd k0 k1 k2 k3 k5 "ValueError.__new__") ∧ PySem.HandSPX.refsVE bm = true ∧ PySem.W.alongIn K "__init__" bm = some (some (.builtin "ValueError.__init__"))
  sa : PySem.W.findIn K (.ref C) "__setattr__" = some (some (.builtin "object.__setattr__"))
  no : PySem.W.findIn K (.ref C) f = some none
  bex : PySem.W.subIn K (.ref C) (.type "BaseException") = some true
  val : PySem.W.subIn K (.ref C) (.type "ValueError") = some true
  own : PySem.W.mroIn K C (.ref C) = some true
  ty : PySem.W.typeIn K (.ref C) = some (.type "type")
  kp : PySem.W.keepIn K (.ref C) = true
  ini : PySem.W.findIn K (.ref C) "__init__" = some (some (.ref fI))
  tyI : PySem.W.typeIn K (.ref fI) = some (.type "function")
  opq : PySem.W.nsIn K cStatics "thirdparty.any" = some none
  sup : PySem.W.nsIn K mainGlobals "super" = some none
  def_ : ∃ (oc : Value) (od : Option Addr) (osl : Array (Option Value)) (qual self x : Str) (params : Arguments) (scope : Scope) (dV kV doc pm ct : Value) (an : Option Addr) (cda cc : Addr) (p0 p1 p2 p3 p4 p5 p6 p7 p8 p9 : Pos) (ar : Arg) (vs : Array Value) (file : Str) (tf : Tok) (ccl : Value) (cdd : Option Addr) (ccs : Array (Option Value)) (cl : Value) (cld : Option Addr) (csl : Array (Option Value)),
    K.lookup fI = some ⟨oc, od, .func (PySem.W.ksFn "__init__" qual params [.Expr (.Call (.Attribute (.Call (.Name "super" p0) [] [] p1) "__init__" p2) [.Name x p3] [] p4) p5, .Assign [.Attribute (.Name self p6) f p7] (.Name x p8) p9] scope dV kV doc pm an (.ref cda) ct cc), osl⟩ ∧
    PySem.W.codeIn K (.ref cda) qual = true ∧ (params.posonlyargs ++ params.args).head? = some ar ∧ ar.arg = self ∧ self ≠ x ∧
    K.lookup cda = some ⟨ccl, cdd, .fields vs, ccs⟩ ∧ vs[2]? = some (.str file tf) ∧ ((P.main.file : Str) == file) = true ∧ (P.main.scope.names.lookup ("super" : Str)).isSome = false ∧
    K.lookup cc = some ⟨cl, cld, .cell (some (.ref C)), csl⟩ ∧
    scope.names.lookup ("super" : Str) = some .globalImplicit ∧ scope.names.lookup ("__class__" : Str) = some .free ∧ scope.names.lookup self = some .local ∧ scope.names.lookup x = some .local ∧ scope.kind = .function ∧ (∀ y ∈ scope.names, y.2 ≠ .cell) ∧ scope.isCoroutine = false ∧ scope.isGenerator = false ∧
    (self == ("__debug__" : Str)) = false ∧ (x == ("__debug__" : Str)) = false ∧
    (∀ (u v : Value), bindArgs (PySem.W.ksFn "__init__" qual params [.Expr (.Call (.Attribute (.Call (.Name "super" p0) [] [] p1) "__init__" p2) [.Name x p3] [] p4) p5, .Assign [.Attribute (.Name self p6) f p7] (.Name x p8) p9] scope dV kV doc pm an (.ref cda) ct cc) ⟨[u, v], []⟩ = pure [(self, u), (x, v)]) ∧
    (∀ L : Addr, SupE self x f p0 p1 p2 p3 p4 p5 p6 p7 p8 p9 (callEnv (PySem.W.ksFn "__init__" qual params [.Expr (.Call (.Attribute (.Call (.Name "super" p0) [] [] p1) "__init__" p2) [.Name x p3] [] p4) p5, .Assign [.Attribute (.Name self p6) f p7] (.Name x p8) p9] scope dV kV doc pm an (.ref cda) ct cc) L fI))
section
variable {P : Program} {w : World} {A : Around} {K : PySem.W.Frag} {C fI e t0 : Addr} {f : Str} {hp : Heap} {g : Array GenState} {d : Drawn} {t : Nat} {os : OsState} {R : Result → Shared → Prop} {v : Value} {mb : Str → Option Value} {mg : Str → Option Value}
abbrev exO (C t0 : Addr) (dv : Option Addr) : Obj := { cls := .ref C, dict := dv, data := .fields #[.ref t0, .none, .none, .none, .bool false, .none] }
theorem call_bw1 {M : Model} {E : Value → Shared → Prop} {env : Env} {pos p3 : Pos} {x : Str} {Q : Value → Shared → Prop} {z : Shared} {u : Addr} {m : Str → Option Value} {i : String} (st : starEach [.Name x p3] env = (false, eval (.Name x p3) env) :: starEach [] env) (kind : env.scope.kind = .function)
    (hx : env.kindOf x = some .local) (hd : (x == ("__debug__" : Str)) = false) (n : z.heap.Ns env.locals m) (hv : m x = some v) (hu : z.heap.get? u = some (PySem.W.kxs_mw i e)) (h : wpAny M A (call (.ref u) [v]) Q E z) : wpAny M A (callWith pos (.ref u) [] (backTo pos (starEach [.Name x p3] env)) []) Q E z := by
  have a : wpAny M A (spliced (backTo pos (starEach [.Name x p3] env))) (fun vs s1 => PySem.W.KxsAt i u e s1.heap ∧ wpAny M A (call (.ref u) ([] ++ vs)) Q E s1) E z := args_cons (wpAny_Name (wpAny_loadName_local kind hx n hv (args_nil ⟨hu, h⟩)) hd) st
  rw [st] at a ⊢
  exact PySem.W.kxs_callWith (i := i) (x := e) rfl (Calls.evalArgs_plain a)
theorem sup_init (T : SupK P K C fI f) (room : A.depth < recursionLimit) (X : K.In hp) (gl : hp.Ns mainGlobals mg) (bl : hp.Ns builtinsNs mb) (bl2 : ∀ x : Str, x ≠ "__name__" → mb x = bootBuiltins x) (nl : hp.NoLimit) (he : hp.get? e = some (exO C t0 none)) (ke : K.lookup e = none)
    (fin : ∀ h' t1 dx tk', (∀ b o, b ≠ e → hp.get? b = some o → h'.get? b = some o) → hp.objs.size ≤ dx → h'.get? e = some (exO C t1 (some dx)) → h'.Ns1 dx (fun y => if y = f then some v else none) → R (.ok (.ret .none)) ⟨h', g, d, tk', os⟩) :
    codeAny (model P w) A (.call (.ref fI) ⟨[.ref e, v], []⟩) R ⟨hp, g, d, t, os⟩ := by
  obtain ⟨nm, q, N, bs, bm, sn, sub, ab, col, dd, k0, k1, k2, k3, k5, hC, hbm, along⟩ := T.cls
  obtain ⟨oc, od, osl, qual, self, x, params, scope, dV, kV, doc, pm, ct, an, cda, cc, p0, p1, p2, p3, p4, p5, p6, p7, p8, p9, ar, vs, file, tf, ccl, cdd, ccs, cl, cld, csl, lk, hcd, har, hself, hne, lcd, hvs, hfile, htop, lcc, ss, sc, sself, sx, kind, ncell, nco, ngen, ds, dx_, bnd, sq⟩ := T.def_
  subst hself
  refine PySem.ks_codeAny_call_defAt room (X _ _ lk) rfl nl (PySem.W.codeRec_of X hcd) rfl (BindsTo.of_eq (bnd (.ref e) v)) ncell (fun y hy => ?_) (fun h1 hn1 hk1 => ?_) nco ngen kind
  · simp only [List.mem_cons, List.not_mem_nil, or_false] at hy
    rcases hy with rfl | rfl
    · exact sself
    · exact sx
  have X1 : K.In h1 := X.keeps hk1
  have gl1 : h1.Ns mainGlobals mg := gl.keeps hk1
  have bl1 : h1.Ns builtinsNs mb := bl.keeps hk1
  have he1 := hk1 _ _ he
  have v0 : ([(ar.arg, Value.ref e), (x, v)].reverse.lookup ar.arg) = some (.ref e) := by
    have z : (ar.arg == x) = false := by simpa using hne
    simp [List.lookup, z]
  have v1 : ([(ar.arg, Value.ref e), (x, v)].reverse.lookup x) = some v := by simp [List.lookup]
  have eL : e ≠ hp.objs.size := fun z => by subst z; exact Nat.lt_irrefl _ (Heap.lt_size he)
  have hcl : PySem.W.clsIn K C = some { name := nm, bases := bs, mro := .ref C :: bm, ns := N, qualname := q, hasDict := true, slotNames := sn, subclasses := sub, abstract := ab, collection := col, hasDel := false } := by unfold PySem.W.clsIn; rw [hC] <;> rfl
  obtain ⟨oD, hD1, hD2⟩ : ∃ oD, K.lookup C = some oD ∧ oD.data = .cls { name := nm, bases := bs, mro := .ref C :: bm, ns := N, qualname := q, hasDict := true, slotNames := sn, subclasses := sub, abstract := ab, collection := col, hasDel := false } := ⟨_, hC, rfl⟩
  have nsL : ∀ {h2 : Heap}, (∀ b o, b ≠ e → h1.get? b = some o → h2.get? b = some o) → h2.Ns hp.objs.size (fun y => [(ar.arg, Value.ref e), (x, v)].reverse.lookup y) := fun k => by
    obtain ⟨o, es, ep, ho, r⟩ := id hn1
    exact ⟨o, es, ep, k _ _ (Ne.symm eL) ho, r⟩
  obtain ⟨⟨pl, ev⟩, ia, s1, s2, st⟩ := sq hp.objs.size
  have E1 : ∀ y, (callEnv (PySem.W.ksFn "__init__" qual params [.Expr (.Call (.Attribute (.Call (.Name "super" p0) [] [] p1) "__init__" p2) [.Name x p3] [] p4) p5, .Assign [.Attribute (.Name ar.arg p6) f p7] (.Name x p8) p9] scope dV kV doc pm an (.ref cda) ct cc) hp.objs.size fI).kindOf y = scope.names.lookup y := fun _ => rfl
  have E2 : (callEnv (PySem.W.ksFn "__init__" qual params [.Expr (.Call (.Attribute (.Call (.Name "super" p0) [] [] p1) "__init__" p2) [.Name x p3] [] p4) p5, .Assign [.Attribute (.Name ar.arg p6) f p7] (.Name x p8) p9] scope dV kV doc pm an (.ref cda) ct cc) hp.objs.size fI).scope.kind = .function := kind
  have E3 : (callEnv (PySem.W.ksFn "__init__" qual params [.Expr (.Call (.Attribute (.Call (.Name "super" p0) [] [] p1) "__init__" p2) [.Name x p3] [] p4) p5, .Assign [.Attribute (.Name ar.arg p6) f p7] (.Name x p8) p9] scope dV kV doc pm an (.ref cda) ct cc) hp.objs.size fI).locals = hp.objs.size := rfl
  have E4 : (callEnv (PySem.W.ksFn "__init__" qual params [.Expr (.Call (.Attribute (.Call (.Name "super" p0) [] [] p1) "__init__" p2) [.Name x p3] [] p4) p5, .Assign [.Attribute (.Name ar.arg p6) f p7] (.Name x p8) p9] scope dV kV doc pm an (.ref cda) ct cc) hp.objs.size fI).func = some fI := rfl
  have E5 : (callEnv (PySem.W.ksFn "__init__" qual params [.Expr (.Call (.Attribute (.Call (.Name "super" p0) [] [] p1) "__init__" p2) [.Name x p3] [] p4) p5, .Assign [.Attribute (.Name ar.arg p6) f p7] (.Name x p8) p9] scope dV kV doc pm an (.ref cda) ct cc) hp.objs.size fI).code = .ref cda := rfl
  have E6 : (callEnv (PySem.W.ksFn "__init__" qual params [.Expr (.Call (.Attribute (.Call (.Name "super" p0) [] [] p1) "__init__" p2) [.Name x p3] [] p4) p5, .Assign [.Attribute (.Name ar.arg p6) f p7] (.Name x p8) p9] scope dV kV doc pm an (.ref cda) ct cc) hp.objs.size fI).cells.lookup ("__class__" : Str) = some cc := rfl
  have E7 : (callEnv (PySem.W.ksFn "__init__" qual params [.Expr (.Call (.Attribute (.Call (.Name "super" p0) [] [] p1) "__init__" p2) [.Name x p3] [] p4) p5, .Assign [.Attribute (.Name ar.arg p6) f p7] (.Name x p8) p9] scope dV kV doc pm an (.ref cda) ct cc) hp.objs.size fI).globals = mainGlobals := rfl
  have E8 : (callEnv (PySem.W.ksFn "__init__" qual params [.Expr (.Call (.Attribute (.Call (.Name "super" p0) [] [] p1) "__init__" p2) [.Name x p3] [] p4) p5, .Assign [.Attribute (.Name ar.arg p6) f p7] (.Name x p8) p9] scope dV kV doc pm an (.ref cda) ct cc) hp.objs.size fI).builtins = builtinsNs := rfl
  show _root_.PySem.wpAt (model P w) (A.deeper (callEnv (PySem.W.ksFn "__init__" qual params [.Expr (.Call (.Attribute (.Call (.Name "super" p0) [] [] p1) "__init__" p2) [.Name x p3] [] p4) p5, .Assign [.Attribute (.Name ar.arg p6) f p7] (.Name x p8) p9] scope dV kV doc pm an (.ref cda) ct cc) hp.objs.size fI)) (.func _ (callEnv (PySem.W.ksFn "__init__" qual params [.Expr (.Call (.Attribute (.Call (.Name "super" p0) [] [] p1) "__init__" p2) [.Name x p3] [] p4) p5, .Assign [.Attribute (.Name ar.arg p6) f p7] (.Name x p8) p9] scope dV kV doc pm an (.ref cda) ct cc) hp.objs.size fI)) (execs _ (callEnv (PySem.W.ksFn "__init__" qual params [.Expr (.Call (.Attribute (.Call (.Name "super" p0) [] [] p1) "__init__" p2) [.Name x p3] [] p4) p5, .Assign [.Attribute (.Name ar.arg p6) f p7] (.Name x p8) p9] scope dV kV doc pm an (.ref cda) ct cc) hp.objs.size fI)) _ (fun e' s' => wpAny (model P w) (A.deeper (callEnv (PySem.W.ksFn "__init__" qual params [.Expr (.Call (.Attribute (.Call (.Name "super" p0) [] [] p1) "__init__" p2) [.Name x p3] [] p4) p5, .Assign [.Attribute (.Name ar.arg p6) f p7] (.Name x p8) p9] scope dV kV doc pm an (.ref cda) ct cc) hp.objs.size fI)) (leaving (callEnv (PySem.W.ksFn "__init__" qual params [.Expr (.Call (.Attribute (.Call (.Name "super" p0) [] [] p1) "__init__" p2) [.Name x p3] [] p4) p5, .Assign [.Attribute (.Name ar.arg p6) f p7] (.Name x p8) p9] scope dV kV doc pm an (.ref cda) ct cc) hp.objs.size fI) e') _ _ s') _
  generalize hE : callEnv (PySem.W.ksFn "__init__" qual params [.Expr (.Call (.Attribute (.Call (.Name "super" p0) [] [] p1) "__init__" p2) [.Name x p3] [] p4) p5, .Assign [.Attribute (.Name ar.arg p6) f p7] (.Name x p8) p9] scope dV kV doc pm an (.ref cda) ct cc) hp.objs.size fI = env at *
  refine PySem.ks_wpAt_execs_cons (PySem.ks_wpAt_Expr_any (PySem.ks_wpAt_MethodCall (pl := pl) ?_ ev) ia s1)
  refine PySem.ks_wpAt_super_base ((E1 _).trans ss) ((E1 _).trans sc) (by decide) E4 (X1 _ _ lk) rfl har E5 (X1 _ _ lcd) rfl hvs hfile htop ?_
  refine PySem.W.ks_loadName_global E2 ((E1 _).trans ss) (Calls.loadGlobal_builtin (by rw [E7]; exact gl1) ?_ (by rw [E8]; exact bl1) ((bl2 _ (by decide +kernel)).trans (by decide +kernel)) ⟨rfl, ?_⟩)
  · exact PySem.W.mg_none_of X gl T.sup
  refine wpAny_loadName_free E2 ((E1 _).trans sc) E6 ⟨_, X1 _ _ lcc, rfl⟩ ?_
  refine wpAny_loadName_local E2 ((E1 _).trans sself) (by rw [E3]; exact hn1) v0 ?_
  refine PySem.ks_wpAny_isType_cls (X1 _ _ hD1) hD2 ⟨rfl, ?_⟩
  refine PySem.ks_wpAny_call_super (X1 _ _ hD1) hD2 he1 rfl (fun c z => nomatch z) (PySem.W.looks_mroIn X1 T.own) (fun h2 e2 k2 => ?_)
  have X2 : K.In h2 := X1.keeps k2
  have he2 := k2 _ _ he1
  have I2 : PySem.W.InstAt h2 e (exO C t0 none) C none := ⟨he2, rfl, rfl, trivial⟩
  refine PySem.W.kxs_getMethod PySem.W.kxs_ValueError e2 (PySem.W.looks_opaque X2 T.opq) (l₀ := .ref C :: bm) (l := bm) (fun A Q E s k q => wpAny_bind ((PySem.W.looks_clsIn X2 hcl) A _ E s k (wpAny_pure q))) ?_ X2 along (I2.type.andThen (PySem.W.looks_subIn X2 T.val)) (PySem.W.ks_ne X2 I2 hcl) (by decide) ?_
  · simp [List.dropWhile_cons]
  have e3 : (h2.push (PySem.W.kxs_mw "ValueError.__init__" e)).get? h2.objs.size = some (PySem.W.kxs_mw "ValueError.__init__" e) := Heap.get?_push_at rfl rfl
  have k3 : ∀ b o, h2.get? b = some o → (h2.push (PySem.W.kxs_mw "ValueError.__init__" e)).get? b = some o := fun b o z => Heap.get?_push_of_some _ z
  have nx : ∀ {h4 : Heap}, (∀ b o, b ≠ e → h1.get? b = some o → h4.get? b = some o) → ∀ b o, b ≠ e → hp.get? b = some o → h4.get? b = some o := fun k b o hb z => k b o hb (hk1 b o z)
  refine call_bw1 (e := e) st E2 ((E1 _).trans sx) dx_ (by rw [E3]; exact nsL fun b o hb z => k3 _ _ (k2 _ _ z)) v1 e3 ?_
  refine wpAny_call (codeAny_of_tree ?_)
  show wpAny _ (A.deeper _).in1 (callAny (.ref h2.objs.size) ⟨[v], []⟩) _ _ _
  simp only [callAny]
  refine wpAny_bind (wpAny_load e3 ?_)
  have y1 : (Value.type "method-wrapper" == Value.type "method" || Value.type "method-wrapper" == Value.type "builtin_function_or_method" || Value.type "method-wrapper" == Value.type "method-wrapper") = true := by decide
  simp only [PySem.W.kxs_mw, y1, if_true]
  refine PySem.W.KFB.if_so (by decide) ?_
  refine wpAny_bind (PySem.W.check_bound_init F.excBase_ValueError.toExcCallFacts (k3 _ _ (X2 _ _ hC)) (k3 _ _ he2) rfl ?_)
  refine wpAny_bind (wpAny_pure (wpAny_pure ?_))
  refine ⟨plainId_quiet F.excBase_ValueError.init.plain _, codeAny_builtin F.excBase_ValueError.initEntry ?_⟩
  refine PySem.W.exc_init_tree (cls := .ref C) (t0 := t0) (dv := none) (c2 := .none) (c3 := .none) (b4 := .bool false) (k3 _ _ he2) (by show 1 ≤ sizeLine; rw [sizeLine_eq]; decide) fun h5 k5' e5 _ => ?_
  have k15 : ∀ b o, b ≠ e → h1.get? b = some o → h5.get? b = some o := fun b o hb z => k5' b o hb (k3 _ _ (k2 _ _ z))
  have X5 : K.In h5 := fun b o z => k15 b o (fun q => by subst q; rw [ke] at z; cases z) (X1 b o z)
  refine PySem.ks_wpAt_execs_cons (PySem.ks_wpAt_Assign_Attr (wpAt_of_wpAny ?_) s2)
  refine wpAny_Name (wpAny_loadName_local E2 ((E1 _).trans sx) (by rw [E3]; exact nsL k15) v1 ?_) dx_
  refine wpAny_Name (wpAny_loadName_local E2 ((E1 _).trans sself) (by rw [E3]; exact nsL k15) v0 ?_) ds
  obtain ⟨t5, e5⟩ : ∃ t5, h5.get? e = some (exO C t5 none) := ⟨_, e5⟩
  refine PySem.W.set_plain X5 (ox := exO C t5 none) (od := none) ⟨e5, rfl, rfl, trivial⟩ T.sa ?_
  refine PySem.HandSPX.exc_osa X5 (x := e) e5 hcl (show PySem.HandSPX.refsVE (.ref C :: bm) = true from hbm) rfl T.no (fun h6 tk6 dx k6 dn dne hx6 hn6 => ?_)
  refine wpAt_of_wpAny (wpAny_execs_nil (fin h6 t5 dx tk6 (fun b o hb z => k6 b o hb (nx k15 b o hb z)) ?_ hx6 hn6))
  obtain ⟨oL, _, _, hL, _⟩ := nsL k15
  exact Nat.le_of_lt (Nat.lt_of_lt_of_le (Heap.lt_size hL) dn)
end
end Sq
set_option maxHeartbeats 4000000
namespace Sq
open PySem PySem.Spec PyProof.Rows L2
section
variable {X : Cx} {C fI : Addr} {f c : Str} {e : Expr} {te : TE} {p pos : Pos}
def tMkS (C : Addr) (f : Str) (ta : TA) : L2.St → Hp → XK → Prop := fun σ G Q => ta σ G fun vs G1 => ∃ v, vs = [v] ∧ ∀ dd, G1 dd = none → Q (.ref C) (some dd) (upd G1 dd (.xd [(f, v)]))
theorem pmk_sup {ta : TA} (T : SupK X.prog X.K C fI f) (gC : X.mg c = some (.ref C)) (hr : Room 1 X.A) (ha : PA X [e] ta) (hg : Gl X c := by rfl) (hdb : (c == ("__debug__" : Str)) = false := by decide)
    (st : starEach [e] X.env = (false, eval e X.env) :: starEach [] X.env := by rfl) (hpl : (backTo pos (starEach [] X.env)).any (·.1) = false := by rfl) : PMk X (.Call (.Name c p) [e] [] pos) (tMkS C f ta) := by
  intro pn z σ G Q I hw
  refine wpAny_Call_Name_kw (ld_glob I hg gC ?_ hdb)
  refine PySem.W.callWith_K (h₀ := X.base) I.ok.mod.kin T.kp (thn (ha.run pos pn z σ G _ I hw) fun us z1 ⟨vs, G1, I1, r1, v, ev, q⟩ => ⟨I1.kIn, ?_⟩) st hpl
  subst ev
  obtain ⟨nm, qn, N, bs, bm, sn, sub, ab, col, dd, k0, k1, k2, k3, k5, hC, hbm, along⟩ := id T.cls
  obtain ⟨u, rfl, ru⟩ := vals1 r1
  show wpAny _ _ (call (.ref C) [u]) _ _ _
  obtain ⟨hp, g, d, t, os⟩ := z1
  obtain ⟨mb, bl, bl2⟩ := I1.mod.blt
  have kk : ∀ b o, hp.get? b = some o → ((hp.push (PySem.W.kdv_tup [u])).push (PySem.HandSPX.excO C hp.objs.size)).get? b = some o := fun b o e => Heap.get?_push_of_some _ (Heap.get?_push_of_some _ e)
  have hget : ((hp.push (PySem.W.kdv_tup [u])).push (PySem.HandSPX.excO C hp.objs.size)).get? (hp.objs.size + 1) = some (PySem.HandSPX.excO C hp.objs.size) := by heap_get
  have XK : X.K.In hp := I1.kIn
  have ke : X.K.lookup (hp.objs.size + 1) = none := by
    cases y : X.K.lookup (hp.objs.size + 1) with
    | none => rfl
    | some o =>
      have q : (hp.objs.size + 1 : Nat) < hp.objs.size := Heap.lt_size (XK _ _ y)
      exact absurd q (by omega)
  refine wpAny_call (PySem.HandSPX.call_own F.excBase_ValueError (fun Y => PySem.HandSPX.refsVE_contains Y bm hbm) (XK _ _ hC) (PySem.W.looks_findIn XK T.ini) (fun self => PySem.W.bind_fn XK self T.tyI) (by show 1 ≤ sizeLine; rw [sizeLine_eq]; decide) ?_)
  refine sup_init (e := hp.objs.size + 1) T (Room.depth (hr.make C [u] [])) (XK.keeps kk) ((I1.mod.glob.keeps I1.bk).keeps kk) ((bl.keeps I1.bk).keeps kk) bl2 ?_ hget ke fun h' t1 dx tk' k' dn e' hn' => ?_
  · exact (I1.mod.nolimit.keeps I1.bk).keeps kk
  have dne : dx ≠ hp.objs.size + 1 := fun y => by
    obtain ⟨o, _, _, e1, e2, _⟩ := hn'
    rw [y, e'] at e1
    cases e1
    cases e2
  have lt2 : hp.objs.size ≤ dx := by
    have : ((hp.push (PySem.W.kdv_tup [u])).push (PySem.HandSPX.excO C hp.objs.size)).objs.size ≤ dx := dn
    have sp : ∀ (w : Heap) o, (w.push o).objs.size = w.objs.size + 1 := fun w o => Heap.size_push w o
    rw [sp, sp] at this
    exact Nat.le_trans (Nat.le_trans (Nat.le_succ _) (Nat.le_succ _)) this
  obtain ⟨H', gk, ge⟩ := restrict h' fun b => decide (b ≠ hp.objs.size + 1)
  have gk' : ∀ b, b ≠ hp.objs.size + 1 → H'.get? b = h'.get? b := fun b hb => gk b (decide_eq_true hb)
  have ge' : H'.get? (hp.objs.size + 1) = none := ge _ (by simp)
  have nfree : G1 dx = none := I1.hok.fresh lt2
  have keep : ∀ b o, hp.get? b = some o → H'.get? b = some o := fun b o y => by
    have hb : b ≠ hp.objs.size + 1 := fun w => by rw [w] at y; exact Nat.lt_irrefl _ (Nat.lt_trans (Nat.lt_succ_self hp.objs.size) (Heap.lt_size y))
    rw [gk' b hb]; exact k' b o hb (kk b o y)
  have rel : ∀ y, RelO (([(f, v)] : List (Str × V)).lookup y) (if y = f then some u else none) := relO_put (fs := []) ru fun _ => True.intro
  have J : Inv X pn σ (upd G1 dx (.xd [(f, v)])) ⟨H', g, d, tk', os⟩ := by
    refine I1.laid (t' := tk') (o := .xd [(f, v)]) keep lt2 ?_
    exact ⟨_, hn'.at fun o y => (gk' dx dne).trans y, rel⟩
  refine ⟨by first | exact rfl | trivial, hp.objs.size + 1, exO C t1 (some dx), #[.ref t1, .none, .none, .none, .bool false, .none], ⟨H', g, d, tk', os⟩, _, .ref C, some dx, rfl, J, fun b o y => ?_, ge', e', ⟨rfl, rfl⟩, rfl, rfl, ?_, rfl, ?_, raises_own T.bex T.ty, q dx nfree⟩
  · by_cases hb : b = hp.objs.size + 1
    · rw [hb, ge'] at y; cases y
    · rw [← gk' b hb]; exact y
  · rw [upd_ne (Ne.symm dne)]; exact I1.hok.fresh (Nat.le_succ _)
  · exact I1.bare
end
end Sq
set_option maxHeartbeats 4000000
namespace Sq
open PySem PySem.Spec PyProof.Rows L2
structure EqO (P : Program) (w : World) (K : PySem.W.Frag) (mg : Str → Option Value) (base : Heap) (k : Nat) (c : Str) (sp : FSp) : Prop where
  ex : ∃ (C g : Addr) (fd : FuncData) (ps : List Str), mg c = some (.ref C) ∧ KI K C ∧ PySem.W.findIn K (.ref C) "__eq__" = some (some (.ref g)) ∧ PySem.W.isFn K (.ref g) = true ∧
    PySem.W.findIn K (.ref C) "__ne__" = some (some (.builtin "object.__ne__")) ∧ (∀ t, t ∈ kinds → PySem.W.notFirst K C (.type t) = true) ∧ FnOk P w K mg base C8.CX0 k g fd ps (spOf K mg 2 sp) ∧ Binds K fd ps []
def rEqO (K : PySem.W.Frag) (mg : Str → Option Value) (c : Str) (sp : Sp) (g : Bool → Bool) : R2 := fun x y H Q => ∃ (C a dx : Addr) (fs : List (Str × V)) (t : Value), mg c = some (.ref C) ∧ x = .ref a ∧ H a = some (.ins C dx fs) ∧ TyX K H y t ∧
  PySem.W.notFirst K C t = true ∧ sp [x, y] H (fun v H' => ∃ b, v = .bl b ∧ Q (.bl (g b)) H') C8.E0
section
variable {X : Cx} {k j : Nat} {c : Str} {sp : Sp}
theorem run_fnAt {CX : CXT} {f : Addr} {fd : FuncData} {ps : List Str} {E : XK} {pins : List (Addr × Obj)} {σ : L2.St} {H : Hp} {s : Shared} {Q : VK} {us : List Value} {vs : List V} {A : Around} (F : FnOk X.prog X.w X.K X.mg X.base CX k f fd ps sp) (hr : Room k A) (fr : A.frames = X.A.frames)
    (hb : Binds X.K fd ps []) (hx : Passes CX X E) (I : Inv X pins σ H s) (r : Vals vs us) (h : sp vs H Q E) : wpAny (model X.prog X.w) A (call (.ref f) us) (EP X pins σ Q) X.xe s := by
  have hl := F.len _ _ _ _ h
  have e0 : Env0 X.prog X.w X.K X.mg X.base A X.stack s H := by
    have e := I.env0
    exact ⟨by rw [fr]; exact e.frames, e.mod, e.bs, e.bsz, e.funs, e.frf, e.hok, e.bare⟩
  refine wpAny_call (codeAny_mono (F.run A X.stack s H ⟨us, []⟩ us vs Q E hr e0 (by
    have := hb s us I.kIn (by rw [List.append_nil, ← r.length]; exact hl)
    rw [List.append_nil] at this
    exact this) r h) fun r s' hq => ?_)
  cases r with
  | error e => exact hx pins σ H s e s' I hq
  | ok fl =>
    cases fl with
    | ret u => exact I.after hq
    | next => exact False.elim hq
    | brk => exact False.elim hq
    | cont => exact False.elim hq
end
section
variable {X : Cx} {k j : Nat} {c : Str} {sp : FSp}
theorem or_eqO (m : EqO X.prog X.w X.K X.mg X.base k c sp) (hr : Room j X.A) (hk : k + 1 ≤ j) : OpR X (compareOp .Eq) (rEqO X.K X.mg c (spOf X.K X.mg 2 sp) id) := by
  obtain ⟨C, g, fd, ps, hC, ki, fe, fn, fne, nf, F, b⟩ := m.ex
  intro pins s σ H x y v u Q I rx ry h
  obtain ⟨C', a, dx, fs, t, hC', rfl, ha, ty, n1, q⟩ := h
  rw [hC] at hC'
  cases hC'
  cases rx
  obtain ⟨mA, O, _⟩ := ins_get I.hok ha
  obtain ⟨od, J, _⟩ := O.look
  obtain ⟨P, kt, p, _⟩ := kit_of I ry ty
  obtain ⟨mm, Fm⟩ := I.fr
  refine PySem.W.cmp_K (op := .Eq) hr.units0 Fm I.ok.mod.kin J (kt.ty _ _ I.kIn p) n1 fe fn ?_
  refine wpAny_mono (run_fnAt (us := [.ref a, u]) (vs := [.ref a, y]) F (hr.mono (Nat.le_of_succ_le hk)) rfl b C8.pass0 I (.cons rfl (.cons ry .nil)) q) (fun r s' z => ?_) fun _ _ z => z
  obtain ⟨w, H', I', rw', bb, rfl, q'⟩ := z
  cases rw'
  exact ⟨.bl bb, H', I', rfl, q'⟩
theorem or_neO (m : EqO X.prog X.w X.K X.mg X.base k c sp) (hr : Room j X.A) (hk : k + 1 ≤ j) : OpR X (compareOp .NotEq) (rEqO X.K X.mg c (spOf X.K X.mg 2 sp) not) := by
  obtain ⟨C, g, fd, ps, hC, ki, fe, fn, fne, nf, F, b⟩ := m.ex
  intro pins s σ H x y v u Q I rx ry h
  obtain ⟨C', a, dx, fs, t, hC', rfl, ha, ty, n1, q⟩ := h
  rw [hC] at hC'
  cases hC'
  cases rx
  obtain ⟨mA, O, _⟩ := ins_get I.hok ha
  obtain ⟨od, J, _⟩ := O.look
  obtain ⟨P, kt, p, _⟩ := kit_of I ry ty
  have hr1 : Room k X.A.in1 := (hr.mono hk).in1
  refine ne_own hr1.units0 I.kIn J (kt.ty _ _ I.kIn p) n1 fne fe fn ki.hm ?_
  refine wpAny_mono (run_fnAt (us := [.ref a, u]) (vs := [.ref a, y]) F hr1 rfl b C8.pass0 I (.cons rfl (.cons ry .nil)) q) (fun r s' z => ?_) fun _ _ z => z
  obtain ⟨w, H', I', rw', bb, rfl, q'⟩ := z
  cases rw'
  exact ⟨bb, rfl, .bl (!bb), H', I', rfl, q'⟩
def fEqO (c : Str) (sp : FSp) (g : Bool → Bool) : F2 := fun S x y Q => (atts S c x).isSome = true ∧ ((kindT (view S y)).isSome = true ∨ (atts S c y).isSome = true) ∧ sp [x, y] S fun r S1 => ∃ b, r = .bl b ∧ Q (.bl (g b)) S1
theorem opd_eqO {P : Program} {w : World} {base : Heap} {K : PySem.W.Frag} {mg : Str → Option Value} {Z : Zt} (m : EqO P w K mg base k c sp) {g : Bool → Bool} : OpD K mg Z (rEqO K mg c (spOf K mg 2 sp) g) (fEqO c sp g) := by
  obtain ⟨C, _, _, _, hC, ki, _, _, _, nf, _, _⟩ := m.ex
  intro I μ S H x y a b Q Φ ok ra rb q kp
  obtain ⟨q1, q2, q⟩ := q
  obtain ⟨fs, q1⟩ := Option.isSome_iff_exists.mp q1
  obtain ⟨p1, C', dx, fv, rfl, hC', h1, _⟩ := atts_ok ok ra q1
  rw [hC] at hC'
  cases hC'
  have tt : ∃ t, TyX K H y t ∧ PySem.W.notFirst K C t = true := by
    rcases q2 with q2 | q2
    · obtain ⟨t, ht⟩ := Option.isSome_iff_exists.mp q2
      exact ⟨_, kind_ty ok rb ht, nf t (kindT_in ht)⟩
    · obtain ⟨gs, q2⟩ := Option.isSome_iff_exists.mp q2
      obtain ⟨p2, C', dy, gv, rfl, hC', h2, _⟩ := atts_ok ok rb q2
      rw [hC] at hC'
      cases hC'
      exact ⟨_, .base (.ins h2 ki.cl ki.ha ki.hn ki.htk ki.hm), by simp [PySem.W.notFirst]⟩
  obtain ⟨t, t1, t2⟩ := tt
  exact ⟨C, p1, dx, fv, t, hC, rfl, h1, t1, t2, rfl, [a, b], Z, I, μ, S, _, .cons ra (.cons rb .nil), ok, q, fun v d I' μ' S' H' e o r hq => by
    obtain ⟨bb, rfl, hq⟩ := hq
    exact ⟨bb, rp_bl r, kp _ _ I' μ' S' H' e o .bl hq⟩⟩
theorem cm_neO (m : EqO X.prog X.w X.K X.mg X.base k c sp) (hr : Room j X.A) (hk : k + 1 ≤ j) : CmpR X .NotEq (rEqO X.K X.mg c (spOf X.K X.mg 2 sp) not) (fEqO c sp not) := ⟨or_neO m hr hk, fun _ => opd_eqO m⟩
end
structure DE (K : PySem.W.Frag) (mg : Str → Option Value) (c ql : Str) (s : Stmt) (ps : List Str) : Prop where
  ex : ∃ (C f : Addr) (fd : FuncData), mg c = some (.ref C) ∧ KI K C ∧ PySem.W.findIn K (.ref C) "__eq__" = some (some (.ref f)) ∧ PySem.W.isFn K (.ref f) = true ∧
    PySem.W.findIn K (.ref C) "__ne__" = some (some (.builtin "object.__ne__")) ∧ (∀ t, t ∈ kinds → PySem.W.notFirst K C (.type t) = true) ∧ C8.Fun K "__eq__" ql s f fd ∧ Binds K fd ps []
theorem DE.eq {P : Program} {w : World} {K : PySem.W.Frag} {mg : Str → Option Value} {base : Heap} {c ql : Str} {s : Stmt} {ps N : List Str} {k : Nat} {wb : WS} {sp : FSp} (d : DE K mg c ql s ps) (h2 : ps.length = 2) (S : FnScope N ps (C8.fnScope s)) (b : Bd P w K mg base k N ql s wb) (law : LawD ps N wb sp) : EqO P w K mg base (k + 1) c sp := by
  obtain ⟨C, f, fd, hC, ki, fe, fn, fne, nf, F, bi⟩ := d.ex
  exact ⟨C, f, fd, ps, hC, ki, fe, fn, fne, nf, h2 ▸ fn_data F S b law, bi⟩
theorem notFirst_kinds {K : PySem.W.Frag} {C : Addr} (t : String) (ht : t ∈ kinds) : PySem.W.notFirst K C (.type t) = true := by
  unfold PySem.W.notFirst
  rw [kinds_sub ht C]
  simp
theorem DE.of {K : PySem.W.Frag} {mg : Str → Option Value} {h : Heap} {c ql : Str} {s : Stmt} {ps : List Str} {f C : Addr} {oc kV dc pm cd ct : Value} {od an : Option Addr} {sl : Array (Option Value)} (X : K.In h) (G : h.Ns mainGlobals mg) (aC : PySem.W.nsIn K mainGlobals c = some (some (.ref C))) (ki : KI K C) (a : PySem.W.findIn K (.ref C) "__eq__" = some (some (.ref f))) (i : PySem.W.isFn K (.ref f) = true)
    (ne : PySem.W.findIn K (.ref C) "__ne__" = some (some (.builtin "object.__ne__")))
    (l : K.lookup f = some ⟨oc, od, .func (PySem.W.fnOf "__eq__" ql (C8.fnArgs s) (C8.fnBody s) (C8.fnScope s) .none kV dc pm an cd ct), sl⟩) (hc : PySem.W.codeIn K cd ql = true) (b : Plain "__eq__" ql s ps) : DE K mg c ql s ps :=
  ⟨C, f, _, PySem.W.mg_of X G aC, ki, a, i, ne, notFirst_kinds, fun_of l hc, (fun_of l hc).binds rfl b⟩
end Sq
set_option maxHeartbeats 4000000
namespace Sq
open PySem L2
local macro_rules | `(tactic| walk_at "sq") => `(tactic| simp only [↓wSeq, ↓wPar3, ↓fDIx, ↓lm1, ↓lm2, ↓lm3, ↓lm4, ↓lm6, ↓max2, ↓min2, ↓fPow, ↓wNeg, ↓wAsg, ↓wVar, ↓wC, ↓wOp, ↓wTest, ↓wIfS, ↓wRet, ↓wRetN, ↓wIf, ↓wCall, ↓wCons, ↓wNil, ↓wName, ↓wGTup, ↓wGCons, ↓wGNil, ↓wPar, ↓wTup, ↓wLst, ↓wAnd, ↓wOr, ↓wNot, ↓wTru, ↓tru, ↓wAndV, ↓wOrV, ↓wNotV, ↓wSkip, ↓wDrop, ↓fAdd, ↓fSub, ↓fMod, ↓fMul, ↓fMulA, ↓fDiv, ↓fEq, ↓fEqB, ↓fNe, ↓fCmp, ↓fI, ↓fIsN, ↓fNotN, ↓isNon, ↓fLen, ↓lenS, ↓fAbs, ↓fMax, ↓fMax2, ↓fMin, ↓fMin2, ↓fInt, ↓fIx, ↓fIn, ↓scV, ↓scVs, ↓wB, ↓wIsB, ↓wIsO, ↓kindT, ↓kindIs, ↓wFld, ↓atts, ↓wMeth, ↓wCallO, ↓wProp, ↓wSetA, ↓putA, ↓wNever, ↓gt, ↓st, ↓res_i, ↓res_b, ↓res_s, ↓res_n, ↓res_t, ↓res_l, ↓res_d, ↓res_c, ↓res_scr, ↓view_i, ↓view_b, ↓view_s, ↓view_n, ↓view_t, ↓view_l, ↓view_d, ↓view_c, ↓Rt.res, ↓Rt.view, ↓onS_some, ↓onS_none, ↓ro, ↓List.map_cons, ↓List.map_nil, ↓List.length_cons, ↓List.length_nil, ↓List.cons_append, ↓List.nil_append, ↓List.replicate_succ, ↓List.replicate_zero, Nat.reduceAdd, Nat.reduceSub, ↓Nat.add_zero, ↓Nat.zero_add, ↓Nat.sub_self, ↓so_inj, ↓so_beq, ↓at0, ↓at1, ↓at2, ↓at3, ↓gx0, ↓gx1, ↓gx2, ↓gx3, ↓nc0, ↓nc1, ↓nc2, ↓nc3, ↓nc4, ↓nc6, String.reduceBEq, ↓ix40, ↓ix41, ↓ix42, ↓set40, ↓set41, ↓set42, ↓List.set_set, ↓Bool.true_or, ↓Bool.or_true, ↓Bool.false_or, ↓Bool.or_false, ↓Bool.and_true, ↓Bool.true_and, ↓Bool.and_false, ↓Bool.false_and, ↓inV, ↓eqV, ↓List.any_cons, ↓List.any_nil, Int.reduceLE, Int.reduceLT, Int.reduceEq, String.reduceEq, ↓decide_true, ↓decide_false, ↓if_true, ↓if_false, ↓Bool.not_true, ↓Bool.not_false, reduceIte, ↓true_and, ↓and_true, ↓false_and, ↓and_false, ↓Bool.false_eq_true, ↓ite_true, ↓ite_false, reduceCtorEq])
local macro_rules | `(tactic| walk_at "sqh") => `(tactic| simp only [↓wSeq, ↓wPar3, ↓fDIx, ↓lm1, ↓lm2, ↓lm3, ↓lm4, ↓lm6, ↓max2, ↓min2, ↓fPow, ↓wNeg, ↓wAsg, ↓wVar, ↓wC, ↓wOp, ↓wTest, ↓wIfS, ↓wRet, ↓wRetN, ↓wIf, ↓wCall, ↓wCons, ↓wNil, ↓wName, ↓wGTup, ↓wGCons, ↓wGNil, ↓wPar, ↓wTup, ↓wLst, ↓wAnd, ↓wOr, ↓wNot, ↓wTru, ↓tru, ↓wAndV, ↓wOrV, ↓wNotV, ↓wSkip, ↓wDrop, ↓fAdd, ↓fSub, ↓fMod, ↓fMul, ↓fMulA, ↓fDiv, ↓fEq, ↓fEqB, ↓fNe, ↓fCmp, ↓fI, ↓fIsN, ↓fNotN, ↓isNon, ↓fLen, ↓lenS, ↓fAbs, ↓fMax, ↓fMax2, ↓fMin, ↓fMin2, ↓fInt, ↓fIx, ↓fIn, ↓scV, ↓scVs, ↓wB, ↓wIsB, ↓wIsO, ↓kindT, ↓kindIs, ↓wFld, ↓atts, ↓wMeth, ↓wCallO, ↓wProp, ↓wSetA, ↓putA, ↓wNever, ↓gt, ↓st, ↓res_i, ↓res_b, ↓res_s, ↓res_n, ↓res_t, ↓res_l, ↓res_d, ↓res_c, ↓res_scr, ↓view_i, ↓view_b, ↓view_s, ↓view_n, ↓view_t, ↓view_l, ↓view_d, ↓view_c, ↓Rt.res, ↓Rt.view, ↓onS_some, ↓onS_none, ↓ro, ↓List.map_cons, ↓List.map_nil, ↓List.length_cons, ↓List.length_nil, ↓List.cons_append, ↓List.nil_append, ↓List.replicate_succ, ↓List.replicate_zero, Nat.reduceAdd, Nat.reduceSub, ↓Nat.add_zero, ↓Nat.zero_add, ↓Nat.sub_self, ↓so_inj, ↓so_beq, ↓at0, ↓at1, ↓at2, ↓at3, ↓gx0, ↓gx1, ↓gx2, ↓gx3, ↓nc0, ↓nc1, ↓nc2, ↓nc3, ↓nc4, ↓nc6, String.reduceBEq, ↓ix40, ↓ix41, ↓ix42, ↓set40, ↓set41, ↓set42, ↓List.set_set, ↓Bool.true_or, ↓Bool.or_true, ↓Bool.false_or, ↓Bool.or_false, ↓Bool.and_true, ↓Bool.true_and, ↓Bool.and_false, ↓Bool.false_and, ↓inV, ↓eqV, ↓List.any_cons, ↓List.any_nil, Int.reduceLE, Int.reduceLT, Int.reduceEq, String.reduceEq, ↓decide_true, ↓decide_false, ↓if_true, ↓if_false, ↓Bool.not_true, ↓Bool.not_false, reduceIte, ↓true_and, ↓and_true, ↓false_and, ↓and_false, ↓Bool.false_eq_true, ↓ite_true, ↓ite_false, reduceCtorEq, ↓gt_st, ↓st_length, Nat.reduceEqDiff, Nat.reduceLT, Int.reduceToNat, Int.reduceEq, ↓List.length_map, ↓List.append_nil, *])
def rgI (a b : Int) : List Int := (List.range (b - a).toNat).map fun (i : Nat) => a + (i : Int)
theorem mem_rgI {a b x : Int} : x ∈ rgI a b ↔ a ≤ x ∧ x < b := by
  unfold rgI
  rw [List.mem_map]
  constructor
  · rintro ⟨i, hi, rfl⟩
    rw [List.mem_range] at hi
    omega
  · rintro ⟨h1, h2⟩
    refine ⟨(x - a).toNat, ?_, by omega⟩
    rw [List.mem_range]; omega
theorem rgI_len (a b : Int) : (rgI a b).length = (b - a).toNat := by simp [rgI]
theorem rgI_D (a b : Int) : (rgI a b).map D.int = rngD a (b - a).toNat := by simp [rgI, rngD]
theorem rgI_asc (a b : Int) : (rgI a b).Pairwise (· < ·) := by
  unfold rgI
  rw [List.pairwise_map]
  exact (List.pairwise_lt_range).imp fun h => by omega
def tellOf : List Int → List Int
  | [] => []
  | [m] => rgI m (m + 60)
  | m :: m' :: r => rgI m (min (m + 60) m') ++ tellOf (m' :: r)
theorem tell_ge : ∀ (r : List Int) (m : Int), (m :: r).Pairwise (· < ·) → ∀ x, x ∈ tellOf (m :: r) → m ≤ x
  | [], m, _, x, h => (mem_rgI.mp h).1
  | m' :: r, m, p, x, h => by
    rcases List.mem_append.mp h with h | h
    · exact (mem_rgI.mp h).1
    · have := tell_ge r m' (List.pairwise_cons.mp p).2 x h
      have := (List.pairwise_cons.mp p).1 m' (by simp)
      omega
theorem tell_asc : ∀ (r : List Int) (m : Int), (m :: r).Pairwise (· < ·) → (tellOf (m :: r)).Pairwise (· < ·)
  | [], m, _ => rgI_asc _ _
  | m' :: r, m, p => by
    have p2 := (List.pairwise_cons.mp p).2
    show (rgI m (min (m + 60) m') ++ tellOf (m' :: r)).Pairwise (· < ·)
    refine List.pairwise_append.mpr ⟨rgI_asc _ _, tell_asc r m' p2, fun x hx y hy => ?_⟩
    have := (mem_rgI.mp hx).2
    have := tell_ge r m' p2 y hy
    omega
theorem tell_top {B : Int} : ∀ (r : List Int) (m : Int), (∀ t, t ∈ m :: r → t ≤ B) → ∀ x, x ∈ tellOf (m :: r) → x < B + 60
  | [], m, h, x, hx => by
    have := (mem_rgI.mp hx).2
    have := h m (by simp)
    omega
  | m' :: r, m, h, x, hx => by
    rcases List.mem_append.mp hx with hx | hx
    · have := (mem_rgI.mp hx).2
      have := h m (by simp)
      omega
    · exact tell_top r m' (fun t ht => h t (by simp [ht])) x hx
theorem tell_at : ∀ (r : List Int) (m a : Int), (m :: r).Pairwise (· < ·) → m ≤ a → ∃ b, b ∈ tellOf (m :: r) ∧ b ≤ a ∧ (a - b) % 60 = 0 ∧ m ≤ b ∧ ∀ t, t ∈ m :: r → (t ≤ b ↔ t ≤ a)
  | [], m, a, _, h => by
    refine ⟨m + (a - m) % 60, mem_rgI.mpr ⟨by omega, by omega⟩, by omega, by omega, by omega, fun t ht => ?_⟩
    rw [List.mem_singleton] at ht
    subst ht
    omega
  | m' :: r, m, a, p, h => by
    have hm := (List.pairwise_cons.mp p).1
    by_cases z : m' ≤ a
    · obtain ⟨b, h1, h2, h3, h4, h5⟩ := tell_at r m' a (List.pairwise_cons.mp p).2 z
      have := hm m' (by simp)
      refine ⟨b, List.mem_append_right _ h1, h2, h3, by omega, fun t ht => ?_⟩
      rcases List.mem_cons.mp ht with rfl | ht
      · omega
      · exact h5 t ht
    · refine ⟨m + (a - m) % 60, List.mem_append_left _ (mem_rgI.mpr ⟨by omega, by omega⟩), by omega, by omega, by omega, fun t ht => ?_⟩
      rcases List.mem_cons.mp ht with rfl | ht
      · omega
      · have : m' ≤ t := by
          rcases List.mem_cons.mp ht with rfl | h'
          · exact Int.le_refl _
          · have := (List.pairwise_cons.mp (List.pairwise_cons.mp p).2).1 t h'
            omega
        omega
theorem six_rounds {a b q : Int} (h : (a - b) % 60 = 0) (q1 : 1 ≤ q) (q6 : q ≤ 6) : a - a % q = b - b % q + (a - b) := by
  have hq : q = 1 ∨ q = 2 ∨ q = 3 ∨ q = 4 ∨ q = 5 ∨ q = 6 := by omega
  rcases hq with rfl | rfl | rfl | rfl | rfl | rfl <;> omega
theorem thr_bds : ∀ r : Rt, thr r ∈ bds r
  | .at t q => by simp [thr, bds]
  | .or x y => by
    have hx := thr_bds x
    have hy := thr_bds y
    unfold thr bds
    rcases Int.le_total (thr x) (thr y) with z | z
    · rw [Int.min_eq_left z]; exact List.mem_append_left _ hx
    · rw [Int.min_eq_right z]; exact List.mem_append_right _ hy
  | .and x y => by
    have hx := thr_bds x
    have hy := thr_bds y
    unfold thr bds
    rcases Int.le_total (thr x) (thr y) with z | z
    · rw [Int.max_eq_right z]; exact List.mem_append_right _ hy
    · rw [Int.max_eq_left z]; exact List.mem_append_left _ hx
theorem given_round {a b : Int} (hb : 0 ≤ b) (hab : b ≤ a) (h60 : (a - b) % 60 = 0) : ∀ r : Rt, r.ok → (∀ t, t ∈ bds r → (t ≤ b ↔ t ≤ a)) → thr r ≤ b → given r a = given r b + (a - b)
  | .at t q, ok, ht, hl => by
    obtain ⟨h1, h2, h3⟩ := ok
    unfold thr at hl
    unfold given
    rw [if_pos (by omega), if_pos (by omega)]
    exact six_rounds h60 h2 h3
  | .or x y, ok, ht, hl => by
    have hx : ∀ t, t ∈ bds x → (t ≤ b ↔ t ≤ a) := fun t h => ht t (List.mem_append_left _ h)
    have hy : ∀ t, t ∈ bds y → (t ≤ b ↔ t ≤ a) := fun t h => ht t (List.mem_append_right _ h)
    have rx := given_round hb hab h60 x ok.1 hx
    have ry := given_round hb hab h60 y ok.2 hy
    have tx := hx _ (thr_bds x)
    have ty := hy _ (thr_bds y)
    have lx := given_low x a ok.1 (by omega)
    have ly := given_low y a ok.2 (by omega)
    have lx' := given_low x b ok.1 hb
    have ly' := given_low y b ok.2 hb
    have gx : thr x ≤ b → 0 < given x b := fun h => (given_high x b ok.1 h).1
    have gy : thr y ≤ b → 0 < given y b := fun h => (given_high y b ok.2 h).1
    unfold thr at hl
    unfold given
    by_cases zx : thr x ≤ b <;> by_cases zy : thr y ≤ b
    · have := rx zx; have := ry zy
      split <;> split <;> omega
    · have := rx zx; have := ly (by omega); have := ly' (by omega); have := gx zx
      split <;> split <;> omega
    · have := ry zy; have := lx (by omega); have := lx' (by omega); have := gy zy
      split <;> split <;> omega
    · omega
  | .and x y, ok, ht, hl => by
    unfold thr at hl
    have rx := given_round hb hab h60 x ok.1 (fun t h => ht t (List.mem_append_left _ h)) (by omega)
    have ry := given_round hb hab h60 y ok.2 (fun t h => ht t (List.mem_append_right _ h)) (by omega)
    unfold given
    split <;> split <;> omega
structure Tells (x y : Rt) (xs : List Int) : Prop where
  ex : ∃ (m : Int) (r : List Int), (m :: r).Pairwise (· < ·) ∧ (∀ k, k ∈ m :: r ↔ k ∈ bds x ++ bds y) ∧ xs = tellOf (m :: r)
theorem bds_pos (r : Rt) (ok : r.ok) : ∀ t, t ∈ bds r → 1 ≤ t := by
  induction r with
  | «at» t q => intro u hu; simp only [bds, List.mem_singleton] at hu; have := ok.1; have := ok.2; omega
  | or a b ha hb => intro u hu; rcases List.mem_append.mp hu with h | h; exact ha ok.1 u h; exact hb ok.2 u h
  | and a b ha hb => intro u hu; rcases List.mem_append.mp hu with h | h; exact ha ok.1 u h; exact hb ok.2 u h
theorem tells_at {x y : Rt} {xs : List Int} (T : Tells x y xs) (okx : x.ok) (oky : y.ok) {a : Int} (ha : 0 ≤ a) (hd : given x a ≠ given y a) : ∃ b, b ∈ xs ∧ b ≤ a ∧ 0 ≤ b ∧ given x b ≠ given y b ∧ (given x a > given y a ↔ given x b > given y b) := by
  obtain ⟨m, r, p, hm, rfl⟩ := T.ex
  have m1 : 1 ≤ m := by
    rcases List.mem_append.mp ((hm m).mp (by simp)) with h | h
    · exact bds_pos x okx m h
    · exact bds_pos y oky m h
  have mle : ∀ t, t ∈ bds x ++ bds y → m ≤ t := fun t ht => by
    rcases List.mem_cons.mp ((hm t).mpr ht) with rfl | h
    · exact Int.le_refl _
    · have := (List.pairwise_cons.mp p).1 t h; omega
  have tx := mle _ (List.mem_append_left _ (thr_bds x))
  have ty := mle _ (List.mem_append_right _ (thr_bds y))
  have hma : m ≤ a := by
    by_cases z : m ≤ a
    · exact z
    · exfalso
      apply hd
      rw [given_low x a okx ha (by omega), given_low y a oky ha (by omega)]
  obtain ⟨b, h1, h2, h3, h4, h5⟩ := tell_at r m a p hma
  have b0 : 0 ≤ b := by omega
  have hx : ∀ t, t ∈ bds x → (t ≤ b ↔ t ≤ a) := fun t h => h5 t ((hm t).mpr (List.mem_append_left _ h))
  have hy : ∀ t, t ∈ bds y → (t ≤ b ↔ t ≤ a) := fun t h => h5 t ((hm t).mpr (List.mem_append_right _ h))
  have rx := given_round b0 h2 h3 x okx hx
  have ry := given_round b0 h2 h3 y oky hy
  have bx := hx _ (thr_bds x)
  have bY := hy _ (thr_bds y)
  have lx := given_low x a okx ha
  have ly := given_low y a oky ha
  have lx' := given_low x b okx b0
  have ly' := given_low y b oky b0
  have gx : thr x ≤ b → 0 < given x b := fun h => (given_high x b okx h).1
  have gy : thr y ≤ b → 0 < given y b := fun h => (given_high y b oky h).1
  refine ⟨b, h1, h2, b0, ?_, ?_⟩
  · by_cases zx : thr x ≤ b <;> by_cases zy : thr y ≤ b
    · have := rx zx; have := ry zy; omega
    · have := gx zx; have := ly' (by omega); omega
    · have := gy zy; have := lx' (by omega); omega
    · have := lx (by omega); have := ly (by omega); omega
  · by_cases zx : thr x ≤ b <;> by_cases zy : thr y ≤ b
    · have := rx zx; have := ry zy; omega
    · have := gx zx; have := ly' (by omega); have := ly (by omega); have := rx zx; omega
    · have := gy zy; have := lx' (by omega); have := lx (by omega); have := ry zy; omega
    · have := lx (by omega); have := ly (by omega); omega
def Least (P : Int → Prop) : Option Int → Prop
  | none => ∀ a, 0 ≤ a → ¬ P a
  | some a => 0 ≤ a ∧ P a ∧ ∀ b, 0 ≤ b → b < a → ¬ P b
def optD : Option Int → D
  | none => .non
  | some a => .int a
theorem Least.uniq {P : Int → Prop} : ∀ {o o' : Option Int}, Least P o → Least P o' → o = o'
  | none, none, _, _ => rfl
  | none, some a, h, h' => absurd h'.2.1 (h a h'.1)
  | some a, none, h, h' => absurd h.2.1 (h' a h.1)
  | some a, some b, h, h' => by
    rcases Int.lt_or_le a b with z | z
    · exact absurd h.2.1 (h'.2.2 a h.1 z)
    · rcases Int.lt_or_le b a with w | w
      · exact absurd h'.2.1 (h.2.2 b h'.1 w)
      · rw [show a = b by omega]
def Rt.ats : Rt → List Rt
  | .at t q => [.at t q]
  | .or a b => a.ats ++ b.ats
  | .and a b => a.ats ++ b.ats
theorem ats_d : ∀ r : Rt, r.atoms = r.ats.map Rt.d
  | .at _ _ => rfl
  | .or a b => by simp [Rt.atoms, Rt.ats, ats_d a, ats_d b]
  | .and a b => by simp [Rt.atoms, Rt.ats, ats_d a, ats_d b]
theorem ats_bds : ∀ r : Rt, r.ats.map thr = bds r
  | .at _ _ => rfl
  | .or a b => by simp [bds, Rt.ats, ats_bds a, ats_bds b]
  | .and a b => by simp [bds, Rt.ats, ats_bds a, ats_bds b]
theorem ats_dep : ∀ (r a : Rt), a ∈ r.ats → a.dep = 1
  | .at _ _, a, h => by simp only [Rt.ats, List.mem_singleton] at h; subst h; rfl
  | .or x y, a, h => by rcases List.mem_append.mp h with h | h; exact ats_dep x a h; exact ats_dep y a h
  | .and x y, a, h => by rcases List.mem_append.mp h with h | h; exact ats_dep x a h; exact ats_dep y a h
theorem lm0 : (0 ≤ LIM) = True := by simp [LIM]
theorem compI_map {α : Type} {i : Nat} {we : WE} {ρ : Ro} {S : Sto} {Q : List Int → Sto → Prop} (f : α → D) (g : α → Int) : ∀ {as : List α} {acc : List Int}, acc.length + as.length < 4000 →
    (∀ a, a ∈ as → ∀ Q' : D → Sto → Prop, Q' (.int (g a)) S → we (st ρ i (some (f a))) S Q') → Q (acc ++ as.map g) S → compI (wName i) wYes we ρ Q (as.map f) acc S
  | [], acc, hl, he, q => by
    rw [List.map_nil]
    unfold compI
    simpa using q
  | a :: as, acc, hl, he, q => by
    rw [List.length_cons] at hl
    rw [List.map_cons]
    simp only [compI, wName, wYes, reduceIte]
    refine he a (by simp) _ ⟨by omega, ?_⟩
    exact compI_map f g (by rw [List.length_append, List.length_singleton]; omega) (fun a' ha => he a' (by simp [ha])) (by simpa using q)
def sp_telling_amounts : FSp := fun ds S Q => ∃ x y : Rt, ds = [x.d, y.d] ∧ x.num ≤ 6 ∧ y.num ≤ 6 ∧ lowS S ∧ ∀ xs : List Int, Tells x y xs → Q (.lst (xs.map D.int)) S
def sp_first_apart : FSp := fun ds S Q => ∃ x y : Rt, ds = [x.d, y.d] ∧ x.ok ∧ y.ok ∧ x.num ≤ 6 ∧ y.num ≤ 6 ∧ lowS S ∧ ∀ o, Least (fun a => given x a ≠ given y a) o → Q (optD o) S
def sp_Rule_eq : FSp := fun ds S Q => ∃ (x : Rt) (d : D), ds = [rule x, d] ∧ x.ok ∧ x.num ≤ 6 ∧ lowS S ∧
  ((∃ y : Rt, d = rule y ∧ y.ok ∧ y.num ≤ 6 ∧ ∀ b : Bool, (b = true ↔ ∀ a : Int, 0 ≤ a → given x a = given y a) → Q (.bl b) S) ∨ ((kindT d).isSome = true ∧ Q (.bl false) S))
def w_telling_amounts_elt1 : WE :=
  (wCall 1 sp_threshold_of [] (wCons (wVar 4) wNil))
def w_telling_amounts_p1 : WS :=
  (wAsg (wIf (wTest (wOp fEq (wOp fAdd (wVar 5) (wC (.int 1))) (wB fLen (wCons (wVar 3) wNil)))) (wOp fAdd (wVar 6) (wC (.int 60))) (wB fMin (wCons (wOp fAdd (wVar 6) (wC (.int 60))) (wCons (wOp fIx (wVar 3) (wOp fAdd (wVar 5) (wC (.int 1)))) wNil)))) (wName 7))
def w_telling_amounts_p2 : WS :=
  (wDrop (wExt (wVar 2) (wLRg2 (wVar 6) (wVar 7))))
def w_telling_amounts_loop2 : WS :=
  (wSeq (w_telling_amounts_p1) (w_telling_amounts_p2))
def w_telling_amounts_0 : WS :=
  (wAsg (wLstM wNil) (wName 2))
def w_telling_amounts_1 : WS :=
  (wAsg (wSortSC (wItL (wOp fAdd (wCall 1 sp_atoms_of [] (wCons (wVar 0) wNil)) (wCall 1 sp_atoms_of [] (wCons (wVar 1) wNil)))) (wName 4) wYes (w_telling_amounts_elt1) [4]) (wName 3))
def w_telling_amounts_2 : WS :=
  (wFor (wEnum (wVar 3)) (wGTup 2 (wGCons (wName 5) (wGCons (wName 6) wGNil))) (w_telling_amounts_loop2))
def w_telling_amounts_3 : WS :=
  (wRet (wVar 2))
def w_telling_amounts : WS :=
  (wSeq (w_telling_amounts_0) (wSeq (w_telling_amounts_1) (wSeq (w_telling_amounts_2) (w_telling_amounts_3))))
def n_telling_amounts : List Str := ["one", "other", "found", "marks", "atom", "k", "mark", "last"]
def w_first_apart : WS :=
  (wSeq (wFor (wItL (wCall 2 sp_telling_amounts [] (wCons (wVar 0) (wCons (wVar 1) wNil)))) (wName 2) (wIfS (wTest (wOp fNe (wCall 2 sp_given_of [] (wCons (wVar 0) (wCons (wVar 2) wNil))) (wCall 2 sp_given_of [] (wCons (wVar 1) (wCons (wVar 2) wNil))))) (wRet (wVar 2)) wSkip)) (wRet (wC .non)))
def n_first_apart : List Str := ["one", "other", "amount"]
def w_Rule_eq : WS :=
  (wRet (wAndV (wIsO "Rule" (wVar 1)) (wOp fIsN (wCall 2 sp_first_apart [] (wCons (wFld "Rule" "its_tree" (wVar 0)) (wCons (wFld "Rule" "its_tree" (wVar 1)) wNil))) (wC .non))))
def n_Rule_eq : List Str := ["self", "other"]
section
variable {x y : Rt} {S : Sto}
theorem tell_loop {κ : WK} {ms : List Int} (q : ∀ (ρ : Ro), gt ρ 2 = some (.h S.length) → κ.nx ρ (S ++ [.lst ((tellOf ms).map D.int)])) (hm : ms.length ≤ 60) : ∀ (suf pre acc : List Int) (s0 s1 s4 s5 s6 s7 : Option D), pre ++ suf = ms → acc ++ tellOf suf = tellOf ms →
    (acc.length ≤ 60 * pre.length) →
    loopD (wGTup 2 (wGCons (wName 5) (wGCons (wName 6) wGNil))) w_telling_amounts_loop2 κ ((suf.zipIdx pre.length).map fun q => D.tup [.int (q.2 : Nat), .int q.1]) [s0, s1, some (.h S.length), some (.lst (ms.map D.int)), s4, s5, s6, s7] (S ++ [.lst (acc.map D.int)])
  | [], pre, acc, s0, s1, s4, s5, s6, s7, _, ha, hl => by
    unfold loopD
    rw [show acc = tellOf ms by simpa [tellOf] using ha]
    exact q _ rfl
  | m :: suf, pre, acc, s0, s1, s4, s5, s6, s7, hp, ha, hl => by
    have hL : ∀ m : M, (S ++ [m])[S.length]? = some m := fun m => by rw [List.getElem?_append_right (Nat.le_refl _)]; simp
    have r1 : ∀ L : List D, res (S ++ [.lst L]) (.h S.length) = .h S.length := fun L => res_hl (hL _)
    have s1' : ∀ m m' : M, (S ++ [m]).set S.length m' = S ++ [m'] := fun m m' => by rw [List.set_append_right _ _ (Nat.le_refl _), Nat.sub_self]; rfl
    have hpl : pre.length + (suf.length + 1) = ms.length := by rw [← hp]; simp
    rw [List.zipIdx_cons, List.map_cons]
    unfold loopD
    simp only [wGTup, wGCons, wName, wGNil, view_t, st]
    simp only [List.length_cons, List.length_nil, Nat.reduceAdd, true_and]
    unfold w_telling_amounts_loop2
    rw [wSeq]
    have fin : ∀ (κ' : WK), κ'.nx = loopD (wGTup 2 (wGCons (wName 5) (wGCons (wName 6) wGNil))) w_telling_amounts_loop2 κ ((suf.zipIdx (pre.length + 1)).map fun q => D.tup [.int (q.2 : Nat), .int q.1]) → ∀ last : Int, (last = if suf = [] then m + 60 else min (m + 60) (suf.headD 0)) →
        w_telling_amounts_p2 κ' [s0, s1, some (.h S.length), some (.lst (ms.map D.int)), s4, some (.int (pre.length : Nat)), some (.int m), some (.int last)] (S ++ [.lst (acc.map D.int)]) := fun κ' hκ last hlast => by
      have hn : (last - m).toNat ≤ 60 := by subst hlast; split <;> omega
      unfold w_telling_amounts_p2
      simp only [wDrop, wExt, wVar, gt, onS_some, r1, hL, wLRg2, res_i, view_l, s1', true_and, rngD_length, List.length_map]
      have b1 : acc.length ≤ 3600 := Nat.le_trans hl (by omega)
      refine ⟨Nat.le_trans hn (by decide), by unfold LIM; omega, ?_⟩
      rw [← rgI_D, ← List.map_append, hκ]
      have z := tell_loop q hm suf (pre ++ [m]) (acc ++ rgI m last) s0 s1 s4 (some (.int (pre.length : Nat))) (some (.int m)) (some (.int last)) (by rw [List.append_assoc]; exact hp) (by
        rw [List.append_assoc, ← ha]
        congr 1
        subst hlast
        cases suf with
        | nil => simp [tellOf]
        | cons m' r => simp [tellOf]) (by rw [List.length_append, rgI_len, List.length_append, List.length_singleton]; omega)
      rw [List.length_append, List.length_singleton] at z
      exact z
    unfold w_telling_amounts_p1
    simp only [wAsg, wIf, wTest, wOp, wVar, wC, gt, onS_some, res_i, res_l, wB, wCons, wNil, fLen, lenS, view_l, List.length_map, fAdd, view_i, fEq, fEqB, scV, tru, wName, st]
    cases suf with
    | nil =>
      simp only [List.length_nil] at hpl
      have e : decide ((pre.length : Int) + 1 = (ms.length : Int)) = true := by simp; omega
      simp only [e, if_true]
      exact fin _ rfl _ (by simp)
    | cons m' r =>
      simp only [List.length_cons] at hpl
      have e : decide ((pre.length : Int) + 1 = (ms.length : Int)) = false := by simp; omega
      have e2 : atI (ms.map D.int) ((pre.length : Int) + 1) = some (.int m') := by
        have := atN (ms.map D.int) (pre.length + 1)
        rw [show (((pre.length + 1 : Nat)) : Int) = (pre.length : Int) + 1 by omega] at this
        rw [this, List.getElem?_map, ← hp, List.getElem?_append_right (by omega)]
        simp
      simp only [e, Bool.false_eq_true, if_false, fIx, view_l, view_i, e2, onS_some, fMin, fMin2]
      refine fin _ rfl _ ?_
      simp only [reduceCtorEq, if_false, List.headD_cons]
      omega
theorem law_telling_amounts (ds : List D) (S : Sto) (Φ : D → Sto → Prop) (h : sp_telling_amounts ds S Φ) : w_telling_amounts { nx := fun _ _ => False, rt := CutR S.length Φ } (ro n_telling_amounts ds) S := by
  obtain ⟨x, y, rfl, hx, hy, ls, q⟩ := h
  have hL : ∀ m : M, (S ++ [m])[S.length]? = some m := fun m => by rw [List.getElem?_append_right (Nat.le_refl _)]; simp
  have r1 : ∀ L : List D, res (S ++ [.lst L]) (.h S.length) = .h S.length := fun L => res_hl (hL _)
  have dx := x.dep_num
  have dy := y.dep_num
  have nx := x.num_pos
  have ny := y.num_pos
  have lx := x.atoms_len
  have ly := y.atoms_len
  unfold w_telling_amounts n_telling_amounts
  rw [wSeq]
  unfold w_telling_amounts_0
  simp only [wAsg, wLstM, wNil, wName, ro, List.map_cons, List.map_nil, List.length_cons, List.length_nil, List.cons_append, List.nil_append, Nat.reduceAdd, Nat.reduceSub, List.replicate_succ, List.replicate_zero, st, lm0, true_and]
  rw [wSeq]
  unfold w_telling_amounts_1
  simp only [wAsg, wSortSC, wItL, wOp, wCall, wCons, wNil, wVar, gt, onS_some, Rt.res, List.length_cons, List.length_nil, List.append_nil, Nat.reduceAdd, true_and]
  refine ⟨x, rfl, by omega, by omega, ?_⟩
  refine ⟨y, rfl, by omega, by omega, ?_⟩
  simp only [fAdd, view_l]
  refine ⟨by unfold LIM; omega, ?_⟩
  rw [ats_d, ats_d, ← List.map_append]
  have al : (x.ats ++ y.ats).length ≤ 12 := by
    rw [ats_d, List.length_map] at lx ly
    rw [List.length_append]; omega
  refine compI_map Rt.d thr (by simp only [List.length_nil]; omega) (fun a ha Q' hq => ?_) ?_
  · unfold w_telling_amounts_elt1
    simp only [wCall, wCons, wNil, wVar, wp, st, gt, onS_some, Rt.res, List.length_cons, List.length_nil, List.append_nil, Nat.reduceAdd, true_and]
    refine ⟨a, rfl, ?_, hq⟩
    rcases List.mem_append.mp ha with h | h
    · rw [ats_dep x a h]; decide
    · rw [ats_dep y a h]; decide
  rw [List.nil_append, List.map_append, ats_bds, ats_bds]
  refine ⟨by rw [← ats_bds, ← ats_bds, ← List.map_append, List.length_map]; omega, fun ms hs hm => ?_⟩
  have lm : ms.length ≤ 60 := by
    have : ms.Nodup := hs.imp fun h => Int.ne_of_lt h
    have z := List.Nodup.length_le_of_subset this (l₂ := bds x ++ bds y) fun t ht => (hm t).mp ht
    rw [← ats_bds, ← ats_bds, ← List.map_append, List.length_map] at z
    omega
  simp only [wName, st]
  rw [wSeq]
  unfold w_telling_amounts_2
  unfold wFor
  simp only [wEnum, wVar, gt, onS_some, res_l]
  have en : enumD (ms.map D.int) = (ms.zipIdx 0).map fun q => D.tup [.int (q.2 : Nat), .int q.1] := by
    unfold enumD
    rw [List.zipIdx_map, List.map_map]
    rfl
  rw [en]
  refine tell_loop (ms := ms) (fun ρ g2 => ?_) lm ms [] [] _ _ _ _ _ _ rfl rfl (by simp)
  unfold w_telling_amounts_3
  simp only [wRet, wVar, g2, onS_some, r1]
  refine ⟨S.length, _, rfl, hL _, Nat.le_refl _, lows_int _ _, fun j m hj hm => ?_, ?_⟩
  · rw [List.getElem?_append_left hj] at hm
    exact ls j m hj hm
  · rw [List.take_left]
    refine q _ ?_
    cases ms with
    | nil =>
      have := (hm (thr x)).mpr (List.mem_append_left _ (thr_bds x))
      simp at this
    | cons m r => exact ⟨m, r, hs, hm, rfl⟩
theorem law_first_apart (ds : List D) (S : Sto) (Φ : D → Sto → Prop) (h : sp_first_apart ds S Φ) : w_first_apart { nx := fun _ S' => Φ .non S', rt := Φ } (ro n_first_apart ds) S := by
  obtain ⟨x, y, rfl, okx, oky, hx, hy, ls, q⟩ := h
  have dx := x.dep_num
  have dy := y.dep_num
  unfold w_first_apart n_first_apart
  rw [wSeq]
  unfold wFor
  simp only [wItL, wCall, wCons, wNil, wVar, ro, List.map_cons, List.map_nil, List.length_cons, List.length_nil, List.cons_append, List.nil_append, Nat.reduceAdd, Nat.reduceSub, List.replicate_succ, List.replicate_zero, gt, onS_some, Rt.res, List.append_nil, true_and]
  refine ⟨x, y, rfl, hx, hy, ls, fun xs T => ?_⟩
  have hasc : xs.Pairwise (· < ·) := by obtain ⟨m, r, p, _, rfl⟩ := T.ex; exact tell_asc r m p
  have hpos : ∀ b, b ∈ xs → 0 ≤ b := fun b hb => by
    obtain ⟨m, r, p, hm, rfl⟩ := T.ex
    have := tell_ge r m p b hb
    rcases List.mem_append.mp ((hm m).mp (by simp)) with h | h
    · have := bds_pos x okx m h; omega
    · have := bds_pos y oky m h; omega
  have main : ∀ (suf pre : List Int) (s2 : Option D), pre ++ suf = xs → (∀ b, b ∈ pre → given x b = given y b) →
      loopD (wName 2) (wIfS (wTest (wOp fNe (wCall 2 sp_given_of [] (wCons (wVar 0) (wCons (wVar 2) wNil))) (wCall 2 sp_given_of [] (wCons (wVar 1) (wCons (wVar 2) wNil))))) (wRet (wVar 2)) wSkip)
        { nx := wRet (wC .non) { nx := fun _ S' => Φ .non S', rt := Φ }, rt := Φ } (suf.map D.int) [some x.d, some y.d, s2] S := by
    intro suf
    induction suf with
    | nil =>
      intro pre s2 hp hn
      rw [List.map_nil]
      unfold loopD
      simp only [wRet, wC]
      refine q none fun a ha hd => ?_
      obtain ⟨b, hb, _, _, hne, _⟩ := tells_at T okx oky ha hd
      rw [List.append_nil] at hp
      exact hne (hn b (by rw [hp]; exact hb))
    | cons a suf ih =>
      intro pre s2 hp hn
      rw [List.map_cons]
      unfold loopD
      simp only [wName, st, wIfS, wTest, wOp, wCall, wCons, wNil, wVar, gt, onS_some, Rt.res, res_i, List.append_nil, List.length_cons, List.length_nil, Nat.reduceAdd, true_and]
      refine ⟨x, a, rfl, okx, by omega, y, a, rfl, oky, by omega, ?_⟩
      simp only [fNe, fEqB, view_i, scV, tru, view_b, onS_some]
      by_cases z : given x a = given y a
      · simp only [z, decide_true, Bool.not_true, Bool.false_eq_true, if_false, wSkip]
        exact ih (pre ++ [a]) _ (by rw [List.append_assoc]; exact hp) fun b hb => by
          rcases List.mem_append.mp hb with h | h
          · exact hn b h
          · rw [List.mem_singleton] at h; rw [h]; exact z
      · have e : decide (given x a = given y a) = false := by simp [z]
        simp only [e, Bool.not_false, if_true, wRet, wVar, gt, onS_some, res_i]
        refine q (some a) ⟨hpos a (by rw [← hp]; simp), z, fun b b0 hba hd => ?_⟩
        obtain ⟨c, hc, hcb, _, hne, _⟩ := tells_at T okx oky b0 hd
        rw [← hp] at hc hasc
        rcases List.mem_append.mp hc with h | h
        · exact hne (hn c h)
        · rcases List.mem_cons.mp h with rfl | h
          · omega
          · have := (List.pairwise_cons.mp (List.pairwise_append.mp hasc).2.1).1 c h
            omega
  exact main xs [] _ rfl (by simp)
theorem law_Rule_eq (ds : List D) (S : Sto) (Φ : D → Sto → Prop) (h : sp_Rule_eq ds S Φ) : w_Rule_eq { nx := fun _ S' => Φ .non S', rt := Φ } (ro n_Rule_eq ds) S := by
  obtain ⟨x, d, rfl, okx, hx, ls, h⟩ := h
  unfold w_Rule_eq n_Rule_eq
  rcases h with ⟨y, rfl, oky, hy, q⟩ | ⟨hk, q⟩
  · have ax : atts S "Rule" (rule x) = some ([("its_tree", x.d)] : List (Str × D)) := rfl
    have ay : atts S "Rule" (rule y) = some ([("its_tree", y.d)] : List (Str × D)) := rfl
    have ky : kindT (view S (rule y)) = none := rfl
    simp only [wRet, wAndV, wIsO, wVar, wOp, wC, wCall, wCons, wNil, wFld, ro, List.map_cons, List.map_nil, List.length_cons, List.length_nil, List.cons_append, List.nil_append, Nat.reduceAdd, Nat.sub_self, List.replicate_zero, gt, onS_some, rule_res, ky, ay, Option.isSome_some, true_and, tru, view_b, if_true, ax, List.append_nil]
    refine ⟨x, y, by simp only [Rt.res], okx, oky, hx, hy, ls, fun o ho => ?_⟩
    simp only [fIsN, isNon]
    cases o with
    | none => exact q _ (by simp only [optD, true_iff]; exact fun a ha => Classical.not_not.mp (ho a ha))
    | some a => exact q _ (by simp only [optD, Bool.false_eq_true, false_iff]; exact fun w => ho.2.1 (w a ho.1))
  · have rd : ∀ S : Sto, res S d = d := fun S => by cases d <;> first | rfl | simp [kindT] at hk
    have vd : view S d = d := by cases d <;> first | rfl | simp [kindT] at hk
    obtain ⟨t, ht⟩ := Option.isSome_iff_exists.mp hk
    simp only [wRet, wAndV, wIsO, wVar, wOp, wC, wCall, wCons, wNil, wFld, ro, List.map_cons, List.map_nil, List.length_cons, List.length_nil, List.cons_append, List.nil_append, Nat.reduceAdd, Nat.sub_self, List.replicate_zero, gt, onS_some, rd, vd, ht, tru, view_b, Bool.false_eq_true, if_false]
    exact q
end
end Sq
set_option maxHeartbeats 4000000
namespace Sq
open PySem L2
local macro_rules | `(tactic| walk_at "wk") => `(tactic| simp only [wSeq, wAsg, wVar, wC, wOp, wTest, wIfS, wRet, wRetN, wIf, wCall, wCons, wNil, wName, wGTup, wGCons, wGNil, wPar, wPar3, wTup, wLst, wLstM, wAnd, wOr, wNot, wTru, tru, wAndV, wOrV, wNotV, wSkip, wDrop, wB, wNeg, fAdd, fSub, fMod, fMulA, fDiv, fEq, fEqB, fNe, fCmp, fI, fIsN, fNotN, isNon, fLen, lenS, fIx, gt, st, res_i, res_b, res_s, res_n, res_t, res_l, res_d, res_c, res_scr, view_i, view_b, view_s, view_n, view_t, view_l, view_d, view_c, Rt.res, Rt.view, rule_res, onS_some, ro, List.map_cons, List.map_nil, List.length_cons, List.length_nil, List.cons_append, List.nil_append, List.append_nil, List.replicate_succ, List.replicate_zero, Nat.reduceAdd, Nat.reduceSub, Nat.sub_self, so_inj, so_beq, at0, at1, at2, at3, gx0, gx1, gx2, gx3, nc0, nc1, nc2, nc3, nc4, nc6, lm0, lm1, lm2, lm3, lm4, lm6, String.reduceEq, Int.reduceEq, Int.reduceLT, Int.reduceLE, decide_true, decide_false, Bool.not_true, Bool.not_false, reduceIte, true_and, and_true, Bool.false_eq_true, reduceCtorEq, List.length_map, view_hl, *])
theorem comp_filter {α : Type} {i : Nat} {wt : WT} {we : WE} {ρ : Ro} {S : Sto} {Q : List D → Sto → Prop} (f g : α → D) (p : α → Bool) : ∀ {as : List α} {acc : List D}, acc.length + as.length ≤ LIM →
    (∀ a, a ∈ as → ∀ Q' : Bool → Sto → Prop, Q' (p a) S → wt (st ρ i (some (f a))) S Q') → (∀ a, a ∈ as → ∀ Q' : D → Sto → Prop, Q' (g a) S → we (st ρ i (some (f a))) S Q') → Q (acc ++ (as.filter p).map g) S → compD (wName i) wt we ρ Q (as.map f) acc S
  | [], acc, hl, ht, he, q => by
    rw [List.map_nil]
    unfold compD
    simpa using q
  | a :: as, acc, hl, ht, he, q => by
    rw [List.length_cons] at hl
    rw [List.map_cons]
    simp only [compD, wName]
    refine ht a (by simp) _ ?_
    by_cases z : p a = true
    · rw [if_pos z]
      refine he a (by simp) _ ⟨by omega, ?_⟩
      refine comp_filter f g p (by rw [List.length_append, List.length_singleton]; omega) (fun a' ha => ht a' (by simp [ha])) (fun a' ha => he a' (by simp [ha])) ?_
      rw [List.filter_cons_of_pos z] at q
      simpa using q
    · rw [if_neg z]
      refine comp_filter f g p (by omega) (fun a' ha => ht a' (by simp [ha])) (fun a' ha => he a' (by simp [ha])) ?_
      rw [List.filter_cons_of_neg z] at q
      exact q
theorem smls_int : ∀ {ns : List Int}, (∀ n, n ∈ ns → n.natAbs.log2 < 1920) → smls (ns.map D.int)
  | [], _ => trivial
  | n :: ns, h => by
    rw [List.map_cons]
    simp only [smls, sml]
    exact ⟨h n (by simp), smls_int fun m hm => h m (by simp [hm])⟩
theorem dpts_int : ∀ ns : List Int, dpts (ns.map D.int) = 0
  | [] => rfl
  | n :: ns => by rw [List.map_cons]; simp [dpts, dpt, dpts_int ns]
theorem fEq_nil {S : Sto} {ns : List Int} {Q : D → Sto → Prop} (h : ∀ n, n ∈ ns → n.natAbs.log2 < 1920) (q : Q (.bl (decide (ns = []))) S) : fEq S (.lst (ns.map D.int)) (.lst []) Q := by
  obtain ⟨ps, hp⟩ := smls_shw _ (smls_int h)
  unfold fEq fEqB
  simp only [view_l]
  have e1 : py (.lst (ns.map D.int)) = some (.list ps) := by simp only [py, hp.py, Option.map_some]
  have e2 : py (.lst []) = some (.list []) := rfl
  rw [e1, e2]
  simp only [onS_some]
  refine ⟨?_, by decide, ?_⟩
  · unfold SeqAt.shaped
    have c : (PyData.list ps).canLay0 = true := by simpa only [PyData.canLay0] using hp.cl
    have d : (PyData.list ps).depth = 1 := by simp only [PyData.depth, hp.dp, dpts_int]
    rw [c, d]; rfl
  · have : PyData.eqv (.list ps) (.list []) = decide (ns = []) := by
      cases ns with
      | nil =>
        have := hp.py
        cases ps with
        | nil => rfl
        | cons p ps => simp [pys] at this
      | cons n ns =>
        cases ps with
        | nil =>
          have := hp.py
          rw [List.map_cons] at this
          unfold pys at this
          split at this
          · cases this
          · cases this
        | cons p ps => simp [PyData.eqv, PyData.eqvAll]
    rw [this]
    exact q
theorem eq_rr {x y : Rt} {S : Sto} {g : Bool → Bool} {Q : D → Sto → Prop} (okx : x.ok) (oky : y.ok) (hx : x.num ≤ 6) (hy : y.num ≤ 6) (ls : lowS S) (q : ∀ b : Bool, (b = true ↔ ∀ a : Int, 0 ≤ a → given x a = given y a) → Q (.bl (g b)) S) : fEqO "Rule" sp_Rule_eq g S (rule x) (rule y) Q :=
  ⟨rfl, .inr rfl, x, _, rfl, okx, hx, ls, .inl ⟨y, rfl, oky, hy, fun b h => ⟨b, rfl, q b h⟩⟩⟩
theorem kind_tree (r : Rt) : (kindT r.d).isSome = true := by cases r <;> rfl
theorem use_init {n : Nat} {r : Rt} {S : Sto} {Q : D → Sto → Prop} (hl : S.length = n) (ok : r.ok) (hn : r.num ≤ 6) (ls : lowS S) (q : Q (rule r) S) : sp_Rule_init [D.h n, r.d] (S ++ [M.ins "Rule" []]) fun y S2 => y = .non ∧ ∃ fs, S2 = S ++ [.ins "Rule" fs] ∧ lowf n fs ∧ (∀ (k : Nat) (m : M), k < n → S[k]? = some m → lowM n m) ∧ Q (.ins "Rule" fs) S := by
  subst hl
  refine ⟨S.length, r, rfl, by simp, ok, hn, rfl, [("its_tree", r.d)], ?_, ⟨low_tree _ r, trivial⟩, ls, q⟩
  rw [List.set_append_right _ _ (Nat.le_refl _), Nat.sub_self]; rfl
theorem sm_bls (bs : List Bool) (h : bs.length ≤ 1000) : Sm (.lst (bs.map D.bl)) := by
  have a : ∀ bs : List Bool, smls (bs.map D.bl) ∧ wgts (bs.map D.bl) = bs.length ∧ dpts (bs.map D.bl) = 0 := fun bs => by
    induction bs with
    | nil => exact ⟨trivial, rfl, rfl⟩
    | cons b bs ih => obtain ⟨x, y, z⟩ := ih; simp only [List.map_cons, smls, sml, wgts, wgt, dpts, dpt, List.length_cons, true_and, z]; exact ⟨x, by omega, rfl⟩
  obtain ⟨x, y, z⟩ := a bs
  exact ⟨by simpa only [sml] using x, by simp only [wgt, y]; omega, by simp only [dpt, z]; decide⟩
end Sq
set_option maxHeartbeats 4000000
namespace Sq
open PySem PySem.Spec PyProof.Rows L2
def Zt.fr (Z : Zt) (I : Hp) (μ : List Addr) : Zt := ⟨Z.z, fun I' μ' => Z.g I' μ' ∧ Ext I μ I' μ', fun I1 μ1 I2 μ2 e h => ⟨Z.cl I1 μ1 I2 μ2 e h.1, h.2.trans e⟩⟩
section
variable {K : PySem.W.Frag} {mg : Str → Option Value} {Z : Zt} {I I' : Hp} {μ μ' : List Addr} {S : Sto} {H : Hp} {X : Cx} {Γ : Gam}
theorem Ok.un (o : Ok K mg (Z.fr I μ) I' μ' S H) : Ok K mg Z I' μ' S H := ⟨o.fra, o.gnd.1, o.sub, o.len, o.nd, o.ob⟩
theorem Ok.ex (o : Ok K mg (Z.fr I μ) I' μ' S H) : Ext I μ I' μ' := o.gnd.2
theorem Ok.fr (o : Ok K mg Z I μ S H) : Ok K mg (Z.fr I μ) I μ S H := ⟨o.fra, ⟨o.gnd, .refl⟩, o.sub, o.len, o.nd, o.ob⟩
theorem Lk.fr (l : Lk X Γ Z) : Lk X Γ (Z.fr I μ) := fun c fs cls d σ ρ I1 μ1 S H o => l c fs cls d σ ρ I1 μ1 S H o.un
theorem Kp.fr {Φ : D → Sto → Prop} {Q : VK} (k : Kp K mg Z I' μ' Φ Q) : Kp K mg (Z.fr I μ) I' μ' Φ Q := fun v d I1 μ1 S1 H1 e o => k v d I1 μ1 S1 H1 e o.un
theorem Cov.fr {E : Ends} {κ : WK} (c : Cov K mg Z I' μ' E κ) : Cov K mg (Z.fr I μ) I' μ' E κ :=
  ⟨fun σ ρ I1 μ1 S1 H1 e r o => c.nx σ ρ I1 μ1 S1 H1 e r o.un, c.rt.fr, fun σ ρ I1 μ1 S1 H1 e r o => c.bk σ ρ I1 μ1 S1 H1 e r o.un, fun σ ρ I1 μ1 S1 H1 e r o => c.ct σ ρ I1 μ1 S1 H1 e r o.un⟩
end
abbrev FSpX := List D → Sto → (D → Sto → Prop) → Xf → Prop
def Kx (K : PySem.W.Frag) (mg : Str → Option Value) (Z : Zt) (I : Hp) (μ : List Addr) (Ψ : Xf) (E : XK) : Prop :=
  ∀ (c : Str) (fs : List (Str × D)) (cls : Value) (d : Option Addr) (I' : Hp) (μ' : List Addr) (S' : Sto) (H' : Hp), Ext I μ I' μ' → Ok K mg Z I' μ' S' H' → XRp K mg I' μ' c fs cls d → Ψ c fs S' → E cls d H'
def spOfX (K : PySem.W.Frag) (mg : Str → Option Value) (n : Nat) (sp : FSpX) : Sp := fun vs H Q E => vs.length = n ∧ ∃ (ds : List D) (Z : Zt) (I : Hp) (μ : List Addr) (S : Sto) (Φ : D → Sto → Prop) (Ψ : Xf),
  RpL K mg I μ vs ds ∧ Ok K mg Z I μ S H ∧ sp ds S Φ Ψ ∧ Kp K mg Z I μ Φ Q ∧ Kx K mg Z I μ Ψ E
abbrev BxX (P : Program) (w : World) (K : PySem.W.Frag) (mg : Str → Option Value) (base : Heap) (N : List Str) (qual : Str) (sc : Scope) (f : Addr) (cdv : Value) (A : Around) (outer : List Env) (s : Shared) (H : Hp) (E : XK) : Cx :=
  cxOf (L2.CX P w) P w K mg base N qual sc f cdv A outer s H E
section
variable {P : Program} {w : World} {K : PySem.W.Frag} {mg : Str → Option Value} {base : Heap}
def BdX (P : Program) (w : World) (K : PySem.W.Frag) (mg : Str → Option Value) (base : Heap) (k : Nat) (N : List Str) (qual : Str) (s : Stmt) (wb : Xk → WS) : Prop :=
  ∀ (f : Addr) (cdv : Value) (A : Around) (outer : List Env) (sh : Shared) (H : Hp) (E : XK) (Ψ : Xk), Room k (A.deeper (PyProof.Rows.envOfC qual (C8.fnScope s) sh.heap.objs.size f cdv)) →
    Takes (BxX P w K mg base N qual (C8.fnScope s) f cdv A outer sh H E) (fun cls d _ H' => E cls d H') → PassesOwn (model P w) (A.deeper (PyProof.Rows.envOfC qual (C8.fnScope s) sh.heap.objs.size f cdv)) (PyProof.Rows.envOfC qual (C8.fnScope s) sh.heap.objs.size f cdv) (BxX P w K mg base N qual (C8.fnScope s) f cdv A outer sh H E).xe →
    ∃ t, SSs (BxX P w K mg base N qual (C8.fnScope s) f cdv A outer sh H E) ⟨fun cls d _ H' => E cls d H', Ψ⟩ (C8.fnBody s) t (wb Ψ)
def LawX (ps N : List Str) (wb : Xk → WS) (sp : FSpX) : Prop :=
  ∀ (ds : List D) (S : Sto) (Φ : D → Sto → Prop) (Ψ : Xf), ds.length = ps.length → sp ds S Φ Ψ → wb (fun c fs _ S' => Ψ c fs S') { nx := fun _ S' => Φ .non S', rt := Φ } (ro N ds) S
theorem fn_dataX {x qual : Str} {s : Stmt} {f : Addr} {fd : FuncData} {N ps : List Str} {k : Nat} {wb : Xk → WS} {sp : FSpX} (F : C8.Fun K x qual s f fd) (S : FnScope N ps (C8.fnScope s)) (d : BdX P w K mg base k N qual s wb) (law : LawX ps N wb sp) :
    FnOk P w K mg base (L2.CX P w) (k + 1) f fd ps (spOfX K mg ps.length sp) := by
  obtain ⟨oc, od, dV, kV, dc, pm, an, cd, ct, sl, rfl, l, hc⟩ := F
  refine fn_of l hc S (fun vs H Q E h => h.1) fun A outer sh H vs Q E hr h => ?_
  obtain ⟨hl, ds, Z, I, μ, St, Φ, Ψ, r, ok, hs, kp, kx⟩ := h
  obtain ⟨t, q⟩ := d f cd A outer sh H E (fun c fs _ S' => Ψ c fs S') hr (takes_of rfl rfl rfl rfl) (passes_of rfl)
  refine ⟨t, q.ps, q.si (Z.fr I μ) (fun c fs cls dd σ ρ I1 μ1 S1 H1 o _ xr hp => kx c fs cls dd I1 μ1 S1 H1 o.ex o.un xr hp) (L2.start N vs) (ro N ds) I μ St H _ _ (rps_start r) ok.fr (law ds St Φ Ψ (by rw [← r.length]; exact hl) hs)
    ⟨fun σ' ρ' I' μ' S' H' e' rs' ok' q' => ?_, kp.fr, fun _ _ _ _ _ _ _ _ _ z => z.elim, fun _ _ _ _ _ _ _ _ _ z => z.elim⟩⟩
  exact kp .non .non I' μ' S' H' e' ok'.un .non q'
end
structure CalX (P : Program) (w : World) (K : PySem.W.Frag) (mg : Str → Option Value) (base : Heap) (k : Nat) (x : Str) (n : Nat) (sp : FSpX) (dvs : List V) : Prop where
  ex : ∃ (f : Addr) (fd : FuncData) (ps : List Str) (ds : List Value), FnOk P w K mg base (L2.CX P w) k f fd ps (spOfX K mg n sp) ∧ mg x = some (.ref f) ∧ PySem.W.keepIn K (.ref f) = true ∧ Binds K fd ps ds ∧ Vals dvs ds
section
variable {X : Cx} {Γ : Gam} {k j n : Nat} {x : Str} {sp : FSpX} {dvs : List V} {dd : List D} {p pos apos : Pos} {e : Expr} {es : List Expr} {t : TA} {wa : WA}
theorem kx_of {Z : Zt} (lk : Lk X Γ Z) {σ : L2.St} {ρ : Ro} {I : Hp} {μ : List Addr} (rs : RpS X.K X.mg I μ σ ρ) : Kx X.K X.mg Z I μ (fun c fs S' => Γ.Ψ c fs ρ S') (L2.WE Γ.W σ) :=
  fun c fs cls d I' μ' S' H' e' o xr h => lk c fs cls d σ ρ I' μ' S' H' o (rs.ext e') xr h
end
structure SupD (P : Program) (K : PySem.W.Frag) (mg : Str → Option Value) (c f : Str) : Prop where
  ex : ∃ (C fI : Addr), mg c = some (.ref C) ∧ SupK P K C fI f
def wRaise (Ψ : Xk) (c f : Str) (we : WE) : WS := fun _ ρ S => we ρ S fun d S1 => Ψ c [(f, d)] ρ S1
def tRaise (X : Cx) (W : WX) (c f : Str) (te : TE) : TS := fun _ σ H => ∃ C, X.mg c = some (.ref C) ∧ tMkS C f (tCons te tNil) σ H fun cls d H' => W cls d σ H'
theorem s_raise {X : Cx} {Γ : Gam} {c f : Str} {e : Expr} {te : TE} {we : WE} {p pos pos' : Pos} {j : Nat} (T : SupD X.prog X.K X.mg c f) (hc : X.calm = true) (tk : Takes X Γ.W) (hr : Room j X.A) (hj : 1 ≤ j) (he : SE X Γ e te we) (hg : Gl X c := by rfl) (hdb : (c == ("__debug__" : Str)) = false := by decide)
    (st : starEach [e] X.env = (false, eval e X.env) :: starEach [] X.env := by rfl) (hpl : (backTo pos (starEach [] X.env)).any (·.1) = false := by rfl) : SS X Γ (.Raise (some (.Call (.Name c p) [e] [] pos)) none pos') (tRaise X Γ.W c f te) (wRaise Γ.Ψ c f we) := by
  obtain ⟨C, fI, hC, sk⟩ := T.ex
  refine ⟨⟨fun pins s σ H D I hw => ?_⟩, fun Z lk σ ρ I μ S H E κ rs ok hw cv => ⟨C, hC, he.si Z lk σ ρ I μ S H _ _ rs ok hw fun v d I1 μ1 S1 H1 e1 o1 r1 q1 => ⟨v, rfl, fun x hx => ?_⟩⟩⟩
  · obtain ⟨C', hC', q⟩ := hw
    rw [hC] at hC'
    cases hC'
    exact (ps_raise hc tk (pmk_sup sk hC (hr.mono hj) (pa_cons he.pe pa_nil st) hg hdb st hpl)).run pins s σ H D I q
  · have hi := free_of o1.sub hx
    exact lk c [(f, d)] _ _ σ ρ (upd I1 x (.xd [(f, v)])) μ1 S1 _ (o1.new hx) ((rs.ext e1).ext (Ext.new hi)) ⟨C, hC, rfl, _, upd_same, .cons (r1.ext (Ext.new hi)) .nil⟩ q1
end Sq
set_option maxHeartbeats 4000000
namespace Sq
open PySem PySem.Spec PyProof.Rows L2
def tSem (X : Cx) (s : Stmt) : TS := fun D σ H => ∀ (pins : List (Addr × Obj)) (z : Shared), Inv X pins σ H z → wpAny (model X.prog X.w) X.A (exec s X.env) (SP X pins D) X.xe z
theorem ps_sem {X : Cx} {s : Stmt} : PS X s (tSem X s) := ⟨fun pins z σ H D I h => h pins z I⟩
theorem fr_hd {env : Env} {outer : List Env} {L : Addr} (hf : env.frame = some L) : L ∈ frs (env :: outer) := List.mem_filterMap.mpr ⟨env, List.mem_cons_self, hf⟩
theorem fr_tl {env : Env} {outer : List Env} {a : Addr} (h : a ∈ frs outer) : a ∈ frs (env :: outer) := by
  obtain ⟨e, he, q⟩ := List.mem_filterMap.mp h
  exact List.mem_filterMap.mpr ⟨e, List.mem_cons_of_mem _ he, q⟩
section
variable {X : Cx} {pins : List (Addr × Obj)} {σ : L2.St} {H : Hp} {sI z : Shared} {a : Addr} {oe : Obj} {B : Heap}
theorem inv_known (I : Inv X pins σ H z) (hB : ∀ b o, z.heap.get? b = some o → b ∉ frs X.stack → b ≠ a → B.get? b = some o) (h0 : ∀ b, X.s_0.heap.get? b ≠ none → b ∉ X.ex → b ≠ a) (hp : ∀ p ∈ X.pn ++ pins, p.1 ≠ a) (ha : z.heap.get? a = some oe) (hv : ∃ vs, oe.data = .fields vs) (na : H a = none) (nL : a ≠ X.env.locals) :
    Inv (X.suite a (X.pn ++ pins)) [] σ (upd H a (xho a oe)) z := by
  have ne : ∀ {b : Addr} {o : HO}, H b = some o → b ≠ a := fun e q => by rw [q, na] at e; cases e
  refine ⟨I.ok.suite _ _, I.os, I.bare, ⟨I.base.keep, I.base.slot, fun b o e n x => ?_, I.base.there, fun b xs e => ?_, fun b o u e => ?_, fun b ps e => ?_⟩, I.loc, I.cell, ?_, fun x c e => ?_, fun p q => ?_, fun b o e => ?_, I.len⟩
  · rw [upd_ne (h0 b (by rw [e]; simp) x)]; exact I.base.free b o e n x
  · have := I.base.tups b xs e; rw [upd_ne (ne this)]; exact this
  · have := I.base.frzs b o u e; rw [upd_ne (ne this)]; exact this
  · obtain ⟨m, y⟩ := I.base.tbls b ps e; exact ⟨m, by rw [upd_ne (ne y)]; exact y⟩
  · rw [upd_ne (Ne.symm nL)]; exact I.free
  · have nc : c ≠ a := fun q => by
      obtain ⟨v, k⟩ := I.cell x c e
      obtain ⟨vs, hv⟩ := hv
      obtain ⟨o, k1, k2⟩ := k
      rw [q, ha] at k1
      cases k1
      rw [hv] at k2
      cases k2
    rw [upd_ne nc]; exact I.freeC x c e
  · have q' : p ∈ X.pn ++ pins := by simpa using q
    obtain ⟨y1, y2, y3⟩ := I.pin p q'
    exact ⟨y1, by rw [upd_ne (hp p q')]; exact y2, y3⟩
  · by_cases q : b = a
    · subst q
      rw [upd_same] at e
      cases e
      exact ⟨ha, ⟨_, ha⟩, fun h1 h2 y k => k _ y⟩
    · rw [upd_ne q] at e
      exact (I.hok b o e).stay (fun _ _ _ y => y) (fun c y => by rw [upd_ne (ne y)]; exact y) fun c xs y => by rw [upd_ne (ne y)]; exact y
theorem inv_back {pn' : List (Addr × Obj)} (I : Inv (X.suite a (X.pn ++ pins)) pn' σ H z) (ok : X.Ok) : Inv X pins σ H z := ⟨ok, I.os, I.bare, I.base, I.loc, I.cell, I.free, I.freeC, fun p hp => I.pin p (List.mem_append_left _ hp), I.hok, I.len⟩
end
def eOut (i : Nat) (E : Ends) : Ends := { nx := fun σ H => E.nx (σ.set i none) H, rt := E.rt, bk := fun σ H => E.bk (σ.set i none) H, ct := fun σ H => E.ct (σ.set i none) H }
def SuW (X : Cx) (pins : List (Addr × Obj)) (E : Ends) (i : Nat) (s : List Stmt) (xv : Value) (W : WX) : WX := fun cls d σ H => ∃ b, PySem.W.exmOne X.K cls xv = some b ∧
  (b = true → ∀ (a : Addr) (oe : Obj) (z : Shared), H a = none → Zc cls d oe → (∃ vs, oe.data = .fields vs) → Inv (X.suite a (X.pn ++ pins)) [] (σ.set i (some (.ref a))) (upd H a (xho a oe)) z →
    wpAny (model X.prog X.w) (X.suite a (X.pn ++ pins)).A (execs s X.env) (SP (X.suite a (X.pn ++ pins)) [] (eOut i E)) (fun _ _ => False) z) ∧ (b = false → W cls d σ H)
section
variable {X : Cx} {x n : Str} {xv : Value} {i : Nat} {body suite : List Stmt} {b₀ : Stmt} {np pos pos' : Pos} {W : WX} {pins : List (Addr × Obj)} {E : Ends}
theorem try_run (hs : X.stack = X.env :: X.outer) (hf : X.env.frame = some X.env.locals) (hN : X.N.Nodup) (hi : X.N[i]? = some n) (hln : X.env.kindOf n = some .local) (hc : Names X x xv) (tk : Takes X W) {z : Shared} {σ : L2.St} {H : Hp} (I : Inv X pins σ H z)
    (hb : ∀ xe, Takes (X.tr (X.pn ++ pins) xe) (SuW X pins E i (b₀ :: suite) xv W) → PassesOwn (model X.prog X.w) X.A X.env xe → wpAny (model X.prog X.w) X.A (execs body X.env) (SP (X.tr (X.pn ++ pins) xe) [] E) xe z) :
    wpAny (model X.prog X.w) X.A (exec (.Try body [.ExceptHandler (some (.Name x np)) (some n) (b₀ :: suite) pos'] [] [] pos) X.env) (SP X pins E) X.xe z := by
  have ok := I.ok
  have frm : X.A.frames = some (X.env :: X.outer) := by rw [ok.frames, hs]
  refine wpAny_Try_except (thn (hb _ (fun u y xx => ?_) PassesOwn.looking) fun f s1 q => ?_)
  rotate_left
  · cases f with
    | next => obtain ⟨σ', H', J, q⟩ := q; exact wpAny_execs_nil ⟨σ', H', J.ofTry ok, q⟩
    | brk => obtain ⟨σ', H', J, q⟩ := q; exact ⟨σ', H', J.ofTry ok, q⟩
    | cont => obtain ⟨σ', H', J, q⟩ := q; exact ⟨σ', H', J.ofTry ok, q⟩
    | ret u => obtain ⟨v, σ', H', J, r, q⟩ := q; exact ⟨v, σ', H', J.ofTry ok, r, q⟩
  obtain ⟨a, B, sI, p2, σ1, H1, cls, d, rfl, J0, nb, up, sky, na, os, ag, wish⟩ := xx
  obtain ⟨b, hb1, yes, no⟩ := wish
  have J : Inv X pins σ1 H1 sI := J0.ofTry ok
  have sky' : Sky B (X.env :: X.outer) a (Zc cls d) X.env.locals y.heap := hs ▸ sky
  refine Sky.land Zc.steady frm hf sky' fun h3 f3 u3 => ?_
  have J3 : Inv X pins σ1 H1 { y with heap := h3 } := J.landed nb f3.1 (up.trans u3) os ag
  obtain ⟨o3, v3, g3, z3, d3⟩ := f3.there
  have nst : a ∉ frs X.stack := fun hm => by
    rw [hs] at hm
    obtain ⟨_, o', e', nf⟩ := f3.2.2.1.mem hm
    rw [g3] at e'
    cases e'
    exact nf _ d3
  have nL : a ≠ X.env.locals := fun q => nst (by rw [hs]; exact fr_hd (by rw [hf, q]))
  have nF : a ∉ X.fs := fun q => nst (by rw [hs]; exact fr_tl q)
  have gone : sI.heap.get? a = none := by
    cases q : sI.heap.get? a with
    | none => rfl
    | some o => have := nb a o q nst; rw [f3.2.1] at this; cases this
  have S3 := J3.suite g3 d3 na nL nF
  refine wpAny_handleBy_cons (codeAny_handlers_test ?_) (fun q => nomatch q)
  have ty : PySem.W.Looks (model X.prog X.w) h3 (typeOf (.ref a)) cls := fun A Q E s k q => wpAny_typeOf_ref (k _ _ g3) (by rw [z3.1]; exact q)
  have ans := PySem.W.exm_one (M := model X.prog X.w) J3.kIn ty hb1
  have nam : ∀ {Q E}, Q xv { y with heap := h3 } → wpAny (model X.prog X.w) (X.A.mark (some (.ref a))) (eval (.Name x np) X.env) Q E { y with heap := h3 } := fun {Q E} q => by
    obtain ⟨hg, hdb, hm | ⟨hm, hv, hn⟩⟩ := hc
    · exact ld_glob (X := X.suite a ((a, o3) :: (X.pn ++ pins))) S3 hg hm q hdb
    · exact ld_blt (X := X.suite a ((a, o3) :: (X.pn ++ pins))) S3 hg hm hv q hn hdb
  refine nam (ans.here ?_)
  cases b with
  | false =>
    show wpAny _ X.A (handleBy (.ref a) X.env []) _ _ _
    refine wpAny_handleBy_nil ?_
    obtain ⟨_, _, _, o4, v4, T, oT, tv, g4, z4, d4, w1, _⟩ := id f3
    unfold PySem.passOn
    refine wpAny_bind (wpAny_field g4 d4 w1 ?_)
    rw [if_neg (show ¬ ((Value.ref T == Value.none) = true) from by simp)]
    have go : wpAny (model X.prog X.w) X.A (setFlight (.ref a) X.env.frame) (fun _ s4 => wpAny (model X.prog X.w) X.A (throw (.ref a) : Sem Flow) (SP X pins E) X.xe s4) X.xe { y with heap := h3 } := by
      rw [hf]
      exact HandSPX.setFlight_upZ f3 fun h4 k4 u4 => wpAny_throw (tk _ _ ⟨a, B, sI, pins, σ1, H1, cls, d, rfl, J, nb, (up.trans u3).trans u4, .inr (.inr (by rw [hs]; exact k4)), na, os, ag, no rfl⟩)
    first
      | exact wpAny_bind (wpAny_pure (wpAny_bind go))
      | exact wpAny_bind go
  | true =>
    refine codeAny_handlers_suite_as (HandSPX.lands_againZ f3 fun h4 f4 u4 => ?_)
    have J4 : Inv X pins σ1 H1 { y with heap := h4 } := J.landed nb f4.1 ((up.trans u3).trans u4) os ag
    obtain ⟨o4, v4, g4, z4, d4⟩ := f4.there
    have S4 : Inv (X.suite a (X.pn ++ pins)) [] σ1 (upd H1 a (xho a o4)) { y with heap := h4 } := by
      refine inv_known (B := h4) J4 (fun b o e _ _ => e) (fun b h0 hx q => ?_) (fun p hp q => ?_) g4 ⟨_, d4⟩ na nL
      · subst q
        cases e0 : X.s_0.heap.get? b with
        | none => exact h0 e0
        | some o => obtain ⟨o', e'⟩ := J.base.there b o e0 hx; rw [gone] at e'; cases e'
      · have := (J.pin p hp).1; rw [q, gone] at this; cases this
    refine store_ok (X := X.suite a (X.pn ++ pins)) (v := .ref a) S4 hN hi (.inl hln) rfl (fun s5 S5 => ?_) (.inr hln)
    refine wpAny_mono (yes rfl a o4 s5 na z4 ⟨_, d4⟩ S5) (fun f s6 q => ?_) fun _ _ q => q.elim
    have fin : ∀ {σ6 : L2.St} {H6 : Hp} {Q : Shared → Prop}, Inv (X.suite a (X.pn ++ pins)) [] σ6 H6 s6 → (∀ s7, Inv X pins (σ6.set i none) H6 s7 → Q s7) → wpAny (model X.prog X.w) X.A (do bindName X.env n .none; unbindBehindTheSuite X.env n pos') (fun _ s7 => Q s7) X.xe s6 :=
      fun J6 k => gone_ok (inv_back J6 ok) hN hi hln k
    cases f with
    | next => obtain ⟨σ6, H6, J6, q⟩ := q; exact fin J6 fun s7 J7 => ⟨_, _, J7, q⟩
    | brk => obtain ⟨σ6, H6, J6, q⟩ := q; exact fin J6 fun s7 J7 => ⟨_, _, J7, q⟩
    | cont => obtain ⟨σ6, H6, J6, q⟩ := q; exact fin J6 fun s7 J7 => ⟨_, _, J7, q⟩
    | ret u => obtain ⟨v6, σ6, H6, J6, r, q⟩ := q; exact fin J6 fun s7 J7 => ⟨_, _, _, J7, r, q⟩
end
theorem rps_drop {K : PySem.W.Frag} {mg : Str → Option Value} {I : Hp} {μ : List Addr} {σ : L2.St} {ρ : Ro} (r : RpS K mg I μ σ ρ) (i : Nat) : RpS K mg I μ (σ.set i none) (st ρ i none) := by
  refine ⟨by rw [List.length_set, st_length]; exact r.len, fun j e q => ?_⟩
  rw [gt_st] at q
  split at q
  · cases q
  · rename_i c
    obtain ⟨w, q1, q2⟩ := r.get j e q
    refine ⟨w, ?_, q2⟩
    by_cases z : i = j
    · subst z; exact absurd ⟨rfl, gt_lt q⟩ c
    · rw [List.getElem?_set_ne z]; exact q1
structure XT (K : PySem.W.Frag) (mg : Str → Option Value) (x : Str) (tab : Str → Option Bool) : Prop where
  ex : ∃ Cx, mg x = some (.ref Cx) ∧ ∀ c b, tab c = some b → ∀ C, mg c = some (.ref C) → PySem.W.exmOne K (.ref C) (.ref Cx) = some b
def kOut (i : Nat) (κ : WK) : WK := { nx := fun ρ S => κ.nx (st ρ i none) S, rt := κ.rt, bk := fun ρ S => κ.bk (st ρ i none) S, ct := fun ρ S => κ.ct (st ρ i none) S }
def Xcat (tab : Str → Option Bool) (i : Nat) (wh : WS) (κ : WK) (Ψ : Xk) : Xk := fun c fs ρ S => ∃ b, tab c = some b ∧ (b = true → wh (kOut i κ) (st ρ i (some (.exc c fs))) S) ∧ (b = false → Ψ c fs ρ S)
def wTryAs (tab : Str → Option Bool) (i : Nat) (wb : Xk → WS) (wh : WS) (Ψ : Xk) : WS := fun κ ρ S => wb (Xcat tab i wh κ Ψ) κ ρ S
section
variable {X : Cx} {Γ : Gam} {x n : Str} {i : Nat} {body suite : List Stmt} {b₀ : Stmt} {np pos pos' : Pos} {tab : Str → Option Bool} {wb : Xk → WS} {wh : WS}
theorem rp_exc {K : PySem.W.Frag} {mg : Str → Option Value} {I : Hp} {μ : List Addr} {a : Addr} {oe : Obj} {c : Str} {fs : List (Str × D)} {cls : Value} {d : Option Addr} (hi : I a = none) (x : XRp K mg I μ c fs cls d) (z : Zc cls d oe) (hv : ∃ vs, oe.data = .fields vs) :
    Rp K mg (upd I a (xho a oe)) μ (.ref a) (.exc c fs) := by
  obtain ⟨C, hC, rfl, k⟩ := x
  cases d with
  | none => subst k; exact .exc0 hC upd_same z hv
  | some dd =>
    obtain ⟨fv, hd, r⟩ := k
    have e : Ext I μ (upd I a (xho a oe)) μ := Ext.new hi
    exact .exc1 hC upd_same z hv (e.hp _ _ hd) (r.ext e)
theorem s_tryAs (i : Nat) (hs : X.stack = X.env :: X.outer) (hf : X.env.frame = some X.env.locals) (hN : X.N.Nodup) (xt : XT X.K X.mg x tab) (tk : Takes X Γ.W)
    (hb : ∀ (W : WX) (Ψ : Xk) (pn : List (Addr × Obj)) (xe : Value → Shared → Prop), Takes (X.tr pn xe) W → PassesOwn (model X.prog X.w) X.A X.env xe → ∃ t, SSs (X.tr pn xe) ⟨W, Ψ⟩ body t (wb Ψ))
    (hh : ∀ (a : Addr) (pn : List (Addr × Obj)), ∃ t, SSs (X.suite a pn) G0 (b₀ :: suite) t wh) (hi : X.N[i]? = some n := by rfl) (hln : X.env.kindOf n = some .local := by rfl) (hg : Gl X x := by rfl) (hdb : (x == ("__debug__" : Str)) = false := by decide) :
    SS X Γ (.Try body [.ExceptHandler (some (.Name x np)) (some n) (b₀ :: suite) pos'] [] [] pos) (tSem X (.Try body [.ExceptHandler (some (.Name x np)) (some n) (b₀ :: suite) pos'] [] [] pos)) (wTryAs tab i wb wh Γ.Ψ) := by
  obtain ⟨Cv, hC, tb⟩ := xt.ex
  refine ⟨ps_sem, fun Z lk σ ρ I μ S H E κ rs ok hw cv pins z J => ?_⟩
  refine try_run (W := Γ.W) hs hf hN hi hln ⟨hg, hdb, .inl hC⟩ tk J fun xe tk' hp' => ?_
  obtain ⟨t, q⟩ := hb (SuW X pins E i (b₀ :: suite) (.ref Cv) Γ.W) (Xcat tab i wh κ Γ.Ψ) (X.pn ++ pins) xe tk' hp'
  have lk' : Lk (X.tr (X.pn ++ pins) xe) ⟨SuW X pins E i (b₀ :: suite) (.ref Cv) Γ.W, Xcat tab i wh κ Γ.Ψ⟩ (Z.fr I μ) := fun c fs cls d σ1 ρ1 I1 μ1 S1 H1 o1 r1 xr hx => by
    obtain ⟨b, hb1, yes, no⟩ := hx
    obtain ⟨C, hc1, hc2, _⟩ := id xr
    subst hc2
    refine ⟨b, tb c b hb1 C hc1, fun hy a oe z2 na zc hv J2 => ?_, fun hn => lk c fs _ d σ1 ρ1 I1 μ1 S1 H1 o1.un r1 xr (no hn)⟩
    obtain ⟨th, qh⟩ := hh a (X.pn ++ pins)
    have hi1 := free_of o1.sub na
    have ex1 : Ext I1 μ1 (upd I1 a (xho a oe)) μ1 := Ext.new hi1
    have cv' := ((cv.ext o1.ex).ext ex1)
    refine (qh.ps.run [] z2 _ _ (eOut i E) J2 (qh.si Z Lk.zero _ (st ρ1 i (some (.exc c fs))) (upd I1 a (xho a oe)) μ1 S1 _ _ (kOut i κ) ((r1.ext ex1).put (rp_exc hi1 xr zc hv) i) (o1.un.new na) (yes hy) ⟨fun σ3 ρ3 I3 μ3 S3 H3 e3 r3 o3 q3 => ?_, cv'.rt, fun σ3 ρ3 I3 μ3 S3 H3 e3 r3 o3 q3 => ?_, fun σ3 ρ3 I3 μ3 S3 H3 e3 r3 o3 q3 => ?_⟩))
    · exact cv'.nx _ _ I3 μ3 S3 H3 e3 (rps_drop r3 i) o3 q3
    · exact cv'.bk _ _ I3 μ3 S3 H3 e3 (rps_drop r3 i) o3 q3
    · exact cv'.ct _ _ I3 μ3 S3 H3 e3 (rps_drop r3 i) o3 q3
  exact q.ps.run [] z σ H E (J.toTry xe) (q.si (Z.fr I μ) lk' σ ρ I μ S H E κ rs ok.fr hw cv.fr)
end
end Sq
set_option maxHeartbeats 4000000
namespace Sq
open PySem PySem.Spec PyProof.Rows L2
theorem takes_zero {X : Cx} : Takes X G0.W := fun _ _ ⟨_, _, _, _, _, _, _, _, _, _, _, _, _, _, _, _, w⟩ => w.elim
abbrev X0 : Xk := fun _ _ _ _ => False
def tSemE (X : Cx) (e : Expr) : TE := fun σ H Q => ∀ (pins : List (Addr × Obj)) (z : Shared), Inv X pins σ H z → wpAny (model X.prog X.w) X.A (eval e X.env) (EP X pins σ Q) X.xe z
theorem pe_sem {X : Cx} {e : Expr} : PE X e (tSemE X e) := ⟨fun pins z σ H Q I h => h pins z I⟩
structure XI (K : PySem.W.Frag) (C : Addr) : Prop where
  cl : PySem.W.isClsIn K C = true
  ga : PySem.W.findIn K (.ref C) "__getattribute__" = some (some (.builtin "BaseException.__getattribute__"))
  gt : PySem.W.findIn K (.ref C) "__getattr__" = some none
  sb : PySem.W.subIn K (.ref C) (.type "BaseException") = some true
  ha : PySem.W.findIn K (.ref C) "__class__" = some (some (.builtin "object.__class__"))
  hn : PySem.W.specialIn K (.builtin "object.__class__") "__get__" = some (some (.builtin "getset_descriptor.__get__"))
  tk : PySem.W.takesIn K (.builtin "object.__class__") = some true
  mo : PySem.W.mroIn K C (.type "object") = some true
structure XD (K : PySem.W.Frag) (mg : Str → Option Value) (c : Str) : Prop where
  ex : ∀ C, mg c = some (.ref C) → XI K C
theorem exc_at {X : Cx} {pins : List (Addr × Obj)} {σ : L2.St} {H : Hp} {z : Shared} {Z : Zt} {I : Hp} {μ : List Addr} {S : Sto} {v : V} {c : Str} {fs : List (Str × D)} (J : Inv X pins σ H z) (o : Ok X.K X.mg Z I μ S H) (r : Rp X.K X.mg I μ v (.exc c fs)) :
    ∃ (a C : Addr) (oe : Obj) (od : Option Obj) (fv : List (Str × V)), v = .ref a ∧ X.mg c = some (.ref C) ∧ PySem.W.InstAt z.heap a oe C od ∧ RpF X.K X.mg I μ fv fs ∧ ((fs = [] ∧ od = none) ∨ ∃ o', od = some o' ∧ ∃ mA : Str → Option Value, (∀ n, PySem.W.lookIn n o' = some (mA n)) ∧ ∀ f, RelO (fv.lookup f) (mA f)) := by
  have nc : ∀ {oe : Obj}, (∃ vs, oe.data = .fields vs) → PySem.W.notCls oe = true := fun ⟨vs, q⟩ => by unfold PySem.W.notCls; rw [q] <;> rfl
  cases r with
  | exc0 m h zc q =>
    rename_i a C oe
    have k : z.heap.get? a = some oe := (J.hok _ _ (o.sub _ _ h)).1
    exact ⟨a, C, oe, none, [], rfl, m, ⟨k, zc.1, nc q, by rw [zc.2]; trivial⟩, .nil, .inl ⟨rfl, rfl⟩⟩
  | exc1 m h zc q hd rf =>
    rename_i a C dd oe fv
    have k : z.heap.get? a = some oe := (J.hok _ _ (o.sub _ _ h)).1
    obtain ⟨mA, ns, hr⟩ : ∃ mA, z.heap.Ns1 dd mA ∧ ∀ f, RelO (fv.lookup f) (mA f) := J.hok _ _ (o.sub _ _ hd)
    obtain ⟨od, ho, hl⟩ := lookIn_ns ns
    exact ⟨a, C, oe, some od, fv, rfl, m, ⟨k, zc.1, nc q, by rw [zc.2]; exact ho⟩, rf, .inr ⟨od, rfl, mA, hl, hr⟩⟩
def wXf (cs : List Str) (f : Str) (we : WE) : WE := fun ρ S Q => we ρ S fun d S1 => match d with
  | .exc c fs => c ∈ cs ∧ onS (fs.lookup f) fun x => Q x S1
  | _ => False
structure KXf (K : PySem.W.Frag) (mg : Str → Option Value) (c f : Str) : Prop where
  ex : ∀ C, mg c = some (.ref C) → XI K C ∧ PySem.W.hasDictIn K C = true ∧ PySem.W.findIn K (.ref C) f = some none
section
variable {X : Cx} {Γ : Gam} {e : Expr} {te : TE} {we : WE} {p pos p2 : Pos} {c f x : Str}
theorem se_xf {cs : List Str} (k : ∀ c, c ∈ cs → KXf X.K X.mg c f) (h : SE X Γ e te we) (hb : attributeBase e f X.env (eval e X.env) = eval e X.env := by rfl) : SE X Γ (.Attribute e f pos) (tSemE X (.Attribute e f pos)) (wXf cs f we) := by
  refine ⟨pe_sem, fun Z lk σ ρ I μ S H Q Φ rs ok hw kp pins z J => ?_⟩
  refine attr_of hb (thn (h.pe.run pins z σ H (fun v H1 => ∃ d I1 μ1 S1, Ext I μ I1 μ1 ∧ Ok X.K X.mg Z I1 μ1 S1 H1 ∧ Rp X.K X.mg I1 μ1 v d ∧ match d with
      | .exc c fs => c ∈ cs ∧ onS (fs.lookup f) fun x => Φ x S1
      | _ => False) J (h.si Z lk σ ρ I μ S H _ _ rs ok hw fun v d I1 μ1 S1 H1 e1 o1 r1 q1 => ⟨d, I1, μ1, S1, e1, o1, r1, q1⟩)) fun u z1 hu => ?_)
  obtain ⟨v, H1, J1, rv, d, I1, μ1, S1, e1, o1, r1, q1⟩ := hu
  split at q1
  · rename_i c fs
    obtain ⟨q0, q1⟩ := q1
    obtain ⟨y, l, q1⟩ := onS_iff q1
    obtain ⟨a, C, oe, od, fv, rfl, hC, K1, rf, alt⟩ := exc_at J1 o1 r1
    obtain rfl : u = Value.ref a := rv
    obtain ⟨xi, hd, no⟩ := (k c q0).ex C hC
    rcases alt with ⟨rfl, _⟩ | ⟨o', rfl, mA, lk', hr⟩
    · cases l
    · obtain ⟨w, lw, rw'⟩ := rf.look.1 y l
      obtain ⟨t, ht, rt⟩ := RelO.some_of (v := w) (o := mA f) (by rw [← lw]; exact hr f)
      exact HandSPX.exc_get J1.kIn K1 xi.ga xi.gt xi.sb (PySem.W.findObj_own hd no rfl (by rw [lk', ht])) (handed_of rt) ⟨w, H1, J1.tok _, rt, kp w y I1 μ1 S1 H1 e1 o1 rw' q1⟩
  · exact q1.elim
def wIsX (tab : Str → Option Bool) (we : WE) : WE := fun ρ S Q => we ρ S fun d S1 => match d with
  | .exc c _ => onS (tab c) fun b => Q (.bl b) S1
  | _ => False
structure KXi (K : PySem.W.Frag) (xv : Value) (mg : Str → Option Value) (tab : Str → Option Bool) : Prop where
  ex : ∀ c b, tab c = some b → ∀ C, mg c = some (.ref C) → XI K C ∧ PySem.W.kitOne K (.ref C) xv = some b
structure NmX (K : PySem.W.Frag) (mg : Str → Option Value) (x : Str) (tab : Str → Option Bool) : Prop where
  ex : ∃ xv, (mg x = some xv ∧ (∃ C, xv = .ref C) ∨ (mg x = none ∧ bootBuiltins x = some xv ∧ x ≠ "__name__" ∧ ∃ T, xv = .type T)) ∧ KXi K xv mg tab
theorem se_isX {tab : Str → Option Bool} (k : NmX X.K X.mg x tab) (hm : X.mg "isinstance" = none) (h : SE X Γ e te we) (hg : Gl X "isinstance" := by rfl) (hgT : Gl X x := by rfl) (hxd : (x == ("__debug__" : Str)) = false := by decide)
    (he : starEach [e, .Name x p2] X.env = (false, eval e X.env) :: starEach [.Name x p2] X.env := by rfl) (he2 : starEach [.Name x p2] X.env = (false, eval (.Name x p2) X.env) :: starEach [] X.env := by rfl) (hpl : (backTo pos (starEach [.Name x p2] X.env)).any (·.1) = false := by rfl) :
    SE X Γ (.Call (.Name "isinstance" p) [e, .Name x p2] [] pos) (tSemE X (.Call (.Name "isinstance" p) [e, .Name x p2] [] pos)) (wIsX tab we) := by
  obtain ⟨xv, nm, kk⟩ := k.ex
  refine ⟨pe_sem, fun Z lk σ ρ I μ S H Q Φ rs ok hw kp pins z J => ?_⟩
  have nam : ∃ w : V, RelV w xv ∧ (∀ u, RelV w u → u = xv) ∧ PE X (.Name x p2) (tC w) := by
    rcases nm with ⟨h1, C, rfl⟩ | ⟨h1, h2, h3, T, rfl⟩
    · exact ⟨.ref C, rfl, fun u r => r, pe_glob hgT h1 rfl hxd⟩
    · exact ⟨.ty T, rfl, fun u r => r, pe_bltn hgT h1 h2 rfl h3 hxd⟩
  obtain ⟨w, rw', ru, pn⟩ := nam
  have cr : CallR X (.builtin "isinstance") (fun xs H1 Q1 => ∃ (v : V) (d : D) (I1 : Hp) (μ1 : List Addr) (S1 : Sto), xs = [v, w] ∧ Ext I μ I1 μ1 ∧ Ok X.K X.mg Z I1 μ1 S1 H1 ∧ Rp X.K X.mg I1 μ1 v d ∧ match d with
      | .exc c _ => onS (tab c) fun b => Q1 (.bl b) H1
      | _ => False) := by
    intro pins s σ H xs us Q I r hh
    obtain ⟨v, d, I1, μ1, S1, rfl, e1, o1, r1, q1⟩ := hh
    obtain ⟨u1, u2, rfl, rr1, rr2⟩ := vals2 r
    have eu := ru _ rr2
    subst eu
    split at q1
    · rename_i c fs
      obtain ⟨b, hb, q1⟩ := onS_iff q1
      obtain ⟨a, C, oe, od, fv, rfl, hC, K1, rf, alt⟩ := exc_at I o1 r1
      obtain rfl : u1 = Value.ref a := rr1
      obtain ⟨xi, ko⟩ := kk.ex c b hb C hC
      exact PySem.W.kia_one (PySem.W.kitx_exc xi.cl xi.ga xi.gt xi.sb xi.ha xi.hn xi.tk xi.mo) I.kIn K1 ko (fun z => nomatch z) fun tk => ⟨.bl b, H, I.tok tk, rfl, q1⟩
    · exact q1.elim
  refine (pe_callB cr hg hm (by decide +kernel) (pa_cons h.pe (pa_cons pn pa_nil he2) he) (by decide) (by decide) he hpl).run pins z σ H Q J ?_
  refine h.si Z lk σ ρ I μ S H _ _ rs ok hw fun v d I1 μ1 S1 H1 e1 o1 r1 q1 => ⟨v, d, I1, μ1, S1, rfl, e1, o1, r1, ?_⟩
  split at q1
  · obtain ⟨b, hb, q1⟩ := onS_iff q1
    rw [hb]
    exact kp _ _ I1 μ1 S1 H1 e1 o1 .bl q1
  · exact q1.elim
end
structure OpOX (P : Program) (w : World) (K : PySem.W.Frag) (mg : Str → Option Value) (base : Heap) (k : Nat) (c : Str) (op : Operator) (sp : FSpX) : Prop where
  ex : ∃ (C g : Addr) (fd : FuncData) (ps : List Str), mg c = some (.ref C) ∧ PySem.W.selfFirst K C = true ∧ PySem.W.findIn K (.ref C) (PySem.dunder op.info.2) = some (some (.ref g)) ∧ PySem.W.isFn K (.ref g) = true ∧ FnOk P w K mg base (L2.CX P w) k g fd ps (spOfX K mg 2 sp) ∧ Binds K fd ps []
structure MDX (P : Program) (w : World) (K : PySem.W.Frag) (mg : Str → Option Value) (base : Heap) (k : Nat) (c m : Str) (n : Nat) (sp : FSpX) (dvs : List V) : Prop where
  ex : ∃ (C f : Addr) (fd : FuncData) (ps : List Str) (ds : List Value), mg c = some (.ref C) ∧ Cls K C ∧ Meth K C m f ∧ FnOk P w K mg base (L2.CX P w) k f fd ps (spOfX K mg n sp) ∧ Binds K fd ps ds ∧ Vals dvs ds
def wMethX (Ψ : Xk) (c m : Str) (n : Nat) (sp : FSpX) (dd : List D) (we : WE) (wa : WA) : WE := fun ρ S Q => we ρ S fun d S1 => onS (atts S1 c d) fun fs => fs.lookup m = none ∧ wa ρ S1 fun ds S2 => (d :: (ds ++ dd)).length = n ∧ sp (d :: (ds ++ dd)) S2 Q fun c fs S' => Ψ c fs ρ S'
structure MkX (P : Program) (w : World) (K : PySem.W.Frag) (mg : Str → Option Value) (base : Heap) (k : Nat) (c : Str) (n : Nat) (sp : FSpX) (dvs : List V) : Prop where
  ex : ∃ (C f : Addr) (fd : FuncData) (ps : List Str) (ds : List Value), mg c = some (.ref C) ∧ Mk K C f ∧ FnOk P w K mg base (L2.CX P w) k f fd ps (spOfX K mg n sp) ∧ Binds K fd ps ds ∧ Vals dvs ds
def Xmk (Ψ : Xk) (ρ : Ro) (S1 : Sto) : Xf := fun c fs S2 => ∃ m, S2 = S1 ++ [m] ∧ lowf S1.length fs ∧ (∀ (k : Nat) (m : M), k < S1.length → S1[k]? = some m → lowM S1.length m) ∧ Ψ c fs ρ S1
def wMakeMX (Ψ : Xk) (c : Str) (n : Nat) (sp : FSpX) (dd : List D) (wa : WA) : WE := fun ρ S Q => wa ρ S fun ds S1 => (D.h S1.length :: (ds ++ dd)).length = n ∧
  sp (.h S1.length :: (ds ++ dd)) (S1 ++ [.ins c []]) (fun r S2 => r = .non ∧ Q (.h S1.length) S2) (Xmk Ψ ρ S1)
theorem XRp.cut {K : PySem.W.Frag} {mg : Str → Option Value} {I : Hp} {μ μ' : List Addr} {n : Nat} {c : Str} {fs : List (Str × D)} {cls : Value} {d : Option Addr} (hm : ∀ (k : Nat) (a : Addr), k < n → μ[k]? = some a → μ'[k]? = some a) (r : XRp K mg I μ c fs cls d) (l : lowf n fs) : XRp K mg I μ' c fs cls d := by
  obtain ⟨C, h, q, z⟩ := r
  refine ⟨C, h, q, ?_⟩
  cases d with
  | none => exact z
  | some dd => obtain ⟨fv, y, r⟩ := z; exact ⟨fv, y, r.cut hm l⟩
section
variable {X : Cx} {Γ : Gam} {k j n : Nat} {c m : Str} {sp : FSpX} {dvs : List V} {dd : List D} {p pos apos : Pos} {e o : Expr} {es : List Expr} {te : TE} {we : WE} {t : TA} {wa : WA}
theorem run_d {Z : Zt} (lk : Lk X Γ Z) (h : SE X Γ e te we) {pins : List (Addr × Obj)} {z : Shared} {σ : L2.St} {ρ : Ro} {I : Hp} {μ : List Addr} {S : Sto} {H : Hp} {Φ : D → Sto → Prop} (J : Inv X pins σ H z) (rs : RpS X.K X.mg I μ σ ρ) (ok : Ok X.K X.mg Z I μ S H) (hw : we ρ S Φ) :
    wpAny (model X.prog X.w) X.A (eval e X.env) (fun u z1 => ∃ v H1 d I1 μ1 S1, Inv X pins σ H1 z1 ∧ RelV v u ∧ Ext I μ I1 μ1 ∧ Ok X.K X.mg Z I1 μ1 S1 H1 ∧ Rp X.K X.mg I1 μ1 v d ∧ Φ d S1) X.xe z :=
  thn (h.pe.run pins z σ H (fun v H1 => ∃ d I1 μ1 S1, Ext I μ I1 μ1 ∧ Ok X.K X.mg Z I1 μ1 S1 H1 ∧ Rp X.K X.mg I1 μ1 v d ∧ Φ d S1) J (h.si Z lk σ ρ I μ S H _ _ rs ok hw fun v d I1 μ1 S1 H1 e1 o1 r1 q1 => ⟨d, I1, μ1, S1, e1, o1, r1, q1⟩))
    fun u z1 ⟨v, H1, J1, rv, d, I1, μ1, S1, y⟩ => ⟨v, H1, d, I1, μ1, S1, J1, rv, y⟩
theorem run_da {Z : Zt} (lk : Lk X Γ Z) (h : SA X Γ es t wa) {pins : List (Addr × Obj)} {z : Shared} {σ : L2.St} {ρ : Ro} {I : Hp} {μ : List Addr} {S : Sto} {H : Hp} {Φ : List D → Sto → Prop} (J : Inv X pins σ H z) (rs : RpS X.K X.mg I μ σ ρ) (ok : Ok X.K X.mg Z I μ S H) (hw : wa ρ S Φ) {pos : Pos} :
    wpAny (model X.prog X.w) X.A (spliced (backTo pos (starEach es X.env))) (fun us z1 => ∃ vs H1 ds I1 μ1 S1, Inv X pins σ H1 z1 ∧ Vals vs us ∧ Ext I μ I1 μ1 ∧ Ok X.K X.mg Z I1 μ1 S1 H1 ∧ RpL X.K X.mg I1 μ1 vs ds ∧ Φ ds S1) X.xe z :=
  thn (h.pa.run pos pins z σ H (fun vs H1 => ∃ ds I1 μ1 S1, Ext I μ I1 μ1 ∧ Ok X.K X.mg Z I1 μ1 S1 H1 ∧ RpL X.K X.mg I1 μ1 vs ds ∧ Φ ds S1) J (h.si Z lk σ ρ I μ S H _ _ rs ok hw fun v d I1 μ1 S1 H1 e1 o1 r1 q1 => ⟨d, I1, μ1, S1, e1, o1, r1, q1⟩))
    fun u z1 ⟨v, H1, J1, rv, d, I1, μ1, S1, y⟩ => ⟨v, H1, d, I1, μ1, S1, J1, rv, y⟩
theorem run_fx {Z : Zt} (lk : Lk X Γ Z) {f : Addr} {fd : FuncData} {ps : List Str} {ds : List Value} (F : FnOk X.prog X.w X.K X.mg X.base (L2.CX X.prog X.w) k f fd ps (spOfX X.K X.mg n sp)) (hr : Room k X.A) (b : Binds X.K fd ps ds) (dv : Vals dvs ds) (tk : Takes X Γ.W) {pins : List (Addr × Obj)} {z : Shared} {σ : L2.St} {ρ : Ro}
    {I : Hp} {μ : List Addr} {S : Sto} {H : Hp} {Q : VK} {Φ : D → Sto → Prop} {us : List Value} {vs : List V} {ds' : List D} (J : Inv X pins σ H z) (rs : RpS X.K X.mg I μ σ ρ) (ok : Ok X.K X.mg Z I μ S H) (rv : Vals vs us) (rd : RpL X.K X.mg I μ (vs ++ dvs) ds') (hl : ds'.length = n)
    (hw : sp ds' S Φ fun c fs S' => Γ.Ψ c fs ρ S') (kp : Kp X.K X.mg Z I μ Φ Q) : wpAny (model X.prog X.w) X.A (call (.ref f) us) (EP X pins σ Q) X.xe z :=
  run_fnSD (E := L2.WE Γ.W) F hr b dv (passAt tk σ) J rv ⟨by rw [rd.length]; exact hl, ds', Z, I, μ, S, Φ, _, rd, ok, hw, kp, kx_of lk rs⟩
theorem se_methX {pl : Sem Bool} (cm : MDX X.prog X.w X.K X.mg X.base k c m n sp dvs) (hr : Room j X.A) (hk : k ≤ j) (tk : Takes X Γ.W) (hd : ∀ I μ, RpL X.K X.mg I μ dvs dd) (h : SE X Γ o te we) (ha : SA X Γ (e :: es) t wa)
    (hst : starEach (e :: es) X.env = (false, eval e X.env) :: starEach es X.env := by rfl) (hpl : (backTo pos (starEach es X.env)).any (·.1) = false := by rfl)
    (ht : eval (.Call (.Attribute o m apos) (e :: es) [] pos) X.env = (do
      let ov ← eval o X.env
      standAt apos.atName
      let (f, first) ← holding [ov] (getMethod ov m pl)
      callWith pos f first (backTo pos (starEach (e :: es) X.env)) (backToKw pos (keywordEach [] X.env))) := by rfl) :
    SE X Γ (.Call (.Attribute o m apos) (e :: es) [] pos) (tSemE X (.Call (.Attribute o m apos) (e :: es) [] pos)) (wMethX Γ.Ψ c m n sp dd we wa) := by
  obtain ⟨C, f, fd, ps, ds, hC, cl, me, F, bi, dv⟩ := cm.ex
  refine ⟨pe_sem, fun Z lk σ ρ I μ S H Q Φ rs ok hw kp pins z J => ?_⟩
  refine PySem.W.methodCall_KW (pl := pl) (thn (run_d lk h J rs ok hw) fun u z1 ⟨v, H1, d, I1, μ1, S1, J1, rv, e1, o1, r1, q1⟩ => ?_) ht
  obtain ⟨fs, hs, l, q1⟩ := onS_iff q1
  obtain ⟨a, C1, dx, fv, rfl, hC1, h1, rf⟩ := atts_ok o1 r1 hs
  rw [hC] at hC1
  cases hC1
  obtain rfl : u = Value.ref a := rv
  refine getmeth_ok J1 h1 cl me (rf.look.2 l) ?_
  refine PySem.W.callWith_K (first := [.ref a]) (h₀ := X.base) J.ok.mod.kin me.kp (thn (run_da lk ha J1 (rs.ext e1) o1 q1) fun us z2 ⟨vs, H2, ds2, I2, μ2, S2, J2, rv2, e2, o2, r2, q2⟩ => ⟨J2.kIn, ?_⟩) hst hpl
  exact run_fx (vs := .ref a :: vs) (us := .ref a :: us) lk F (hr.mono hk) bi dv tk J2 ((rs.ext e1).ext e2) o2 (.cons rfl rv2) (.cons (r1.ext e2) (r2.append (hd I2 μ2))) q2.1 q2.2 (kp.ext (e1.trans e2))
theorem run_mkX {f C : Addr} {fd : FuncData} {ps : List Str} {ds : List Value} {E : L2.St → XK} {pins : List (Addr × Obj)} {σ : L2.St} {H : Hp} {s : Shared} {Q : VK} {us : List Value} {vs : List V} {spv : Sp} (M : Mk X.K C f) (F : FnOk X.prog X.w X.K X.mg X.base (L2.CX X.prog X.w) k f fd ps spv) (hr : Room (k + 1) X.A) (hb : Binds X.K fd ps ds) (hd : Vals dvs ds)
    (hx : PassesAt (L2.CX X.prog X.w) X σ (E σ)) (I : Inv X pins σ H s) (r : Vals vs us) (h : ∀ x dx, H x = none → H dx = none → dx ≠ x → spv (.ref x :: (vs ++ dvs)) (upd (upd H dx (.own x)) x (.ins C dx [])) (fun v H2 => v = .non ∧ Q (.ref x) H2) (E σ)) :
    wpAny (model X.prog X.w) X.A (call (.ref C) us) (EP X pins σ Q) X.xe s := by
  have ne : s.heap.objs.size ≠ s.heap.objs.size + 1 := Nat.ne_of_lt (Nat.lt_succ_self _)
  have q0 := h _ _ (I.hok.fresh (Nat.le_succ _)) (I.hok.fresh (Nat.le_refl _)) ne
  have J := Inv.made (C := C) I
  have rr : Vals (V.ref (s.heap.objs.size + 1) :: (vs ++ dvs)) (Value.ref (s.heap.objs.size + 1) :: (us ++ ds)) := .cons rfl (r.append hd)
  have len : (Value.ref (s.heap.objs.size + 1) :: us ++ ds).length = ps.length := (rr.length.symm.trans (F.len _ _ _ _ q0))
  have run := F.run _ X.stack _ _ ⟨Value.ref (s.heap.objs.size + 1) :: us, []⟩ (Value.ref (s.heap.objs.size + 1) :: (us ++ ds)) _ _ (E σ) (hr.make C us []) (J.env0.make C us []) (hb _ (Value.ref (s.heap.objs.size + 1) :: us) J.kIn len) rr q0
  refine wpAny_call (make_map (f := f) I.kIn M.makes M.init (beq_iff_eq.mp M.fn) (codeAny_mono run fun r s' y => ?_))
  cases r with
  | error e => exact hx pins _ _ e s' J y
  | ok fl =>
    cases fl with
    | ret u =>
      obtain ⟨v, H', I3, rv, ev, q3⟩ := J.after y
      subst ev
      exact ⟨rv, V.ref (s.heap.objs.size + 1), H', I3, rfl, q3⟩
    | next => exact y.elim
    | brk => exact y.elim
    | cont => exact y.elim
theorem kx_make {Z : Zt} (lk : Lk X Γ Z) {σ : L2.St} {ρ : Ro} {I1 : Hp} {μ1 : List Addr} {S1 : Sto} {H1 : Hp} {x : Addr} (rs : RpS X.K X.mg I1 μ1 σ ρ) (o1 : Ok X.K X.mg Z I1 μ1 S1 H1) : Kx X.K X.mg Z I1 (μ1 ++ [x]) (Xmk Γ.Ψ ρ S1) (L2.WE Γ.W σ) := by
  intro c fs cls d I' μ' S' H' e' o' xr h
  obtain ⟨m, rfl, l, ls, hq⟩ := h
  have hμ : μ' = μ1 ++ [x] := mu_one (by rw [o'.len]; simp [o1.len]) e'.mu
  subst hμ
  have e2 : Ext I1 μ1 I' μ1 := ⟨e'.hp, fun _ _ q => q⟩
  have o3 := o'.take S1.length (by rw [← o1.len, List.take_left' rfl]; exact Z.cl _ _ _ _ e2 o1.gnd) (fun k m hk e => ls k m hk (by rw [List.getElem?_append_left hk] at e; exact e))
  rw [← o1.len, List.take_left' rfl, o1.len, List.take_left' rfl] at o3
  refine lk c fs cls d σ ρ I' μ1 S1 H' o3 (rs.ext e2) (xr.cut (fun k a hk e => ?_) l) hq
  rw [List.getElem?_append_left (by rw [o1.len]; exact hk)] at e
  exact e
theorem se_makeMX (m : MkX X.prog X.w X.K X.mg X.base k c n sp dvs) (hr : Room j X.A) (hk : k + 1 ≤ j) (tk : Takes X Γ.W) (hd : ∀ I μ, RpL X.K X.mg I μ dvs dd) (ha : SA X Γ (e :: es) t wa) (hg : Gl X c := by rfl)
    (hdb : (c == ("__debug__" : Str)) = false := by decide) (he : starEach (e :: es) X.env = (false, eval e X.env) :: starEach es X.env := by rfl) (hpl : (backTo pos (starEach es X.env)).any (·.1) = false := by rfl) :
    SE X Γ (.Call (.Name c p) (e :: es) [] pos) (tSemE X (.Call (.Name c p) (e :: es) [] pos)) (wMakeMX Γ.Ψ c n sp dd wa) := by
  obtain ⟨C, f, fd, ps, ds, hC, M, F, b, dv⟩ := m.ex
  refine ⟨pe_sem, fun Z lk σ ρ I μ S H Q Φ rs ok hw kp pins z J => ?_⟩
  refine wpAny_Call_Name_kw (ld_glob J hg hC ?_ hdb)
  refine PySem.W.callWith_K (h₀ := X.base) J.ok.mod.kin M.kp (thn (run_da lk ha J rs ok hw) fun us z1 ⟨vs, H1, ds1, I1, μ1, S1, J1, rv, e1, o1, r1, q1⟩ => ⟨J1.kIn, ?_⟩) he hpl
  refine run_mkX (E := L2.WE Γ.W) M F (hr.mono hk) b dv (passAt tk σ) J1 rv fun x dx hx hdx ne => ?_
  have o2 := ok_made o1 hC hx hdx ne
  have r2 : RpL X.K X.mg I1 (μ1 ++ [x]) (V.ref x :: (vs ++ dvs)) (.h S1.length :: (ds1 ++ dd)) := .cons (.h (mu_last o1 x)) ((r1.append (hd I1 μ1)).ext Ext.push)
  refine ⟨by rw [r2.length]; exact q1.1, _, Z, I1, μ1 ++ [x], _, _, _, r2, o2, q1.2, fun v d I3 μ3 S3 H3 e3 o3 r3 q3 => ?_, kx_make lk (rs.ext e1) o1⟩
  obtain ⟨rfl, q⟩ := q3
  exact ⟨rp_non r3, kp _ _ I3 μ3 S3 H3 ((e1.trans Ext.push).trans e3) o3 (.h (e3.mu _ _ (mu_last o1 x))) q⟩
end
section
variable {P : Program} {w : World} {K : PySem.W.Frag} {mg : Str → Option Value} {base : Heap} {c m ql : Str} {s : Stmt} {ps N : List Str} {dvs : List V} {k : Nat} {wb : Xk → WS} {sp : FSpX}
theorem DM.mdX (d : DM K mg c m ql s ps dvs) (S : FnScope N ps (C8.fnScope s)) (b : BdX P w K mg base k N ql s wb) (law : LawX ps N wb sp) : MDX P w K mg base (k + 1) c m ps.length sp dvs := by
  obtain ⟨C, f, fd, ds, hC, cl, me, F, bi, dv⟩ := d.ex
  exact ⟨C, f, fd, ps, ds, hC, cl, me, fn_dataX F S b law, bi, dv⟩
theorem DI.madeX (d : DI K mg c ql s ps dvs) (S : FnScope N ps (C8.fnScope s)) (b : BdX P w K mg base k N ql s wb) (law : LawX ps N wb sp) : MkX P w K mg base (k + 1) c ps.length sp dvs := by
  obtain ⟨C, f, fd, ds, hC, M, F, bi, dv⟩ := d.ex
  exact ⟨C, f, fd, ps, ds, hC, M, fn_dataX F S b law, bi, dv⟩
end
end Sq
set_option maxHeartbeats 4000000
namespace Sq
open PySem PySem.Spec PyProof.Rows L2
structure SupB (s : Stmt) (slf x f : Str) : Prop where
  ex : ∃ (p0 p1 p2 p3 p4 p5 p6 p7 p8 p9 : Pos), C8.fnBody s = [.Expr (.Call (.Attribute (.Call (.Name "super" p0) [] [] p1) "__init__" p2) [.Name x p3] [] p4) p5, .Assign [.Attribute (.Name slf p6) f p7] (.Name x p8) p9] ∧
    (∀ (name qual : Str) (dV kV doc pm cd ct : Value) (an : Option Addr) (cc L fI : Addr), SupE slf x f p0 p1 p2 p3 p4 p5 p6 p7 p8 p9 (callEnv (PySem.W.ksFn name qual (C8.fnArgs s) (C8.fnBody s) (C8.fnScope s) dV kV doc pm an cd ct cc) L fI))
structure SupF (s : Stmt) (slf x : Str) : Prop where
  ar : ∃ ar : Arg, ((C8.fnArgs s).posonlyargs ++ (C8.fnArgs s).args).head? = some ar ∧ ar.arg = slf
  ne : slf ≠ x
  su : (C8.fnScope s).names.lookup ("super" : Str) = some .globalImplicit
  cl : (C8.fnScope s).names.lookup ("__class__" : Str) = some .free
  se : (C8.fnScope s).names.lookup slf = some .local
  xx : (C8.fnScope s).names.lookup x = some .local
  ki : (C8.fnScope s).kind = .function
  ce : ∀ y ∈ (C8.fnScope s).names, y.2 ≠ .cell
  co : (C8.fnScope s).isCoroutine = false
  ge : (C8.fnScope s).isGenerator = false
  d1 : (slf == ("__debug__" : Str)) = false
  d2 : (x == ("__debug__" : Str)) = false
  bi : ∀ (qual : Str) (kV doc pm cd ct : Value) (an : Option Addr) (cc : Addr) (u v : Value), bindArgs (PySem.W.ksFn "__init__" qual (C8.fnArgs s) (C8.fnBody s) (C8.fnScope s) .none kV doc pm an cd ct cc) ⟨[u, v], []⟩ = pure [(slf, u), (x, v)]
section
variable {P : Program} {K : PySem.W.Frag} {mg : Str → Option Value} {h : Heap} {c f x self qual : Str} {s : Stmt} {C fI cda cc N : Addr} {oC oI oD oV : Obj} {nm q : Str} {bs bm : List Value} {sn : List Str} {sub : List Value} {ab : Bool} {col : Option Bool} {dd : Option Addr} {k0 k1 k2 k3 k5 : Option Value}
  {oc kV doc pm ct ccl cl : Value} {od an cdd cld : Option Addr} {osl ccs csl : Array (Option Value)} {vs : Array Value} {tf : Tok} {file : Str}
theorem SupD.of (X : K.In h) (G : h.Ns mainGlobals mg) (aC : PySem.W.nsIn K mainGlobals c = some (some (.ref C))) (lC : K.lookup C = some oC) (eC : oC = excClassObj nm q C N bs bm true sn sub ab col dd k0 k1 k2 k3 k5 "ValueError.__new__")
    (hbm : PySem.HandSPX.refsVE bm = true) {D : Addr} (bn : Str) (aB : PySem.W.nsIn K mainGlobals bn = some (some (.ref D))) {oB : Obj} {cB : ClassData} {b1 : Value} {b2 : Option Addr} {b3 : Array (Option Value)} (lB : K.lookup D = some oB) (eB : oB = ⟨b1, b2, .cls cB, b3⟩) (mB : cB.mro = bm) (fB : PySem.W.findIn K (.ref D) "__init__" = some (some (.builtin "ValueError.__init__"))) (sa : PySem.W.findIn K (.ref C) "__setattr__" = some (some (.builtin "object.__setattr__"))) (no : PySem.W.findIn K (.ref C) f = some none)
    (bex : PySem.W.subIn K (.ref C) (.type "BaseException") = some true) (val : PySem.W.subIn K (.ref C) (.type "ValueError") = some true) (own : PySem.W.mroIn K C (.ref C) = some true) (ty : PySem.W.typeIn K (.ref C) = some (.type "type")) (kp : PySem.W.keepIn K (.ref C) = true)
    (ini : PySem.W.findIn K (.ref C) "__init__" = some (some (.ref fI))) (tyI : PySem.W.typeIn K (.ref fI) = some (.type "function")) (opq : PySem.W.nsIn K cStatics "thirdparty.any" = some none) (sup : PySem.W.nsIn K mainGlobals "super" = some none)
    (lI : K.lookup fI = some oI) (eI : oI = ⟨oc, od, .func (PySem.W.ksFn "__init__" qual (C8.fnArgs s) (C8.fnBody s) (C8.fnScope s) .none kV doc pm an (.ref cda) ct cc), osl⟩) (hc : PySem.W.codeIn K (.ref cda) qual = true)
    (lD : K.lookup cda = some oD) (eD : oD = ⟨ccl, cdd, .fields vs, ccs⟩) (v2 : vs[2]? = some (.str file tf)) (pf : ((P.main.file : Str) == file) = true) (ps : (P.main.scope.names.lookup ("super" : Str)).isSome = false)
    (lV : K.lookup cc = some oV) (eV : oV = ⟨cl, cld, .cell (some (.ref C)), csl⟩) (B : SupB s self x f) (S : SupF s self x) : SupD P K mg c f := by
  subst eC eI eD eV eB
  have al : PySem.W.alongIn K "__init__" bm = some (some (.builtin "ValueError.__init__")) := by
    obtain ⟨cd, h1, h2⟩ := PySem.W.kw_along fB
    have h3 : PySem.W.clsIn K D = some cB := by unfold PySem.W.clsIn; rw [lB] <;> rfl
    rw [h3] at h1
    cases h1
    rw [← mB]; exact h2
  obtain ⟨p0, p1, p2, p3, p4, p5, p6, p7, p8, p9, eb, sq⟩ := B.ex
  obtain ⟨ar, har, hself⟩ := S.ar
  refine ⟨C, fI, PySem.W.mg_of X G aC, ⟨⟨nm, q, N, bs, bm, sn, sub, ab, col, dd, k0, k1, k2, k3, k5, lC, hbm, al⟩, sa, no, bex, val, own, ty, kp, ini, tyI, opq, sup, ?_⟩⟩
  refine ⟨oc, od, osl, qual, self, x, C8.fnArgs s, C8.fnScope s, .none, kV, doc, pm, ct, an, cda, cc, p0, p1, p2, p3, p4, p5, p6, p7, p8, p9, ar, vs, file, tf, ccl, cdd, ccs, cl, cld, csl, ?_, hc, har, hself, S.ne, lD, v2, pf, ps, lV, S.su, S.cl, S.se, S.xx, S.ki, S.ce, S.co, S.ge, S.d1, S.d2, fun u v => ?_, fun L => ?_⟩
  · rw [← eb]; exact lI
  · rw [← eb]; exact S.bi _ _ _ _ _ _ _ _ _ _
  · rw [← eb]; exact sq _ _ _ _ _ _ _ _ _ _ _ _
end
theorem end_walkP {T : Program → PySem.W.Frag → (Str → Option Value) → Prop} {l : PySem.W.OpenLaw} {n k : Nat} {q : Program} {loose : List Str} {XP : (Str → Option Value) → Heap → Prop} {YP : World → Heap → Prop} {d : DefRec} {K : Params → PySem.W.Frag} {x p : Str} {s : Stmt} {N : List Str} {wb : WS}
    (hn : l.most = some n) (hz : n ≤ sizeLine) (hdf : d.params.defaults = []) (hx : d.name = x) (room : Room (k + 1) callerA) (hY : ∀ (w : World) (h : Heap), YP w h → (K w.params).In h) (S : FnScope N [p] (C8.fnScope s))
    (dl : ∀ (P : Program) (K : PySem.W.Frag) (mg : Str → Option Value), T P K mg → DL K mg x s p) (bd : ∀ (P : Program) (w : World) (K : PySem.W.Frag) (mg : Str → Option Value) (base : Heap), T P K mg → BdG P w K mg base k N x s wb) (law : LawD [p] N wb sp_law)
    (F : ∀ (w : World) (mg : Str → Option Value) (h : Heap), (K w.params).In h → h.Ns mainGlobals mg → T l.prog (K w.params) mg) :
    PySem.W.WalkO q loose XP YP l.row.toRowW d [] (fun f vs => PySem.call f vs) := by
  refine walk_top (sp := fun w mg => spOf (K w.params) mg 1 sp_law) (x := p) hn hz hdf room hY (fun w mg fa h KX G hm => ?_) (fun w mg G a ns _ hO hS => ?_)
  · have t := F w mg h KX G
    obtain ⟨f, fd, F1, b⟩ := (dl _ _ _ t).ex
    have e := F1.mgf
    rw [hx] at hm
    rw [hm] at e
    cases e
    exact ⟨fd, b, fun base _ _ => fnG_data F1.fn S (bd l.prog w _ mg base t) law⟩
  · refine ⟨rfl, [.scr ns], ⟨fun _ => none, fun _ _ => True, fun _ _ _ _ _ _ => trivial⟩, G, [], [], fun d _ => d = .bl true, .cons (.scr hS) .nil, ⟨fun _ _ e => (nomatch e), trivial, Same.refl G, rfl, .nil, fun n a m e => by simp at e⟩, ⟨ns, rfl, rfl, fun _ => rfl⟩, fun v d I' μ' S' H' e o r q => ?_⟩
    have q' : d = .bl true := q
    subst q'
    cases r
    rfl
section
variable {K : PySem.W.Frag} {mg : Str → Option Value} {h : Heap} {c x f : Str} {C Cv : Addr} {b : Bool} {tab : Str → Option Bool}
theorem XI.to (k : XI K C) (X : K.In h) (G : h.Ns mainGlobals mg) (aC : PySem.W.nsIn K mainGlobals c = some (some (.ref C))) : ∀ C', mg c = some (.ref C') → XI K C' := fun C' e => by
  rw [PySem.W.mg_of X G aC] at e; cases e; exact k
theorem XD.of (X : K.In h) (G : h.Ns mainGlobals mg) (aC : PySem.W.nsIn K mainGlobals c = some (some (.ref C))) (k : XI K C) : XD K mg c := ⟨k.to X G aC⟩
theorem KXf.of (X : K.In h) (G : h.Ns mainGlobals mg) (aC : PySem.W.nsIn K mainGlobals c = some (some (.ref C))) (k : XI K C) (hd : PySem.W.hasDictIn K C = true) (no : PySem.W.findIn K (.ref C) f = some none) : KXf K mg c f := ⟨fun C' e => by
  rw [PySem.W.mg_of X G aC] at e; cases e; exact ⟨k, hd, no⟩⟩
structure XP1 (K : PySem.W.Frag) (mg : Str → Option Value) (x c : Str) (b : Bool) : Prop where
  ex : ∃ Cv C, mg x = some (.ref Cv) ∧ mg c = some (.ref C) ∧ PySem.W.subIn K (.ref C) (.ref Cv) = some b
theorem XP1.of (X : K.In h) (G : h.Ns mainGlobals mg) (aV : PySem.W.nsIn K mainGlobals x = some (some (.ref Cv))) (aC : PySem.W.nsIn K mainGlobals c = some (some (.ref C))) (s : PySem.W.subIn K (.ref C) (.ref Cv) = some b) : XP1 K mg x c b :=
  ⟨Cv, C, PySem.W.mg_of X G aV, PySem.W.mg_of X G aC, s⟩
structure XV (K : PySem.W.Frag) (mg : Str → Option Value) (x : Str) : Prop where
  ex : ∃ Cv, mg x = some (.ref Cv) ∧ PySem.W.subIn K (.ref Cv) (.type "BaseException") = some true ∧ (PySem.W.clsIn K Cv).isSome = true ∧ PySem.W.typeIn K (.ref Cv) = some (.type "type")
theorem XV.of (X : K.In h) (G : h.Ns mainGlobals mg) (aV : PySem.W.nsIn K mainGlobals x = some (some (.ref Cv))) (s : PySem.W.subIn K (.ref Cv) (.type "BaseException") = some true) (i : PySem.W.isClsIn K Cv = true) (t : PySem.W.typeIn K (.ref Cv) = some (.type "type")) : XV K mg x :=
  ⟨Cv, PySem.W.mg_of X G aV, s, i, t⟩
def tabOf (l : List (Str × Bool)) : Str → Option Bool := fun c => l.lookup c
theorem tab_mem : ∀ {l : List (Str × Bool)} {c : Str} {b : Bool}, tabOf l c = some b → (c, b) ∈ l
  | (k, v) :: l, c, b, e => by
    unfold tabOf at e
    rw [List.lookup] at e
    split at e
    · rename_i q
      cases e
      rw [beq_iff_eq.mp q]; exact List.mem_cons_self
    · exact List.mem_cons_of_mem _ (tab_mem (l := l) e)
theorem exm_of {Cv : Addr} {cls : Value} (h1 : PySem.W.subIn K (.ref Cv) (.type "BaseException") = some true) (h2 : (PySem.W.clsIn K Cv).isSome = true) (h3 : PySem.W.typeIn K (.ref Cv) = some (.type "type")) (h4 : PySem.W.subIn K cls (.ref Cv) = some b) : PySem.W.exmOne K cls (.ref Cv) = some b := by
  have e1 : (PySem.W.subIn K (.ref Cv) (.type "BaseException") == some true) = true := by rw [h1] <;> rfl
  have e2 : ((PySem.W.clsIn K Cv).isSome && PySem.W.typeIn K (.ref Cv) == some (.type "type")) = true := by rw [h2, h3] <;> rfl
  show (if (PySem.W.subIn K (.ref Cv) (.type "BaseException") == some true) = true then (if ((PySem.W.clsIn K Cv).isSome && PySem.W.typeIn K (.ref Cv) == some (.type "type")) = true then PySem.W.subIn K cls (.ref Cv) else none) else none) = some b
  rw [if_pos e1, if_pos e2]
  exact h4
theorem XT.of {l : List (Str × Bool)} (v : XV K mg x) (k : ∀ p, p ∈ l → XP1 K mg x p.1 p.2) : XT K mg x (tabOf l) := by
  obtain ⟨Cv, hm, s, i, t⟩ := v.ex
  refine ⟨Cv, hm, fun c b e C hC => ?_⟩
  obtain ⟨Cv', C', h1, h2, h3⟩ := (k _ (tab_mem e)).ex
  rw [hm] at h1
  rw [hC] at h2
  cases h1
  cases h2
  exact exm_of s i t h3
theorem kit_ref {Cv : Addr} (i : (PySem.W.clsIn K Cv).isSome = true) (t : PySem.W.typeIn K (.ref Cv) = some (.type "type")) (s : PySem.W.subIn K (.ref C) (.ref Cv) = some b) (own : PySem.W.mroIn K C (.ref C) = some true) : PySem.W.kitOne K (.ref C) (.ref Cv) = some b := by
  unfold PySem.W.kitOne
  by_cases e : C = Cv
  · subst e
    rw [if_pos (by simp)]
    have s' : PySem.W.mroIn K C (.ref C) = some b := s
    rw [own] at s'
    exact s'
  · rw [if_neg (by intro q; exact e (by simpa using q))]
    unfold PySem.W.kitCls
    simp only [i, t, beq_self_eq_true, Bool.and_self, if_true]
    exact s
structure XC (K : PySem.W.Frag) (mg : Str → Option Value) (c : Str) : Prop where
  ex : ∃ C, mg c = some (.ref C) ∧ XI K C ∧ PySem.W.mroIn K C (.ref C) = some true
theorem XC.of (X : K.In h) (G : h.Ns mainGlobals mg) (aC : PySem.W.nsIn K mainGlobals c = some (some (.ref C))) (k : XI K C) (o : PySem.W.mroIn K C (.ref C) = some true) : XC K mg c := ⟨C, PySem.W.mg_of X G aC, k, o⟩
theorem NmX.of {l : List (Str × Bool)} (v : XV K mg x) (k : ∀ p, p ∈ l → XP1 K mg x p.1 p.2 ∧ XC K mg p.1) : NmX K mg x (tabOf l) := by
  obtain ⟨Cv, hm, s, i, t⟩ := v.ex
  refine ⟨.ref Cv, .inl ⟨hm, Cv, rfl⟩, ⟨fun c b e C hC => ?_⟩⟩
  obtain ⟨k1, k2⟩ := k _ (tab_mem e)
  obtain ⟨Cv', C', h1, h2, h3⟩ := k1.ex
  obtain ⟨C2, h4, h5, h6⟩ := k2.ex
  rw [hm] at h1
  rw [hC] at h2 h4
  cases h1
  cases h2
  cases h4
  exact ⟨h5, kit_ref i t h3 h6⟩
end
end Sq
set_option maxHeartbeats 4000000
namespace Sq
open PySem PySem.Spec PyProof.Rows L2
def wGTupL (n : Nat) (gs : WGs) : WG := fun d ρ S Q => match view S d with
  | .lst ds => ds.length = n ∧ gs ds ρ S Q
  | _ => False
theorem sg_tupL {X : Cx} {Γ : Gam} {pos : Pos} {es : List Expr} {gs : TGs} {ws : WGs} {k n : Nat} (hc : X.calm = true) (h : SGs X Γ es gs ws) (hn : (assignEach es X.env).length = n := by rfl) (hst : (assignEach es X.env).findIdx? (·.1) = none := by rfl) : SG X Γ (.Tuple es k pos) (gUnl X.K n gs) (wGTupL n ws) :=
  ⟨pg_unl hc h.pg hn hst, fun Z lk v d σ ρ I μ S H Q Φ r rs ok hw kn => by
    unfold wGTupL at hw
    split at hw
    · rename_i ds e1
      obtain ⟨p, vs, rfl, h1, r1⟩ := view_lst ok r e1
      exact ⟨p, vs, rfl, SqL.of h1, by rw [r1.length]; exact hw.1, h.si Z lk _ _ σ ρ I μ S H Q Φ r1 rs ok hw.2 kn⟩
    · exact hw.elim⟩
structure Sup0 (K : PySem.W.Frag) (mg : Str → Option Value) (c : Str) : Prop where
  ex : ∃ C, mg c = some (.ref C) ∧ PySem.W.excIn K C [.type "ValueError", .type "Exception", .type "BaseException", .type "object"] "ValueError.__new__" = true ∧ PySem.W.keepIn K (.ref C) = true ∧
    PySem.W.subIn K (.ref C) (.type "BaseException") = some true ∧ PySem.W.typeIn K (.ref C) = some (.type "type")
theorem Sup0.of {K : PySem.W.Frag} {mg : Str → Option Value} {h : Heap} {c : Str} {C : Addr} (X : K.In h) (G : h.Ns mainGlobals mg) (aC : PySem.W.nsIn K mainGlobals c = some (some (.ref C))) (e : PySem.W.excIn K C [.type "ValueError", .type "Exception", .type "BaseException", .type "object"] "ValueError.__new__" = true)
    (k : PySem.W.keepIn K (.ref C) = true) (b : PySem.W.subIn K (.ref C) (.type "BaseException") = some true) (t : PySem.W.typeIn K (.ref C) = some (.type "type")) : Sup0 K mg c := ⟨C, PySem.W.mg_of X G aC, e, k, b, t⟩
section
variable {X : Cx} {Γ : Gam} {c : Str} {p pos pos' : Pos}
end
structure XPT (K : PySem.W.Frag) (mg : Str → Option Value) (T : String) (c : Str) (b : Bool) : Prop where
  ex : ∃ C, mg c = some (.ref C) ∧ PySem.W.subIn K (.ref C) (.type T) = some b
theorem XPT.of {K : PySem.W.Frag} {mg : Str → Option Value} {h : Heap} {c : Str} {C : Addr} {T : String} {b : Bool} (X : K.In h) (G : h.Ns mainGlobals mg) (aC : PySem.W.nsIn K mainGlobals c = some (some (.ref C))) (s : PySem.W.subIn K (.ref C) (.type T) = some b) : XPT K mg T c b := ⟨C, PySem.W.mg_of X G aC, s⟩
section
variable {P : Program} {w : World} {K : PySem.W.Frag} {mg : Str → Option Value} {base : Heap} {x : Str} {s : Stmt} {ps : List Str} {dvs : List V} {n j k : Nat} {sp : FSpX}
theorem fn_low {f : Addr} {fd : FuncData} {spn : FSp} (F : FnOk P w K mg base (L2.CX P w) k f fd ps (spOfX K mg n sp)) (h : ∀ ds S Q, spn ds S Q → sp ds S Q fun _ _ _ => False) : FnOk P w K mg base C8.CX0 k f fd ps (spOf K mg n spn) := by
  have up : ∀ {vs : List V} {H : Hp} {Q : VK} {E : XK}, spOf K mg n spn vs H Q E → spOfX K mg n sp vs H Q (fun _ _ _ => False) := fun ⟨hl, ds, Z, I, μ, S, Φ, r, ok, q, kp⟩ => ⟨hl, ds, Z, I, μ, S, Φ, _, r, ok, h ds S Φ q, kp, fun _ _ _ _ _ _ _ _ _ _ _ z => z.elim⟩
  refine ⟨fun vs H Q E q => F.len vs H Q _ (up q), fun A outer s H args us vs Q E hr e0 hb hv q => codeAny_mono (F.run A outer s H args us vs Q _ hr e0 hb hv (up q)) fun r s' y => ?_⟩
  cases r with
  | ok fl => cases fl <;> exact y
  | error e => obtain ⟨_, _, _, _, _, _, _, _, _, _, _, _, z⟩ := y; exact z.elim
end
def wAugA (g : Int → Int → Int) (c f : Str) (wo we : WE) : WS := fun κ ρ S => wo ρ S fun x S1 => match x with
  | .h n => onS (S1[n]?) fun m => match m with
    | .ins c' fs => c' = c ∧ onS (fs.lookup f) fun a => match a with
      | .int i => we ρ S1 fun y S2 => match y with
        | .int j => onS (S2[n]?) fun m2 => match m2 with
          | .ins c2 gs => c2 = c ∧ gs.length < 1000 ∧ κ.nx ρ (S2.set n (.ins c (putA f (.int (g i j)) gs)))
          | _ => False
        | _ => False
      | _ => False
    | _ => False
  | _ => False
section
variable {X : Cx} {Γ : Gam} {c f : Str} {o e : Expr} {to te : TE} {wo we : WE} {tpos pos : Pos} {op : Operator} {g : Int → Int → Int}
theorem s_augA (hop : InOp X op (fun x y H Q => ∃ i j, x = .int i ∧ y = .int j ∧ Q (.int (g i j)) H)) (kf : KF X.K X.mg c f) (ho : SE X Γ o to wo) (he : SE X Γ e te we) : SS X Γ (.AugAssign (.Attribute o f tpos) op e pos) (sFldAug X.K to te (fun x y H Q => ∃ i j, x = .int i ∧ y = .int j ∧ Q (.int (g i j)) H) f) (wAugA g c f wo we) := by
  refine ⟨ps_fldaug ho.pe he.pe hop, fun Z lk σ ρ I μ S H E κ rs ok h cv => ho.si Z lk σ ρ I μ S H _ _ rs ok h fun v x I1 μ1 S1 H1 e1 o1 r1 q1 => ?_⟩
  split at q1
  · rename_i n
    obtain ⟨m, hm, q1⟩ := onS_iff q1
    cases m with
    | ins c' fs =>
      obtain ⟨rfl, q1⟩ := q1
      obtain ⟨a, ha, q1⟩ := onS_iff q1
      cases r1 with
      | h z =>
        obtain ⟨hi, C, dx, fv, hC, hH, rf⟩ := o1.ob _ _ _ z hm
        obtain ⟨k1, k2⟩ := kf.ex C hC
        obtain ⟨va, la, ra⟩ := rf.look.1 a ha
        refine ⟨_, C, dx, fv, va, rfl, hH, k1, k2, la, ?_⟩
        split at q1
        · rename_i i
          have := rp_int ra
          subst this
          refine he.si Z lk σ ρ I1 μ1 S1 H1 _ _ (rs.ext e1) o1 q1 fun y d I2 μ2 S2 H2 e2 o2 r2 q2 => ?_
          split at q2
          · rename_i j
            have := rp_int r2
            subst this
            obtain ⟨m2, hm2, q2⟩ := onS_iff q2
            cases m2 with
            | ins c2 gs =>
              obtain ⟨rfl, hl, q2⟩ := q2
              have z2 := e2.mu _ _ z
              obtain ⟨hi2, C2, dx2, gv, hC2, hH2, rg⟩ := o2.ob _ _ _ z2 hm2
              rw [hC] at hC2
              cases hC2
              refine ⟨i, j, rfl, rfl, dx2, gv, hH2, by rw [rg.length]; exact hl, ?_⟩
              exact cv.nx σ ρ I2 μ2 _ _ (e1.trans e2) ((rs.ext e1).ext e2) (o2.put (m := .ins c2 (putA f (.int (g i j)) gs)) z2 hi2 ⟨hi2, C, dx2, _, hC, upd_same, putA_rp .int rg⟩) q2
            | frz _ => exact q2.elim
            | bag => exact q2.elim
            | lst _ => exact q2.elim
            | dct _ => exact q2.elim
            | lck _ _ => exact q2.elim
          · exact q2.elim
        · exact q1.elim
    | frz _ => exact q1.elim
    | bag => exact q1.elim
    | lst _ => exact q1.elim
    | dct _ => exact q1.elim
    | lck _ _ => exact q1.elim
  · exact q1.elim
theorem in_addI : InOp X .Add (fun x y H Q => ∃ i j, x = .int i ∧ y = .int j ∧ Q (.int (i + j)) H) := in_add
theorem in_subI : InOp X .Sub (fun x y H Q => ∃ i j, x = .int i ∧ y = .int j ∧ Q (.int (i - j)) H) := in_sub
end
end Sq
set_option maxHeartbeats 4000000
namespace Sq
open PySem PySem.Spec PyProof.Rows L2
structure InOX (P : Program) (w : World) (K : PySem.W.Frag) (mg : Str → Option Value) (base : Heap) (k : Nat) (c : Str) (op : Operator) (sp : FSpX) : Prop where
  ex : ∃ (C g : Addr) (fd : FuncData) (ps : List Str), mg c = some (.ref C) ∧ PySem.W.selfFirst K C = true ∧ PySem.W.findIn K (.ref C) (PySem.dunderI op.info.2) = some (some (.ref g)) ∧ PySem.W.isFn K (.ref g) = true ∧ FnOk P w K mg base (L2.CX P w) k g fd ps (spOfX K mg 2 sp) ∧ Binds K fd ps []
def wAugO (Ψ : Xk) (c : Str) (sp : FSpX) (i : Nat) (we : WE) : WS := fun κ ρ S => onS (gt ρ i) fun d => we ρ S fun y S1 => (atts S1 c (res S d)).isSome = true ∧ sp [res S d, y] S1 (fun r S2 => κ.nx (st ρ i (some r)) S2) fun c fs S' => Ψ c fs ρ S'
theorem s_augO {X : Cx} {Γ : Gam} {k j : Nat} {c x : Str} {sp : FSpX} {op : Operator} {e : Expr} {te : TE} {we : WE} {pos pos' : Pos} (i : Nat) (hN : X.N.Nodup) (m : InOX X.prog X.w X.K X.mg X.base k c op sp) (hr : Room j X.A) (hk : k + 1 ≤ j) (tk : Takes X Γ.W) (he : SE X Γ e te we) (hi : X.N[i]? = some x := by rfl) (hx : Loc X.env.scope x := by first | exact Or.inl rfl | exact Or.inr rfl)
    (hf : X.fn x = true ∨ X.env.scope.names.lookup x = some .local := by first | exact .inl rfl | exact .inr rfl) : SS X Γ (.AugAssign (.Name x pos') op e pos) (tSem X (.AugAssign (.Name x pos') op e pos)) (wAugO Γ.Ψ c sp i we) := by
  obtain ⟨C, g, fd, ps, hC, sf, fi, fn, F, bi⟩ := m.ex
  refine ⟨ps_sem, fun Z lk σ ρ I μ S H E κ rs ok hw cv pins z J => ?_⟩
  obtain ⟨d, e0, hw⟩ := onS_iff hw
  obtain ⟨v, e1, r0⟩ := rs.get i d e0
  have r1 := res_rp ok r0
  obtain ⟨m0, hn, hl⟩ := J.loc
  have vis : Vis X.env.scope x := by rcases hx with k | k; exact .inl k; exact .inr (.inl k)
  obtain ⟨u, ru, l⟩ := hl i x v hi e1 vis
  refine wpAny_AugAssign_Name ?_
  have go : wpAny (model X.prog X.w) X.A (eval e X.env) (fun w s₂ => wpAny (model X.prog X.w) X.A (inplaceOp op u w) (fun r s₃ => wpAny (model X.prog X.w) X.A (storeName X.env x r) (fun _ => SP X pins E .next) X.xe s₃) X.xe s₂) X.xe z := by
    refine thn (run_d lk he J rs ok hw) fun w z1 ⟨v2, H1, y, I1, μ1, S1, J1, rv, e2, o1, r2, q1⟩ => ?_
    obtain ⟨y1, q1⟩ := q1
    obtain ⟨fs, y1⟩ := Option.isSome_iff_exists.mp y1
    have r1' := r1.ext e2
    obtain ⟨a, C1, dx, fv, rfl, hC1, h1, _⟩ := atts_ok o1 r1' y1
    rw [hC] at hC1
    cases hC1
    obtain rfl : u = Value.ref a := ru
    obtain ⟨mA, O, _⟩ := ins_get J1.hok h1
    obtain ⟨od, K1, _⟩ := O.look
    obtain ⟨mm, Fm⟩ := J1.fr
    refine PySem.W.ksp_inplace Fm J1.mod.kin K1 sf fi fn ?_
    refine thn (run_fx (vs := [.ref a, v2]) (us := [.ref a, w]) (Q := fun zv H2 => E.nx (σ.set i (some zv)) H2) (Φ := fun r S2 => κ.nx (st ρ i (some r)) S2) lk F (hr.mono (Nat.le_of_succ_le hk)) bi .nil tk J1 (rs.ext e2) o1 (.cons rfl (.cons rv .nil)) (.cons r1' (.cons r2 .nil)) rfl q1 fun zv d3 I3 μ3 S3 H3 e3 o3 r3 q3 => cv.nx _ _ I3 μ3 S3 H3 (e2.trans e3) (((rs.ext e2).ext e3).put r3 i) o3 q3) fun r s' y => ?_
    obtain ⟨zv, H2, J2, rz, q2⟩ := y
    exact rel_ni rz (store_ok J2 hN hi hx rz (fun s3 J3 => ⟨_, H2, J3, q2⟩) hf)
  rcases l with ⟨hk, hm⟩ | ⟨hk, c, hc, hcell⟩
  · exact wpAny_loadName_local J.ok.kind hk hn hm go
  · rcases hk with hk | hk
    · exact wpAny_loadName_cell J.ok.kind hk hc hcell go
    · rcases hx with k | k
      · have : X.env.scope.names.lookup x = some .free := hk
        rw [k] at this; cases this
      · have : X.env.scope.names.lookup x = some .free := hk
        rw [k] at this; cases this
structure DIO (K : PySem.W.Frag) (mg : Str → Option Value) (c m ql : Str) (op : Operator) (s : Stmt) (ps : List Str) : Prop where
  ex : ∃ (C f : Addr) (fd : FuncData), mg c = some (.ref C) ∧ PySem.W.selfFirst K C = true ∧ PySem.W.findIn K (.ref C) (PySem.dunderI op.info.2) = some (some (.ref f)) ∧ PySem.W.isFn K (.ref f) = true ∧ C8.Fun K m ql s f fd ∧ Binds K fd ps []
theorem DIO.of {K : PySem.W.Frag} {mg : Str → Option Value} {h : Heap} {c m ql : Str} {s : Stmt} {ps : List Str} {f C : Addr} {oc kV dc pm cd ct : Value} {od an : Option Addr} {sl : Array (Option Value)} {op : Operator} (X : K.In h) (G : h.Ns mainGlobals mg) (aC : PySem.W.nsIn K mainGlobals c = some (some (.ref C))) (sf : PySem.W.selfFirst K C = true)
    (a : PySem.W.findIn K (.ref C) (PySem.dunderI op.info.2) = some (some (.ref f))) (i : PySem.W.isFn K (.ref f) = true)
    (l : K.lookup f = some ⟨oc, od, .func (PySem.W.fnOf m ql (C8.fnArgs s) (C8.fnBody s) (C8.fnScope s) .none kV dc pm an cd ct), sl⟩) (hc : PySem.W.codeIn K cd ql = true) (b : Plain m ql s ps) : DIO K mg c m ql op s ps :=
  ⟨C, f, _, PySem.W.mg_of X G aC, sf, a, i, fun_of l hc, (fun_of l hc).binds rfl b⟩
section
variable {P : Program} {w : World} {K : PySem.W.Frag} {mg : Str → Option Value} {base : Heap} {c m x ql : Str} {s : Stmt} {ps N : List Str} {dvs : List V} {n k : Nat} {wb : Xk → WS} {sp : FSpX} {spn : FSp}
theorem DIO.inX {op : Operator} (d : DIO K mg c m ql op s ps) (h2 : ps.length = 2) (S : FnScope N ps (C8.fnScope s)) (b : BdX P w K mg base k N ql s wb) (law : LawX ps N wb sp) : InOX P w K mg base (k + 1) c op sp := by
  obtain ⟨C, f, fd, hC, sf, fi, isf, F, bi⟩ := d.ex
  exact ⟨C, f, fd, ps, hC, sf, fi, isf, h2 ▸ fn_dataX F S b law, bi⟩
theorem MDX.low (c' : MDX P w K mg base k c m n sp dvs) (h : ∀ ds S Q, spn ds S Q → sp ds S Q fun _ _ _ => False) : MD P w K mg base k c m n spn dvs := by
  obtain ⟨C, f, fd, ps, ds, hC, cl, me, F, bi, dv⟩ := c'.ex
  exact ⟨C, hC, f, fd, ps, ds, cl, me, fn_low F h, bi, dv⟩
theorem MkX.low (c' : MkX P w K mg base k c n sp dvs) (h : ∀ ds S Q, spn ds S Q → sp ds S Q fun _ _ _ => False) : MkD P w K mg base k c n spn dvs := by
  obtain ⟨C, f, fd, ps, ds, hC, M, F, bi, dv⟩ := c'.ex
  exact ⟨C, hC, f, fd, ps, ds, M, fn_low F h, hC, bi, dv⟩
theorem CalX.low (c' : CalX P w K mg base k x n sp dvs) (h : ∀ ds S Q, spn ds S Q → sp ds S Q fun _ _ _ => False) : C8.Cal P w K mg base k x (spOf K mg n spn) dvs := by
  obtain ⟨f, fd, ps, ds, F, hm, kp, b, dv⟩ := c'.ex
  exact ⟨f, fd, ps, ds, fn_low F h, hm, kp, b, dv⟩
theorem OpOX.low {op : Operator} (c' : OpOX P w K mg base k c op sp) (h : ∀ ds S Q, spn ds S Q → sp ds S Q fun _ _ _ => False) : OpO P w K mg base k c op spn := by
  obtain ⟨C, g, fd, ps, hC, sf, fi, fn, F, bi⟩ := c'.ex
  exact ⟨C, g, fd, ps, hC, sf, fi, fn, fn_low F h, bi⟩
end
end Sq
set_option maxHeartbeats 4000000
namespace Sq
open PySem L2
local macro_rules | `(tactic| walk_at "wk") => `(tactic| simp only [wSeq, wAsg, wVar, wC, wOp, wTest, wIfS, wRet, wRetN, wIf, wCall, wCons, wNil, wName, wGTup, wGCons, wGNil, wPar, wPar3, wTup, wLst, wLstM, wAnd, wOr, wNot, wTru, tru, wAndV, wOrV, wNotV, wSkip, wDrop, wB, wNeg, fAdd, fSub, fMod, fMulA, fDiv, fEq, fEqB, fNe, fCmp, fI, fIsN, fNotN, isNon, fLen, lenS, fIx, gt, st, res_i, res_b, res_s, res_n, res_t, res_l, res_d, res_c, res_scr, view_i, view_b, view_s, view_n, view_t, view_l, view_d, view_c, Rt.res, Rt.view, rule_res, onS_some, ro, List.map_cons, List.map_nil, List.length_cons, List.length_nil, List.cons_append, List.nil_append, List.append_nil, List.replicate_succ, List.replicate_zero, Nat.reduceAdd, Nat.reduceSub, Nat.sub_self, so_inj, so_beq, at0, at1, at2, at3, gx0, gx1, gx2, gx3, nc0, nc1, nc2, nc3, nc4, nc6, lm0, lm1, lm2, lm3, lm4, lm6, String.reduceEq, Int.reduceEq, Int.reduceLT, Int.reduceLE, decide_true, decide_false, Bool.not_true, Bool.not_false, reduceIte, true_and, and_true, Bool.false_eq_true, reduceCtorEq, List.length_map, view_hl, *])
def accf (c : Int) (r : Rt) (u w : Int) : List (Str × D) := [("its_credit", .int c), ("its_rule", rule r), ("its_unpassed", .int u), ("its_withheld", .int w)]
def acc (c : Int) (r : Rt) (u w : Int) : M := .ins "Account" (accf c r u w)
section
variable {S : Sto} {n : Nat} {c u w v : Int} {r : Rt}
theorem atts_acc (h : S[n]? = some (acc c r u w)) : atts S "Account" (.h n) = some (accf c r u w) := by
  unfold atts; simp only [h, acc, if_true]
theorem res_acc (h : S[n]? = some (acc c r u w)) : res S (.h n) = .h n := res_hi h
theorem lk_c : List.lookup ("its_credit" : Str) (accf c r u w) = some (.int c) := rfl
theorem lk_r : List.lookup ("its_rule" : Str) (accf c r u w) = some (rule r) := rfl
theorem lk_u : List.lookup ("its_unpassed" : Str) (accf c r u w) = some (.int u) := rfl
theorem lk_w : List.lookup ("its_withheld" : Str) (accf c r u w) = some (.int w) := rfl
theorem pt_u : putA "its_unpassed" (.int v) (accf c r u w) = accf c r v w := rfl
theorem lk_m : List.lookup ("passes" : Str) (accf c r u w) = none := rfl
theorem lk_l : List.lookup ("lets_flow" : Str) (accf c r u w) = none := rfl
theorem lk_f : List.lookup ("flows" : Str) (accf c r u w) = none := rfl
theorem lk_k : List.lookup ("copied" : Str) (accf c r u w) = none := rfl
theorem acc_set (h : S[n]? = some m) {m' : M} : (S.set n m')[n]? = some m' := List.getElem?_set_self (List.getElem?_eq_some_iff.mp h).1
end
theorem atts_rule (S : Sto) (r : Rt) : atts S "Rule" (rule r) = some ([("its_tree", r.d)] : List (Str × D)) := rfl
structure AOk (c : Int) (r : Rt) (u w : Int) : Prop where
  ok : r.ok
  hn : r.num ≤ 6
  le : r.le (10 ^ 34)
  c1 : 1 ≤ c
  c2 : c ≤ 10 ^ 33
  u0 : 0 ≤ u
  w0 : 0 ≤ w
  wt : w < thr r
  fit : u + w ≤ c
def LowA (S : Sto) : Prop := ∀ (k : Nat) (m : M), S[k]? = some m → ∀ n, S.length ≤ n → lowM n m
theorem LowA.low {S : Sto} (h : LowA S) : lowS S := fun k m hk e => h k m e _ (Nat.le_refl _)
theorem low_acc (n : Nat) (c : Int) (r : Rt) (u w : Int) : lowM n (acc c r u w) := by
  unfold acc accf lowM
  simp only [lowf, low, low_rule, and_true, true_and]
theorem LowA.set {S : Sto} (h : LowA S) (n : Nat) (c : Int) (r : Rt) (u w : Int) : LowA (S.set n (acc c r u w)) := fun k m e j hj => by
  rw [List.length_set] at hj
  by_cases z : k = n
  · subst z
    have hl : k < S.length := by
      have := (List.getElem?_eq_some_iff.mp e).1
      simpa using this
    rw [List.getElem?_set_self hl] at e
    cases e
    exact low_acc _ _ _ _ _
  · rw [List.getElem?_set_ne (fun q => z q.symm)] at e
    exact h k m e j hj
def sp_Account_init : FSp := fun ds S Q => ∃ (n : Nat) (c : Int) (r : Rt), ds = [.h n, .int c, rule r] ∧ S[n]? = some (.ins "Account" []) ∧ 1 ≤ c ∧ Q .non (S.set n (acc c r 0 0))
def sp_Account_left : FSp := fun ds S Q => ∃ (n : Nat) (c u w : Int) (r : Rt), ds = [.h n] ∧ S[n]? = some (acc c r u w) ∧ Q (.int (c - u - w)) S
def spx_Account_isub : FSpX := fun ds S Q Ψ => ∃ (n : Nat) (c u w k : Int) (r : Rt), ds = [.h n, .int k] ∧ S[n]? = some (acc c r u w) ∧
  (k ≤ c - u - w → Q (.h n) (S.set n (acc c r (u + k) w))) ∧ (c - u - w < k → Ψ "Overdrawn" [("many", .int k)] S)
def spx_Account_passes : FSpX := fun ds S Q Ψ => ∃ (n : Nat) (c u w s : Int) (m : Nat) (r : Rt), ds = [.h n, .int s, .int m] ∧ S[n]? = some (acc c r u w) ∧ AOk c r u w ∧ 1 ≤ s ∧ s ≤ 10 ^ 33 ∧ (m : Int) ≤ 10 ^ 33 ∧ lowS S ∧
  (s * m ≤ u → Q (.int (gS r s w m)) (S.set n (acc c r (u - s * m) (wS r s w m)))) ∧ (u < s * m → Ψ "NotPassed" [("many", .int (s * m))] S)
def spx_Account_iadd : FSpX := fun ds S Q Ψ => ∃ (n : Nat) (c u w s : Int) (r : Rt), ds = [.h n, .int s] ∧ S[n]? = some (acc c r u w) ∧ AOk c r u w ∧ 1 ≤ s ∧ s ≤ 10 ^ 33 ∧ lowS S ∧
  (s ≤ u → Q (.h n) (S.set n (acc c r (u - s) (wS r s w 1)))) ∧ (u < s → Ψ "NotPassed" [("many", .int s)] S)
def sp_Account_lets_flow : FSp := fun ds S Q => ∃ (n : Nat) (c u w s : Int) (m : Nat) (r : Rt), ds = [.h n, .int s, .int m] ∧ S[n]? = some (acc c r u w) ∧ AOk c r u w ∧ 1 ≤ s ∧ s ≤ 10 ^ 33 ∧ (m : Int) ≤ 10 ^ 33 ∧ lowS S ∧ Q (.bl (decide (pS r s w m + u + s ≤ c))) S
def spx_Account_flows : FSpX := fun ds S Q Ψ => ∃ (n : Nat) (c u w s : Int) (m : Nat) (r : Rt), ds = [.h n, .int s, .int m] ∧ S[n]? = some (acc c r u w) ∧ AOk c r u w ∧ 1 ≤ s ∧ s ≤ 10 ^ 33 ∧ (m : Int) ≤ 10 ^ 33 ∧ lowS S ∧
  (pS r s w m + u + s ≤ c → Q (.int (gS r s w m)) (S.set n (acc c r u (wS r s w m)))) ∧ (c < pS r s w m + u + s → Ψ "Overdrawn" [("many", .int s)] S)
def sp_Account_flows : FSp := fun ds S Q => spx_Account_flows ds S Q fun _ _ _ => False
def w_Account_init : WS :=
  (wSeq (wIfS (wNot (wTru (wCall 2 sp_is_number [] (wCons (wC (.int 1)) (wCons (wVar 1) wNil))))) wNever wSkip) (wSeq (wIfS (wNot (wTru (wIsO "Rule" (wVar 2)))) wNever wSkip) (wSeq (wSetA "Account" "its_credit" (wVar 1) (wVar 0)) (wSeq (wSetA "Account" "its_rule" (wVar 2) (wVar 0)) (wSeq (wSetA "Account" "its_unpassed" (wC (.int 0)) (wVar 0)) (wSetA "Account" "its_withheld" (wC (.int 0)) (wVar 0)))))))
def n_Account_init : List Str := ["self", "credit", "rule"]
def w_Account_left : WS :=
  (wRet (wOp fSub (wOp fSub (wFld "Account" "its_credit" (wVar 0)) (wFld "Account" "its_unpassed" (wVar 0))) (wFld "Account" "its_withheld" (wVar 0))))
def n_Account_left : List Str := ["self"]
def wx_Account_isub (Ψ : Xk) : WS :=
  (wSeq (wIfS (wTest (wOp (fCmp fun i j => decide (j < i)) (wVar 1) (wProp "Account" sp_Account_left (wVar 0)))) (wRaise Ψ "Overdrawn" "many" (wVar 1)) wSkip) (wSeq (wAugA (fun i j => i + j) "Account" "its_unpassed" (wVar 0) (wVar 1)) (wRet (wVar 0))))
def n_Account_isub : List Str := ["self", "many"]
def wx_Account_passes (Ψ : Xk) : WS :=
  (wSeq (wIfS (wTest (wOp (fCmp fun i j => decide (j < i)) (wOp fMulA (wVar 1) (wVar 2)) (wFld "Account" "its_unpassed" (wVar 0)))) (wRaise Ψ "NotPassed" "many" (wOp fMulA (wVar 1) (wVar 2))) wSkip) (wSeq (wAsg (wCall 4 sp_repeated [] (wCons (wFld "Account" "its_rule" (wVar 0)) (wCons (wFld "Account" "its_withheld" (wVar 0)) (wCons (wVar 1) (wCons (wVar 2) wNil))))) (wGTup 3 (wGCons (wName 3) (wGCons (wName 4) (wGCons (wName 5) wGNil))))) (wSeq (wAugA (fun i j => i - j) "Account" "its_unpassed" (wVar 0) (wOp fMulA (wVar 1) (wVar 2))) (wSeq (wSetA "Account" "its_withheld" (wVar 3) (wVar 0)) (wRet (wVar 4))))))
def n_Account_passes : List Str := ["self", "size", "many", "withheld", "given", "peak"]
def wx_Account_iadd (Ψ : Xk) : WS :=
  (wSeq (wDrop (wMethX Ψ "Account" "passes" 3 spx_Account_passes [] (wVar 0) (wCons (wVar 1) (wCons (wC (.int 1)) wNil)))) (wRet (wVar 0)))
def n_Account_iadd : List Str := ["self", "many"]
def w_Account_lets_flow : WS :=
  (wSeq (wAsg (wCall 4 sp_repeated [] (wCons (wFld "Account" "its_rule" (wVar 0)) (wCons (wFld "Account" "its_withheld" (wVar 0)) (wCons (wVar 1) (wCons (wVar 2) wNil))))) (wGTup 3 (wGCons (wName 3) (wGCons (wName 4) (wGCons (wName 5) wGNil))))) (wRet (wOp (fCmp fun i j => decide (i ≤ j)) (wOp fAdd (wOp fAdd (wVar 5) (wFld "Account" "its_unpassed" (wVar 0))) (wVar 1)) (wFld "Account" "its_credit" (wVar 0)))))
def n_Account_lets_flow : List Str := ["self", "size", "many", "withheld", "given", "peak"]
def wx_Account_flows (Ψ : Xk) : WS :=
  (wSeq (wIfS (wNot (wTru (wMeth "Account" "lets_flow" 3 sp_Account_lets_flow [] (wVar 0) (wCons (wVar 1) (wCons (wVar 2) wNil))))) (wRaise Ψ "Overdrawn" "many" (wVar 1)) wSkip) (wSeq (wAsg (wCall 4 sp_repeated [] (wCons (wFld "Account" "its_rule" (wVar 0)) (wCons (wFld "Account" "its_withheld" (wVar 0)) (wCons (wVar 1) (wCons (wVar 2) wNil))))) (wGTup 3 (wGCons (wName 3) (wGCons (wName 4) (wGCons (wName 5) wGNil))))) (wSeq (wSetA "Account" "its_withheld" (wVar 3) (wVar 0)) (wRet (wVar 4)))))
def n_Account_flows : List Str := ["self", "size", "many", "withheld", "given", "peak"]
theorem setA_v {κ : WK} {ρ : Ro} {S : Sto} {n : Nat} {fs : List (Str × D)} {f : Str} {d : D} {we : WE} (g0 : gt ρ 0 = some (.h n)) (h : S[n]? = some (.ins "Account" fs)) (hl : fs.length < 1000) (he : ∀ Q : D → Sto → Prop, Q d S → we ρ S Q) (q : κ.nx ρ (S.set n (.ins "Account" (putA f d fs)))) : wSetA "Account" f we (wVar 0) κ ρ S := by
  unfold wSetA
  refine he _ ?_
  simp only [wVar, g0, onS_some, res_hi h, h]
  exact ⟨trivial, hl, q⟩
theorem law_Account_init (ds : List D) (S : Sto) (Φ : D → Sto → Prop) (h : sp_Account_init ds S Φ) : w_Account_init { nx := fun _ S' => Φ .non S', rt := Φ } (ro n_Account_init ds) S := by
  obtain ⟨n, c, r, rfl, hS, h1, q⟩ := h
  have g0 : gt (ro n_Account_init [.h n, .int c, rule r]) 0 = some (.h n) := rfl
  have g1 : gt (ro n_Account_init [.h n, .int c, rule r]) 1 = some (.int c) := rfl
  have g2 : gt (ro n_Account_init [.h n, .int c, rule r]) 2 = some (rule r) := rfl
  generalize ro n_Account_init [.h n, .int c, rule r] = ρ at g0 g1 g2
  unfold w_Account_init
  rw [wSeq]
  simp only [wIfS, wNot, wTru, wCall, wCons, wNil, wVar, wC, g1, onS_some, res_i, List.append_nil, List.length_cons, List.length_nil, Nat.reduceAdd, true_and]
  refine ⟨1, _, rfl, trivial, ?_⟩
  simp only [isN, h1, decide_true, tru, view_b, onS_some, Bool.not_true, Bool.false_eq_true, if_false, wSkip]
  rw [wSeq]
  have vr : view S (rule r) = rule r := rfl
  have kr : kindT (rule r) = none := rfl
  simp only [wIfS, wNot, wTru, wIsO, wVar, g2, onS_some, rule_res, vr, kr, atts_rule, Option.isSome_some, true_and, tru, view_b, Bool.not_true, Bool.false_eq_true, if_false, wSkip]
  rw [wSeq]
  have e1 : ∀ m : M, (S.set n m)[n]? = some m := fun m => acc_set hS
  refine setA_v g0 hS (by decide) (d := .int c) (fun Q h => by simp only [wVar, g1, onS_some, res_i]; exact h) ?_
  simp only [wSeq]
  refine setA_v g0 (e1 _) (by show 1 < 1000; decide) (d := rule r) (fun Q h => by simp only [wVar, g2, onS_some, rule_res]; exact h) ?_
  rw [List.set_set]
  refine setA_v (we := wC (.int 0)) g0 (e1 _) (by show 2 < 1000; decide) (d := .int 0) (fun Q h => h) ?_
  rw [List.set_set]
  refine setA_v (we := wC (.int 0)) g0 (e1 _) (by show 3 < 1000; decide) (d := .int 0) (fun Q h => h) ?_
  rw [List.set_set]
  exact q
theorem law_Account_left (ds : List D) (S : Sto) (Φ : D → Sto → Prop) (h : sp_Account_left ds S Φ) : w_Account_left { nx := fun _ S' => Φ .non S', rt := Φ } (ro n_Account_left ds) S := by
  obtain ⟨n, c, u, w, r, rfl, hS, q⟩ := h
  unfold w_Account_left n_Account_left
  simp only [wRet, wOp, wFld, wVar, ro, List.map_cons, List.map_nil, List.length_cons, List.length_nil, List.cons_append, List.nil_append, gt, onS_some, res_acc hS, atts_acc hS, lk_c, lk_u, lk_w, fSub, fI, view_i, true_and]
  exact q
theorem augA_u {κ : WK} {ρ : Ro} {S : Sto} {n : Nat} {c u w v : Int} {r : Rt} {g : Int → Int → Int} {we : WE} (g0 : gt ρ 0 = some (.h n)) (h : S[n]? = some (acc c r u w)) (he : ∀ Q : D → Sto → Prop, Q (.int v) S → we ρ S Q) (q : κ.nx ρ (S.set n (acc c r (g u v) w))) : wAugA g "Account" "its_unpassed" (wVar 0) we κ ρ S := by
  unfold wAugA
  have h' : S[n]? = some (.ins "Account" (accf c r u w)) := h
  simp only [wVar, g0, onS_some, res_acc h, h', lk_u, true_and]
  refine he _ ?_
  simp only [h', onS_some, true_and, pt_u]
  exact ⟨by show 4 < 1000; decide, q⟩
theorem setA_w {κ : WK} {ρ : Ro} {S : Sto} {n : Nat} {c u w v : Int} {r : Rt} {we : WE} (g0 : gt ρ 0 = some (.h n)) (h : S[n]? = some (acc c r u w)) (he : ∀ Q : D → Sto → Prop, Q (.int v) S → we ρ S Q) (q : κ.nx ρ (S.set n (acc c r u v))) : wSetA "Account" "its_withheld" we (wVar 0) κ ρ S :=
  setA_v g0 h (by show 4 < 1000; decide) he q
theorem lawx_Account_isub (ds : List D) (S : Sto) (Φ : D → Sto → Prop) (Ψ : Xf) (h : spx_Account_isub ds S Φ Ψ) : wx_Account_isub (fun c fs _ S' => Ψ c fs S') { nx := fun _ S' => Φ .non S', rt := Φ } (ro n_Account_isub ds) S := by
  obtain ⟨n, c, u, w, k, r, rfl, hS, q1, q2⟩ := h
  have g0 : gt (ro n_Account_isub [.h n, .int k]) 0 = some (.h n) := rfl
  have g1 : gt (ro n_Account_isub [.h n, .int k]) 1 = some (.int k) := rfl
  generalize ro n_Account_isub [.h n, .int k] = ρ at g0 g1
  unfold wx_Account_isub
  rw [wSeq]
  simp only [wIfS, wTest, wOp, wProp, wVar, g0, g1, onS_some, res_i, res_acc hS, atts_acc hS, Option.isSome_some, true_and]
  refine ⟨n, c, u, w, r, rfl, hS, ?_⟩
  simp only [fCmp, fI, view_i, true_and, tru, view_b, onS_some]
  by_cases z : c - u - w < k
  · simp only [decide_eq_true z, if_true, wRaise, wVar, g1, onS_some, res_i]
    exact q2 z
  · have zd : decide (c - u - w < k) = false := decide_eq_false z
    simp only [zd, Bool.false_eq_true, if_false, wSkip]
    rw [wSeq]
    refine augA_u (v := k) g0 hS (fun Q h => by simp only [wVar, g1, onS_some, res_i]; exact h) ?_
    simp only [wRet, wVar, g0, onS_some]
    rw [res_acc (acc_set hS)]
    exact q1 (by omega)
theorem mul_small {s : Int} {m : Nat} (h1 : 1 ≤ s) (h2 : s ≤ 10 ^ 33) (hm : (m : Int) ≤ 10 ^ 33) : IntMulOk s (m : Int) := mulW (sm (by omega) (by omega)) (sm (by omega) (by omega))
theorem lawx_Account_passes (ds : List D) (S : Sto) (Φ : D → Sto → Prop) (Ψ : Xf) (h : spx_Account_passes ds S Φ Ψ) : wx_Account_passes (fun c fs _ S' => Ψ c fs S') { nx := fun _ S' => Φ .non S', rt := Φ } (ro n_Account_passes ds) S := by
  obtain ⟨n, c, u, w, s, m, r, rfl, hS, A, s1, s2, hm, ls, q1, q2⟩ := h
  unfold wx_Account_passes n_Account_passes
  have ml := mul_small s1 s2 hm
  simp only [ro, List.map_cons, List.map_nil, List.length_cons, List.length_nil, List.cons_append, List.nil_append, Nat.reduceAdd, Nat.reduceSub, List.replicate_succ, List.replicate_zero]
  rw [wSeq]
  simp only [wIfS, wTest, wOp, wFld, wVar, gt, onS_some, res_i, res_acc hS, atts_acc hS, lk_u, fMulA, view_i, ml, true_and, fCmp, fI, tru, view_b]
  by_cases z : u < s * m
  · simp only [decide_eq_true z, if_true, wRaise, wOp, wVar, gt, onS_some, res_i, fMulA, view_i, ml, true_and]
    exact q2 z
  · have zd : decide (u < s * m) = false := decide_eq_false z
    simp only [zd, Bool.false_eq_true, if_false, wSkip]
    rw [wSeq]
    simp only [wAsg, wCall, wCons, wNil, wFld, wVar, gt, onS_some, res_i, res_acc hS, atts_acc hS, lk_r, lk_w, List.append_nil, List.length_cons, List.length_nil, Nat.reduceAdd, true_and]
    refine ⟨r, w, s, m, rfl, A.ok, A.hn, A.le, A.w0, A.wt, s1, s2, by omega, ls, ?_⟩
    simp only [wGTup, wGCons, wGNil, view_t, wName, st, List.length_cons, List.length_nil, Nat.reduceAdd, true_and]
    rw [wSeq]
    refine augA_u (v := s * m) rfl hS (fun Q h => by simp only [wOp, wVar, gt, onS_some, res_i, fMulA, view_i, ml, true_and]; exact h) ?_
    simp only [wSeq]
    refine setA_w (v := wS r s w m) rfl (acc_set hS) (fun Q h => by simp only [wVar, gt, onS_some, res_i]; exact h) ?_
    rw [List.set_set]
    simp only [wRet, wVar, gt, onS_some, res_i]
    exact q1 (by omega)
theorem lawx_Account_iadd (ds : List D) (S : Sto) (Φ : D → Sto → Prop) (Ψ : Xf) (h : spx_Account_iadd ds S Φ Ψ) : wx_Account_iadd (fun c fs _ S' => Ψ c fs S') { nx := fun _ S' => Φ .non S', rt := Φ } (ro n_Account_iadd ds) S := by
  obtain ⟨n, c, u, w, s, r, rfl, hS, A, s1, s2, ls, q1, q2⟩ := h
  unfold wx_Account_iadd n_Account_iadd
  simp only [ro, List.map_cons, List.map_nil, List.length_cons, List.length_nil, List.cons_append, List.nil_append, Nat.reduceAdd, Nat.reduceSub, List.replicate_succ, List.replicate_zero]
  rw [wSeq]
  simp only [wDrop, wMethX, wCons, wNil, wVar, wC, gt, onS_some, res_i, res_acc hS, atts_acc hS, lk_m, List.append_nil, List.length_cons, List.length_nil, Nat.reduceAdd, true_and]
  refine ⟨n, c, u, w, s, 1, r, rfl, hS, A, s1, s2, by decide, ls, fun z => ?_, fun z => ?_⟩
  · simp only [wRet, wVar, gt, onS_some]
    rw [res_acc (acc_set hS)]
    have e : s * ((1 : Nat) : Int) = s := by omega
    rw [e] at z ⊢
    exact q1 z
  · have e : s * ((1 : Nat) : Int) = s := by omega
    rw [e] at z ⊢
    exact q2 z
theorem law_Account_lets_flow (ds : List D) (S : Sto) (Φ : D → Sto → Prop) (h : sp_Account_lets_flow ds S Φ) : w_Account_lets_flow { nx := fun _ S' => Φ .non S', rt := Φ } (ro n_Account_lets_flow ds) S := by
  obtain ⟨n, c, u, w, s, m, r, rfl, hS, A, s1, s2, hm, ls, q⟩ := h
  unfold w_Account_lets_flow n_Account_lets_flow
  simp only [ro, List.map_cons, List.map_nil, List.length_cons, List.length_nil, List.cons_append, List.nil_append, Nat.reduceAdd, Nat.reduceSub, List.replicate_succ, List.replicate_zero]
  rw [wSeq]
  simp only [wAsg, wCall, wCons, wNil, wFld, wVar, gt, onS_some, res_i, res_acc hS, atts_acc hS, lk_r, lk_w, List.append_nil, List.length_cons, List.length_nil, Nat.reduceAdd, true_and]
  refine ⟨r, w, s, m, rfl, A.ok, A.hn, A.le, A.w0, A.wt, s1, s2, by omega, ls, ?_⟩
  simp only [wGTup, wGCons, wGNil, view_t, wName, st, List.length_cons, List.length_nil, Nat.reduceAdd, true_and, wRet, wOp, wFld, wVar, gt, onS_some, res_i, res_acc hS, atts_acc hS, lk_u, lk_c, fAdd, view_i, fCmp, fI]
  exact q
theorem lawx_Account_flows (ds : List D) (S : Sto) (Φ : D → Sto → Prop) (Ψ : Xf) (h : spx_Account_flows ds S Φ Ψ) : wx_Account_flows (fun c fs _ S' => Ψ c fs S') { nx := fun _ S' => Φ .non S', rt := Φ } (ro n_Account_flows ds) S := by
  obtain ⟨n, c, u, w, s, m, r, rfl, hS, A, s1, s2, hm, ls, q1, q2⟩ := h
  unfold wx_Account_flows n_Account_flows
  simp only [ro, List.map_cons, List.map_nil, List.length_cons, List.length_nil, List.cons_append, List.nil_append, Nat.reduceAdd, Nat.reduceSub, List.replicate_succ, List.replicate_zero]
  rw [wSeq]
  simp only [wIfS, wNot, wTru, wMeth, wCons, wNil, wVar, gt, onS_some, res_i, res_acc hS, atts_acc hS, lk_l, List.append_nil, List.length_cons, List.length_nil, Nat.reduceAdd, true_and]
  refine ⟨n, c, u, w, s, m, r, rfl, hS, A, s1, s2, hm, ls, ?_⟩
  simp only [tru, view_b, onS_some]
  by_cases z : pS r s w m + u + s ≤ c
  · simp only [decide_eq_true z, Bool.not_true, Bool.false_eq_true, if_false, wSkip]
    rw [wSeq]
    simp only [wAsg, wCall, wCons, wNil, wFld, wVar, gt, onS_some, res_i, res_acc hS, atts_acc hS, lk_r, lk_w, List.append_nil, List.length_cons, List.length_nil, Nat.reduceAdd, true_and]
    refine ⟨r, w, s, m, rfl, A.ok, A.hn, A.le, A.w0, A.wt, s1, s2, by omega, ls, ?_⟩
    simp only [wGTup, wGCons, wGNil, view_t, wName, st, List.length_cons, List.length_nil, Nat.reduceAdd, true_and]
    rw [wSeq]
    refine setA_w (v := wS r s w m) rfl hS (fun Q h => by simp only [wVar, gt, onS_some, res_i]; exact h) ?_
    simp only [wRet, wVar, gt, onS_some, res_i]
    exact q1 z
  · have zd : decide (pS r s w m + u + s ≤ c) = false := decide_eq_false z
    simp only [zd, Bool.not_false, if_true, wRaise, wVar, gt, onS_some, res_i]
    exact q2 (by omega)
end Sq
set_option maxHeartbeats 4000000
namespace Sq
open PySem L2
local macro_rules | `(tactic| walk_at "wk") => `(tactic| simp only [wSeq, wAsg, wVar, wC, wOp, wTest, wIfS, wRet, wRetN, wIf, wCall, wCons, wNil, wName, wGTup, wGCons, wGNil, wPar, wPar3, wTup, wLst, wLstM, wAnd, wOr, wNot, wTru, tru, wAndV, wOrV, wNotV, wSkip, wDrop, wB, wNeg, fAdd, fSub, fMod, fMulA, fDiv, fEq, fEqB, fNe, fCmp, fI, fIsN, fNotN, isNon, fLen, lenS, fIx, gt, st, res_i, res_b, res_s, res_n, res_t, res_l, res_d, res_c, res_scr, view_i, view_b, view_s, view_n, view_t, view_l, view_d, view_c, Rt.res, Rt.view, rule_res, onS_some, ro, List.map_cons, List.map_nil, List.length_cons, List.length_nil, List.cons_append, List.nil_append, List.append_nil, List.replicate_succ, List.replicate_zero, Nat.reduceAdd, Nat.reduceSub, Nat.sub_self, so_inj, so_beq, at0, at1, at2, at3, gx0, gx1, gx2, gx3, nc0, nc1, nc2, nc3, nc4, nc6, lm0, lm1, lm2, lm3, lm4, lm6, String.reduceEq, Int.reduceEq, Int.reduceLT, Int.reduceLE, decide_true, decide_false, Bool.not_true, Bool.not_false, reduceIte, true_and, and_true, Bool.false_eq_true, reduceCtorEq, List.length_map, view_hl, *])
def sp_q_draw_tree_n (n : Nat) : FSp := fun ds S Q => ∃ (k : Nat) (top sc : Int) (dp : Nat), ds = [.h k, .int top, .int sc, .int dp] ∧ S[k]? = some .bag ∧ 0 < top ∧ top ≤ 10 ^ 60 ∧ 1 ≤ sc ∧ sc ≤ 10 ^ 60 ∧ dp < n ∧ n ≤ 6 ∧ ∀ r : Rt, r.ok → r.num ≤ 2 ^ dp → r.dep ≤ dp + 1 → r.le (top * sc) → Q r.d S
def sp_q_draw_tree : FSp := sp_q_draw_tree_n 3
def w_q_draw_tree_elt1 (sp_q_draw_tree : FSp) : WE :=
  (wCall 4 sp_q_draw_tree [] (wCons (wVar 0) (wCons (wVar 1) (wCons (wVar 2) (wCons (wOp fSub (wVar 3) (wC (.int 1))) wNil)))))
def w_q_draw_tree_0 (sp_q_draw_tree : FSp) : WS :=
  (wAsg (wCall 2 sp_q_take [] (wCons (wVar 0) (wCons (wC (.int 4)) wNil))) (wName 4))
def w_q_draw_tree_1 (sp_q_draw_tree : FSp) : WS :=
  (wIfS (wOr (wTest (wOp fEq (wVar 3) (wC (.int 0)))) (wTest (wOp (fCmp fun i j => decide (i < j)) (wVar 4) (wC (.int 2))))) (wRet (wTup (wCons (wC (.str "at")) (wCons (wCall 3 sp_q_draw_size [] (wCons (wVar 0) (wCons (wVar 1) (wCons (wVar 2) wNil)))) (wCons (wOp fAdd (wC (.int 1)) (wCall 2 sp_q_take [] (wCons (wVar 0) (wCons (wC (.int 6)) wNil)))) wNil))))) wSkip)
def w_q_draw_tree_2 (sp_q_draw_tree : FSp) : WS :=
  (wAsg (wLc (wRng1 (wCons (wC (.int 2)) wNil)) (wName 7) wYes (w_q_draw_tree_elt1 sp_q_draw_tree) [7]) (wGTupL 2 (wGCons (wName 5) (wGCons (wName 6) wGNil))))
def w_q_draw_tree_3 (sp_q_draw_tree : FSp) : WS :=
  (wRet (wTup (wCons (wOp fIx (wLst (wCons (wC (.str "or")) (wCons (wC (.str "and")) wNil))) (wOp fSub (wVar 4) (wC (.int 2)))) (wCons (wVar 5) (wCons (wVar 6) wNil)))))
def w_q_draw_tree (sp_q_draw_tree : FSp) : WS :=
  (wSeq (w_q_draw_tree_0 sp_q_draw_tree) (wSeq (w_q_draw_tree_1 sp_q_draw_tree) (wSeq (w_q_draw_tree_2 sp_q_draw_tree) (w_q_draw_tree_3 sp_q_draw_tree))))
def n_q_draw_tree : List Str := ["_law_bag_here", "_law_top", "_law_scale", "_law_depth", "_law_way", "_law_one", "_law_other", "_law_k"]
theorem no_q_draw_tree (ds : List D) (S : Sto) (Q : D → Sto → Prop) : ¬ sp_q_draw_tree_n 0 ds S Q := by
  rintro ⟨_, _, _, dp, _, _, _, _, _, _, h, _⟩
  omega
theorem law_q_draw_tree (n : Nat) (ds : List D) (S : Sto) (Φ : D → Sto → Prop) (h : sp_q_draw_tree_n (n + 1) ds S Φ) : w_q_draw_tree (sp_q_draw_tree_n n) { nx := fun _ S' => Φ .non S', rt := Φ } (ro n_q_draw_tree ds) S := by
  obtain ⟨k, top, sc, dp, rfl, h0, t1, t2, s1, s2, hd, hn, q⟩ := h
  have r0 := res_hb h0
  unfold w_q_draw_tree n_q_draw_tree
  simp only [ro, List.map_cons, List.map_nil, List.length_cons, List.length_nil, List.cons_append, List.nil_append, Nat.reduceAdd, Nat.reduceSub, List.replicate_succ, List.replicate_zero]
  rw [wSeq]
  unfold w_q_draw_tree_0
  simp only [wAsg, wCall, wCons, wNil, wVar, wC, gt, onS_some, r0, res_i, List.append_nil, List.length_cons, List.length_nil, Nat.reduceAdd, true_and]
  refine ⟨k, 4, rfl, h0, by decide, by decide, fun v v0 v1 => ?_⟩
  simp only [wName, st]
  rw [wSeq]
  unfold w_q_draw_tree_1
  simp only [wIfS, wOr, wTest, wOp, wVar, wC, gt, onS_some, res_i, fEq, fEqB, view_i, tru, view_b, fCmp, fI, true_and]
  have leaf : wRet (wTup (wCons (wC (.str "at")) (wCons (wCall 3 sp_q_draw_size [] (wCons (wVar 0) (wCons (wVar 1) (wCons (wVar 2) wNil)))) (wCons (wOp fAdd (wC (.int 1)) (wCall 2 sp_q_take [] (wCons (wVar 0) (wCons (wC (.int 6)) wNil)))) wNil)))) { nx := wSeq (w_q_draw_tree_2 (sp_q_draw_tree_n n)) (w_q_draw_tree_3 (sp_q_draw_tree_n n)) { nx := fun _ S' => Φ .non S', rt := Φ }, rt := Φ } [some (.h k), some (.int top), some (.int sc), some (.int dp), some (.int v), none, none, none] S := by
    simp only [wRet, wTup, wCons, wNil, wC, wCall, wVar, wOp, gt, onS_some, r0, res_i, List.append_nil, List.length_cons, List.length_nil, Nat.reduceAdd, true_and]
    refine ⟨k, top, sc, rfl, h0, t1, t2, s1, s2, fun t ht1 ht2 => ?_⟩
    refine ⟨k, 6, by rw [r0], h0, by decide, by decide, fun u u0 u1 => ?_⟩
    simp only [fAdd, view_i, lm3, true_and]
    exact q (.at t (1 + u)) ⟨by omega, by omega, by omega⟩ (by show 1 ≤ 2 ^ dp; exact Nat.one_le_two_pow) (by show 1 ≤ dp + 1; omega) (show t ≤ top * sc from ht2)
  by_cases z : (dp : Int) = 0
  · simp only [decide_eq_true z, if_true]
    exact leaf
  · simp only [decide_eq_false z, Bool.false_eq_true, if_false]
    by_cases y : v < 2
    · simp only [decide_eq_true y, if_true]
      exact leaf
    · simp only [decide_eq_false y, Bool.false_eq_true, if_false, wSkip]
      rw [wSeq]
      unfold w_q_draw_tree_2
      unfold w_q_draw_tree_elt1
      have e2 : rngD 0 (Int.toNat 2) = [.int 0, .int 1] := rfl
      obtain ⟨dq, rfl⟩ : ∃ dq : Nat, dp = dq + 1 := ⟨dp - 1, by omega⟩
      have ed : ((dq + 1 : Nat) : Int) - 1 = (dq : Int) := by omega
      simp only [wAsg, wLc, wRng1, wCons, wNil, wC]
      refine ⟨by decide, by decide, ?_⟩
      simp only [e2, wp, st, compD, wName, wYes, if_true, wCall, wCons, wNil, wOp, wVar, wC, gt, onS_some, r0, res_i, fSub, fI, view_i, ed, List.append_nil, List.length_cons, List.length_nil, Nat.reduceAdd, true_and]
      refine ⟨k, top, sc, dq, rfl, h0, t1, t2, s1, s2, by omega, by omega, fun x okx nx dx lx => ?_⟩
      refine ⟨by decide, k, top, sc, dq, by rw [r0], h0, t1, t2, s1, s2, by omega, by omega, fun y' oky ny dy ly => ?_⟩
      refine ⟨by simp [LIM], ?_⟩
      have hp : 2 ^ (dq + 1) = 2 ^ dq + 2 ^ dq := by rw [Nat.pow_succ]; omega
      simp only [List.nil_append, List.cons_append, wGTupL, view_l, wGCons, wGNil, wName, st, List.length_cons, List.length_nil, Nat.reduceAdd, true_and]
      unfold w_q_draw_tree_3
      simp only [wRet, wTup, wLst, wCons, wNil, wC, wVar, wOp, gt, onS_some, res_i, Rt.res, fSub, fI, view_i, fIx, view_l, List.length_cons, List.length_nil, Nat.reduceAdd, lm2, true_and]
      have hv : v - 2 = 0 ∨ v - 2 = 1 := by omega
      rcases hv with e | e
      · simp only [e, at0, gx0, onS_some, lm3, true_and]
        refine q (.or x y') ⟨okx, oky⟩ ?_ ?_ ⟨lx, ly⟩
        · show x.num + y'.num ≤ _; omega
        · show max x.dep y'.dep + 1 ≤ _; omega
      · simp only [e, at1, gx1, onS_some, lm3, true_and]
        refine q (.and x y') ⟨okx, oky⟩ ?_ ?_ ⟨lx, ly⟩
        · show x.num + y'.num ≤ _; omega
        · show max x.dep y'.dep + 1 ≤ _; omega
theorem pS_top {r : Rt} {s w0 : Int} (ok : r.ok) (h0 : 0 ≤ w0) (h1 : w0 < thr r) (hs : 1 ≤ s) : ∀ n, w0 ≤ pS r s w0 n ∧ pS r s w0 n < thr r
  | 0 => ⟨Int.le_refl _, h1⟩
  | n + 1 => by
    have a := pS_top ok h0 h1 hs n
    have b := wS_in ok h0 h1 hs n
    show w0 ≤ max (pS r s w0 n) (wS r s w0 n) ∧ max (pS r s w0 n) (wS r s w0 n) < thr r
    omega
end Sq
set_option maxHeartbeats 4000000
namespace Sq
open PySem PySem.Spec PyProof.Rows L2
section
variable {prog : Program} {w : World}
end
structure BoO (P : Program) (w : World) (K : PySem.W.Frag) (mg : Str → Option Value) (base : Heap) (k : Nat) (c : Str) (sp : FSp) : Prop where
  ex : ∃ (C g : Addr) (fd : FuncData) (ps : List Str), mg c = some (.ref C) ∧ PySem.W.findIn K (.ref C) "__bool__" = some (some (.ref g)) ∧ PySem.W.typeIn K (.ref g) = some (.type "function") ∧ FnOk P w K mg base C8.CX0 k g fd ps (spOf K mg 1 sp) ∧ Binds K fd ps []
section
variable {X : Cx} {k j : Nat} {c : Str} {sp : FSp}
end
structure DBo (K : PySem.W.Frag) (mg : Str → Option Value) (c ql : Str) (s : Stmt) (ps : List Str) : Prop where
  ex : ∃ (C f : Addr) (fd : FuncData), mg c = some (.ref C) ∧ PySem.W.findIn K (.ref C) "__bool__" = some (some (.ref f)) ∧ PySem.W.typeIn K (.ref f) = some (.type "function") ∧ C8.Fun K "__bool__" ql s f fd ∧ Binds K fd ps []
theorem DBo.of {K : PySem.W.Frag} {mg : Str → Option Value} {h : Heap} {c ql : Str} {s : Stmt} {ps : List Str} {f C : Addr} {oc kV dc pm cd ct : Value} {od an : Option Addr} {sl : Array (Option Value)} (X : K.In h) (G : h.Ns mainGlobals mg) (aC : PySem.W.nsIn K mainGlobals c = some (some (.ref C)))
    (a : PySem.W.findIn K (.ref C) "__bool__" = some (some (.ref f))) (t : PySem.W.typeIn K (.ref f) = some (.type "function"))
    (l : K.lookup f = some ⟨oc, od, .func (PySem.W.fnOf "__bool__" ql (C8.fnArgs s) (C8.fnBody s) (C8.fnScope s) .none kV dc pm an cd ct), sl⟩) (hc : PySem.W.codeIn K cd ql = true) (b : Plain "__bool__" ql s ps) : DBo K mg c ql s ps :=
  ⟨C, f, _, PySem.W.mg_of X G aC, a, t, fun_of l hc, (fun_of l hc).binds rfl b⟩
theorem DBo.bo {P : Program} {w : World} {K : PySem.W.Frag} {mg : Str → Option Value} {base : Heap} {c ql : Str} {s : Stmt} {ps N : List Str} {k : Nat} {wb : WS} {sp : FSp} (d : DBo K mg c ql s ps) (h1 : ps.length = 1) (S : FnScope N ps (C8.fnScope s)) (b : Bd P w K mg base k N ql s wb) (law : LawD ps N wb sp) : BoO P w K mg base (k + 1) c sp := by
  obtain ⟨C, f, fd, hC, fi, ty, F, bi⟩ := d.ex
  exact ⟨C, f, fd, ps, hC, fi, ty, h1 ▸ fn_data F S b law, bi⟩
section
variable {K : PySem.W.Frag} {mg : Str → Option Value} {Z : Zt}
end
section
variable {X : Cx} {Γ : Gam} {tg iter : Expr} {body : List Stmt} {te : TE} {we : WE} {g : TG} {wg : WG} {tb : TS} {wb : WS} {pos : Pos}
end
end Sq
set_option maxHeartbeats 4000000
namespace PySem
open Sem (wp)
namespace FF
theorem slot_ga : Slot "function" "__getattribute__" "object.__getattribute__" :=
  .of (owner := "object") (n := "__getattribute__") (by rw [typeLookup_type, builtinLookup_eq_fast]; kernel_rfl) (by decide +kernel) (by decide +kernel) (by decide +kernel)
    (by first | exact .inl (by decide +kernel) | exact .inr (by decide +kernel)) (by rw [isSubtype_type]; kernel_rfl)
theorem lk_class : typeLookup (.type "function") "__class__" = pure (some (.builtin "object.__class__")) := by rw [typeLookup_type, builtinLookup_eq_fast]; kernel_rfl
theorem sub_owner : isSubtype (.type "function") (.type (".".intercalate ("object.__class__".cutAt '.').dropLast)) = pure true := by
  rw [F.owner_object_class, isSubtype_type]; kernel_rfl
end FF
section
variable {prog : Program} {w : World} {A : Around} {E : Value → Shared → Prop} {h : Heap} {g : Array GenState} {d : Drawn} {t : Nat} {os : OsState} {a : Addr} {o : Obj}
theorem cf_get {R : Result → Shared → Prop} (hx : h.get? a = some o) (hc : o.cls = .type "function") (hq : R (.ok (.ret (.type "function"))) ⟨h, g, d, t, os⟩) :
    codeAny (model prog w) A (.call (.builtin "getset_descriptor.__get__") ⟨[.builtin "object.__class__", .ref a, .type "function"], []⟩) R ⟨h, g, d, t, os⟩ := by
  have hT : (⟨h, g, d, t, os⟩ : Shared).TypeIs (.ref a) "function" := ⟨_, hx, hc⟩
  have hT5 : (⟨h, g, d, t, os⟩ : Shared).TypeIs (.builtin "object.__class__") "getset_descriptor" := F.typeOf_object_class
  have f8 := FF.sub_owner
  refine codeAny_call_builtin F.slot_gs_get.plain F.entry_gs_get (F.slot_gs_get.check _ _ _ _ _ _ _ _ hT5 (F.args_gs_get _ _ _) ?_)
  repeat (any_goals (first | assumption | wp_step))
  refine ⟨Code.quiet_builtin _ (by decide +kernel), codeAny_builtin F.entry_object_class ?_⟩
  repeat (any_goals (first | assumption | wp_step))
theorem cf_entry {tk : Tok} {Q : Fin → Shared → Prop} (hx : h.get? a = some o) (hc : o.cls = .type "function") (hq : Q (.done (.ret (.type "function"))) ⟨h, g, d, t, os⟩) :
    wpAny (model prog w) A (Builtin.«object.__getattribute__» ⟨[.ref a, .str "__class__" tk], []⟩) Q E ⟨h, g, d, t, os⟩ := by
  have hT : (⟨h, g, d, t, os⟩ : Shared).TypeIs (.ref a) "function" := ⟨_, hx, hc⟩
  have hT5 : (⟨h, g, d, t, os⟩ : Shared).TypeIs (.builtin "object.__class__") "getset_descriptor" := F.typeOf_object_class
  have f4 := FF.lk_class
  have f5 := F.typeOf_object_class
  have f6 := F.slot_gs_get.lookup
  have f7 := F.slot_gs_set.lookup
  repeat (any_goals (first | assumption | wp_step))
  refine cf_get hx hc ?_
  repeat (any_goals (first | assumption | wp_step))
end
end PySem
namespace PySem
section
variable {prog : Program} {w : World} {A : Around} {E : Value → Shared → Prop} {h : Heap} {g : Array GenState} {d : Drawn} {t : Nat} {os : OsState} {a : Addr} {o : Obj}
theorem cf_call {tk : Tok} {R : Result → Shared → Prop} (hx : h.get? a = some o) (hc : o.cls = .type "function") (hq : R (.ok (.ret (.type "function"))) ⟨h, g, d, t, os⟩) :
    codeAny (model prog w) A (.call (.builtin "object.__getattribute__") ⟨[.ref a, .str "__class__" tk], []⟩) R ⟨h, g, d, t, os⟩ :=
  codeAny_call_builtin FF.slot_ga.plain F.entry_object_getattribute (FF.slot_ga.check _ _ _ _ _ _ _ _ (show (⟨h, g, d, t, os⟩ : Shared).TypeIs (.ref a) "function" from ⟨_, hx, hc⟩) (F.args_object_getattribute_2 _ _) (cf_entry hx hc hq))
theorem cf_by {tk : Tok} {Q : Value → Shared → Prop} (hx : h.get? a = some o) (hc : o.cls = .type "function") (hq : Q (.type "function") ⟨h, g, d, t, os⟩) : wpAny (model prog w) A (getAttrBy (.ref a) (.str "__class__" tk) false) Q E ⟨h, g, d, t, os⟩ := by
  have hT : (⟨h, g, d, t, os⟩ : Shared).TypeIs (.ref a) "function" := ⟨_, hx, hc⟩
  have f2 := FF.slot_ga.lookup
  have f3 := FF.slot_ga.bind (.ref a)
  repeat (any_goals (first | assumption | wp_step))
  refine cf_call hx hc ?_
  repeat (any_goals (first | assumption | wp_step))
theorem cf_attr {Q : Option Value → Shared → Prop} (hx : h.get? a = some o) (hc : o.cls = .type "function") (hq : Q (some (.type "function")) ⟨h, g, d, t + 1, os⟩) : wpAny (model prog w) A (getAttr? (.ref a) "__class__") Q E ⟨h, g, d, t, os⟩ := by
  unfold getAttr? getAttrBy?
  repeat (any_goals (first | assumption | with_reducible apply cf_by hx hc | wp_step))
namespace W
theorem kitx_func {K : Frag} {a : Addr} : KitX K (.ref a) (.type "function") (KitAt a "function") := kitx_of kitAt_ty (fun {_ _ _ _ _ s} p k => by obtain ⟨h, g, d, t, os⟩ := s; obtain ⟨o, h1, h2⟩ := p; exact cf_attr h1 h2 k)
end W
end
end PySem
namespace Sq
open PySem PySem.Spec PyProof.Rows L2
theorem fn_mro : ((fastBuiltinMro "function").any fun l => l.all noRef) = true := by decide +kernel
theorem fn_sub {K : PySem.W.Frag} (C : Addr) : PySem.W.subIn K (.type "function") (.ref C) = some false := by
  have e := fn_mro
  show (fastBuiltinMro "function").map (·.contains (.ref C)) = some false
  cases q : fastBuiltinMro "function" with
  | none => rw [q] at e; cases e
  | some l =>
    rw [q] at e
    have e' : l.all noRef = true := e
    have : l.contains (Value.ref C) = false := by
      cases z : l.contains (Value.ref C) with
      | false => rfl
      | true =>
        rw [List.contains_iff_exists_mem_beq] at z
        obtain ⟨v, hv, bv⟩ := z
        have n := List.all_eq_true.mp e' v hv
        cases v <;> simp [noRef] at n <;> exact nomatch bv
    exact congrArg some this
structure KIF (K : PySem.W.Frag) (mg : Str → Option Value) (x c : Str) : Prop where
  ex : ∃ f C, mg x = some (.ref f) ∧ mg c = some (.ref C) ∧ PySem.W.isFn K (.ref f) = true ∧ PySem.W.kitOne K (.type "function") (.ref C) = some false
structure KIO2 (K : PySem.W.Frag) (mg : Str → Option Value) (c2 c : Str) : Prop where
  ex : ∃ C2 C, mg c2 = some (.ref C2) ∧ mg c = some (.ref C) ∧ KI K C2 ∧ PySem.W.kitOne K (.ref C2) (.ref C) = some false ∧ PySem.W.notFirst K C (.ref C2) = true
section
variable {K : PySem.W.Frag} {mg : Str → Option Value} {h : Heap} {x c c2 : Str} {f C C2 : Addr}
theorem KIF.of (X : K.In h) (G : h.Ns mainGlobals mg) (aF : PySem.W.nsIn K mainGlobals x = some (some (.ref f))) (aC : PySem.W.nsIn K mainGlobals c = some (some (.ref C))) (i : PySem.W.isFn K (.ref f) = true) (n : PySem.W.isClsIn K C = true) (t : PySem.W.typeIn K (.ref C) = some (.type "type")) : KIF K mg x c :=
  ⟨f, C, PySem.W.mg_of X G aF, PySem.W.mg_of X G aC, i, by
    unfold PySem.W.kitOne PySem.W.kitCls
    rw [if_neg (by intro z; exact nomatch z)]
    have n' : (PySem.W.clsIn K C).isSome = true := n
    simp only [n', t, beq_self_eq_true, Bool.and_self, if_true]
    exact fn_sub C⟩
theorem KIO2.of (X : K.In h) (G : h.Ns mainGlobals mg) (aC2 : PySem.W.nsIn K mainGlobals c2 = some (some (.ref C2))) (aC : PySem.W.nsIn K mainGlobals c = some (some (.ref C))) (ki : KI K C2) (n : PySem.W.isClsIn K C = true) (t : PySem.W.typeIn K (.ref C) = some (.type "type")) (ne : (Value.ref C2 == Value.ref C) = false) (m : PySem.W.mroIn K C2 (.ref C) = some false) : KIO2 K mg c2 c :=
  ⟨C2, C, PySem.W.mg_of X G aC2, PySem.W.mg_of X G aC, ki, by
    unfold PySem.W.kitOne PySem.W.kitCls
    rw [ne]
    have n' : (PySem.W.clsIn K C).isSome = true := n
    simp only [n', t, beq_self_eq_true, Bool.and_self, if_true, Bool.false_eq_true, if_false]
    exact m, by
    unfold PySem.W.notFirst
    have : PySem.W.subIn K (.ref C2) (.ref C) = some false := m
    rw [this]; simp⟩
theorem GK.fn (X : K.In h) (G : h.Ns mainGlobals mg) (a : PySem.W.nsIn K mainGlobals x = some (some (.ref f))) : GK K mg x (.fn x) := ⟨.ref f, _, PySem.W.mg_of X G a, rfl, fun _ _ => .fn (PySem.W.mg_of X G a)⟩
end
def rIsiX (K : PySem.W.Frag) : List V → Hp → VK → Prop := fun xs H Q => rIsi K xs H Q ∨ ∃ (f C : Addr), xs = [.ref f, .ref C] ∧ PySem.W.isFn K (.ref f) = true ∧ PySem.W.kitOne K (.type "function") (.ref C) = some false ∧ Q (.bl false) H
theorem call_isiX {X : Cx} : CallR X (.builtin "isinstance") (rIsiX X.K) := by
  intro pins s σ H xs us Q I r h
  rcases h with h | ⟨f, C, rfl, hf, e, q⟩
  · exact call_isi pins s σ H xs us Q I r h
  · obtain ⟨u1, u2, rfl, r1, r2⟩ := vals2 r
    have e2 := (ClsV.own C).eq r2
    subst e2
    cases (show u1 = Value.ref f from r1)
    have e1 : PySem.W.typeIn X.K (.ref f) = some (.type "function") := beq_iff_eq.mp hf
    obtain ⟨o, ho, hc⟩ := Option.map_eq_some_iff.mp e1
    exact PySem.W.kia_one PySem.W.kitx_func I.kIn ⟨o, I.kIn _ _ ho, hc⟩ e (fun z => nomatch z) fun tk => ⟨.bl false, H, I.tok tk, rfl, q⟩
def wIsOx (fns others : List Str) (c : Str) (we : WE) : WE := fun ρ S Q => we ρ S fun d S1 => ((kindT (view S1 d)).isSome = true ∧ Q (.bl false) S1) ∨ ((atts S1 c d).isSome = true ∧ Q (.bl true) S1) ∨
  (∃ x, x ∈ fns ∧ d = .fn x ∧ Q (.bl false) S1) ∨ ∃ c2, c2 ∈ others ∧ (atts S1 c2 d).isSome = true ∧ Q (.bl false) S1
def tIsOx (X : Cx) (c : Str) (te : TE) : TE := fun σ H Q => ∃ C, X.mg c = some (.ref C) ∧ tCB (rIsiX X.K) (tCons te (tCons (tC (.ref C)) tNil)) σ H Q
section
variable {X : Cx} {Γ : Gam} {e : Expr} {te : TE} {we : WE} {p pos p2 : Pos} {c x : Str} {fns others : List Str}
theorem se_isOx (k : KIO X.K X.mg c) (kf : ∀ x, x ∈ fns → KIF X.K X.mg x c) (k2 : ∀ c2, c2 ∈ others → KIO2 X.K X.mg c2 c) (hm : X.mg "isinstance" = none) (h : SE X Γ e te we) (hg : Gl X "isinstance" := by rfl) (hgc : Gl X c := by rfl) (hxd : (c == ("__debug__" : Str)) = false := by decide)
    (he : starEach [e, .Name c p2] X.env = (false, eval e X.env) :: starEach [.Name c p2] X.env := by rfl) (he2 : starEach [.Name c p2] X.env = (false, eval (.Name c p2) X.env) :: starEach [] X.env := by rfl) (hpl : (backTo pos (starEach [.Name c p2] X.env)).any (·.1) = false := by rfl) :
    SE X Γ (.Call (.Name "isinstance" p) [e, .Name c p2] [] pos) (tIsOx X c te) (wIsOx fns others c we) := by
  obtain ⟨C, hC, ki, kn⟩ := k.ex
  refine ⟨⟨fun pins s σ H Q I hw => ?_⟩, fun Z lk σ ρ I μ S H Q Φ rs ok hw kp => ⟨C, hC, h.si Z lk σ ρ I μ S H _ _ rs ok hw fun v d I1 μ1 S1 H1 e1 o1 r1 q1 => ?_⟩⟩
  · obtain ⟨C', hC', q⟩ := hw
    rw [hC] at hC'
    cases hC'
    exact (pe_callB call_isiX hg hm (by decide +kernel) (pa_cons h.pe (pa_cons (pe_glob (v := .ref C) hgc hC rfl hxd) pa_nil he2) he) (by decide) (by decide) he hpl).run pins s σ H Q I q
  · rcases q1 with ⟨hk, q1⟩ | ⟨hs, q1⟩ | ⟨x, hx, rfl, q1⟩ | ⟨c2, h2, hs, q1⟩
    · obtain ⟨kk, hk⟩ := Option.isSome_iff_exists.mp hk
      exact .inl ⟨v, .ref C, .type kk, .ref C, _, rfl, .own C, kind_ty o1 r1 hk, kn kk (kindT_in hk), kp _ _ I1 μ1 S1 H1 e1 o1 .bl q1⟩
    · obtain ⟨fs, hs⟩ := Option.isSome_iff_exists.mp hs
      obtain ⟨a, C', dx, fv, rfl, hC', hh, _⟩ := atts_ok o1 r1 hs
      rw [hC] at hC'
      cases hC'
      exact .inl ⟨_, .ref C, .ref C, .ref C, true, rfl, .own C, .base (.ins hh ki.cl ki.ha ki.hn ki.htk ki.hm), by unfold PySem.W.kitOne; rw [if_pos (by simp)], kp _ _ I1 μ1 S1 H1 e1 o1 .bl q1⟩
    · obtain ⟨f, C', hf, hC', i, kk⟩ := (kf x hx).ex
      rw [hC] at hC'
      cases hC'
      cases r1 with
      | fn hm' =>
        rw [hf] at hm'
        cases hm'
        exact .inr ⟨f, C, rfl, i, kk, kp _ _ I1 μ1 S1 H1 e1 o1 .bl q1⟩
    · obtain ⟨C2, C', hC2, hC', ki2, kk, _⟩ := (k2 c2 h2).ex
      rw [hC] at hC'
      cases hC'
      obtain ⟨fs, hs⟩ := Option.isSome_iff_exists.mp hs
      obtain ⟨a, C2', dx, fv, rfl, hC2', hh, _⟩ := atts_ok o1 r1 hs
      rw [hC2] at hC2'
      cases hC2'
      exact .inl ⟨_, .ref C, .ref C2, .ref C, false, rfl, .own C, .base (.ins hh ki2.cl ki2.ha ki2.hn ki2.htk ki2.hm), kk, kp _ _ I1 μ1 S1 H1 e1 o1 .bl q1⟩
end
def fEqOx (others : List Str) (c : Str) (sp : FSp) (g : Bool → Bool) : F2 := fun S x y Q => (atts S c x).isSome = true ∧ ((kindT (view S y)).isSome = true ∨ (atts S c y).isSome = true ∨ ∃ c2, c2 ∈ others ∧ (atts S c2 y).isSome = true) ∧ sp [x, y] S fun r S1 => ∃ b, r = .bl b ∧ Q (.bl (g b)) S1
theorem opd_eqOx {P : Program} {w : World} {base : Heap} {K : PySem.W.Frag} {mg : Str → Option Value} {Z : Zt} {k : Nat} {c : Str} {sp : FSp} {others : List Str} (m : EqO P w K mg base k c sp) (k2 : ∀ c2, c2 ∈ others → KIO2 K mg c2 c) {g : Bool → Bool} : OpD K mg Z (rEqO K mg c (spOf K mg 2 sp) g) (fEqOx others c sp g) := by
  obtain ⟨C, _, _, _, hC, ki, _, _, _, nf, _, _⟩ := m.ex
  intro I μ S H x y a b Q Φ ok ra rb q kp
  obtain ⟨q1, q2, q⟩ := q
  obtain ⟨fs, q1⟩ := Option.isSome_iff_exists.mp q1
  obtain ⟨p1, C', dx, fv, rfl, hC', h1, _⟩ := atts_ok ok ra q1
  rw [hC] at hC'
  cases hC'
  have tt : ∃ t, TyX K H y t ∧ PySem.W.notFirst K C t = true := by
    rcases q2 with q2 | q2 | ⟨c2, hc2, q2⟩
    · obtain ⟨t, ht⟩ := Option.isSome_iff_exists.mp q2
      exact ⟨_, kind_ty ok rb ht, nf t (kindT_in ht)⟩
    · obtain ⟨gs, q2⟩ := Option.isSome_iff_exists.mp q2
      obtain ⟨p2, C', dy, gv, rfl, hC', h2, _⟩ := atts_ok ok rb q2
      rw [hC] at hC'
      cases hC'
      exact ⟨_, .base (.ins h2 ki.cl ki.ha ki.hn ki.htk ki.hm), by simp [PySem.W.notFirst]⟩
    · obtain ⟨C2, C', hC2, hC', ki2, _, nn⟩ := (k2 c2 hc2).ex
      rw [hC] at hC'
      cases hC'
      obtain ⟨gs, q2⟩ := Option.isSome_iff_exists.mp q2
      obtain ⟨p2, C2', dy, gv, rfl, hC2', h2, _⟩ := atts_ok ok rb q2
      rw [hC2] at hC2'
      cases hC2'
      exact ⟨_, .base (.ins h2 ki2.cl ki2.ha ki2.hn ki2.htk ki2.hm), nn⟩
  obtain ⟨t, t1, t2⟩ := tt
  exact ⟨C, p1, dx, fv, t, hC, rfl, h1, t1, t2, rfl, [a, b], Z, I, μ, S, _, .cons ra (.cons rb .nil), ok, q, fun v d I' μ' S' H' e o r hq => by
    obtain ⟨bb, rfl, hq⟩ := hq
    exact ⟨bb, rp_bl r, kp _ _ I' μ' S' H' e o .bl hq⟩⟩
section
variable {X : Cx} {k j : Nat} {c : Str} {sp : FSp} {others : List Str}
theorem cm_eqOx (m : EqO X.prog X.w X.K X.mg X.base k c sp) (k2 : ∀ c2, c2 ∈ others → KIO2 X.K X.mg c2 c) (hr : Room j X.A) (hk : k + 1 ≤ j) : CmpR X .Eq (rEqO X.K X.mg c (spOf X.K X.mg 2 sp) id) (fEqOx others c sp id) := ⟨or_eqO m hr hk, fun _ => opd_eqOx m k2⟩
theorem cm_neOx (m : EqO X.prog X.w X.K X.mg X.base k c sp) (k2 : ∀ c2, c2 ∈ others → KIO2 X.K X.mg c2 c) (hr : Room j X.A) (hk : k + 1 ≤ j) : CmpR X .NotEq (rEqO X.K X.mg c (spOf X.K X.mg 2 sp) not) (fEqOx others c sp not) := ⟨or_neO m hr hk, fun _ => opd_eqOx m k2⟩
end
end Sq
set_option maxHeartbeats 4000000
namespace Sq
open PySem L2
def tab_PipeError : Str → Option Bool := tabOf [("Wrong", true)]
def tab_Wrong : Str → Option Bool := tabOf [("Wrong", true)]
theorem due_iff2 {x y : Rt} (okx : x.ok) (oky : y.ok) (lx : x.le 21) (ly : y.le 21) : ((List.range 90).filter (fun (n : Nat) => decide (given x (n : Int) ≠ given y (n : Int))) = []) ↔ ∀ a : Int, 0 ≤ a → given x a = given y a := by
  rw [List.filter_eq_nil_iff]
  constructor
  · intro h a ha
    by_cases z : given x a = given y a
    · exact z
    exfalso
    obtain ⟨ms, hs, hm⟩ : ∃ ms : List Int, ms.Pairwise (· < ·) ∧ ∀ k, k ∈ ms ↔ k ∈ bds x ++ bds y := by
      obtain ⟨ms, h1, h2⟩ : ∃ ms : List Int, ms.Pairwise (· < ·) ∧ ∀ k, k ∈ ms ↔ k ∈ bds x ++ bds y := by
        generalize bds x ++ bds y = l
        induction l with
        | nil => exact ⟨[], .nil, fun k => by simp⟩
        | cons t l ih =>
          obtain ⟨ms, h1, h2⟩ := ih
          refine ⟨(ms.filter (· < t)) ++ t :: (ms.filter (t < ·)), ?_, fun k => ?_⟩
          · refine List.pairwise_append.mpr ⟨h1.filter _, List.pairwise_cons.mpr ⟨fun u hu => ?_, h1.filter _⟩, fun u hu v hv => ?_⟩
            · have := (List.mem_filter.mp hu).2; simpa using this
            · have hu := (List.mem_filter.mp hu).2
              simp at hu
              rcases List.mem_cons.mp hv with rfl | hv
              · exact hu
              · have := (List.mem_filter.mp hv).2
                simp at this
                omega
          · rw [List.mem_append, List.mem_cons, List.mem_cons, List.mem_filter, List.mem_filter, ← h2]
            by_cases e : k = t
            · simp [e]
            · have : k < t ∨ t < k := by omega
              simp [e]
              constructor
              · rintro (h | h) <;> exact h.1
              · exact fun h => this.elim (fun q => .inl ⟨h, q⟩) fun q => .inr ⟨h, q⟩
      exact ⟨ms, h1, h2⟩
    cases ms with
    | nil => have := (hm (thr x)).mpr (List.mem_append_left _ (thr_bds x)); simp at this
    | cons m r =>
      obtain ⟨b, hb, _, b0, hne, _⟩ := tells_at (xs := tellOf (m :: r)) ⟨m, r, hs, hm, rfl⟩ okx oky ha z
      have hB : ∀ t, t ∈ m :: r → t ≤ 21 := fun t ht => by
        rcases List.mem_append.mp ((hm t).mp ht) with h | h
        · exact (bds_in (by decide) x okx lx t h).2
        · exact (bds_in (by decide) y oky ly t h).2
      have := tell_top r m hB b hb
      obtain ⟨j, rfl⟩ := Int.eq_ofNat_of_zero_le b0
      have z := h j (by rw [List.mem_range]; omega)
      simp at z
      exact hne z
  · intro h n _
    simp [h (n : Int) (by omega)]
theorem LowA.psh {S : Sto} (h : LowA S) {m : M} (hm : ∀ j, S.length ≤ j → lowM j m) : LowA (S ++ [m]) := fun k m' e j hj => by
  rw [List.length_append, List.length_singleton] at hj
  by_cases z : k < S.length
  · rw [List.getElem?_append_left z] at e
    exact h k m' e j (by omega)
  · have hk : k < S.length + 1 := by
      have := (List.getElem?_eq_some_iff.mp e).1
      simpa using this
    have ek : k = S.length := by omega
    subst ek
    rw [List.getElem?_append_right (Nat.le_refl _)] at e
    simp at e
    subst e
    exact hm j (by omega)
structure Lt (d : D) : Prop where
  pl : plain d
  rs : ∀ S : Sto, res S d = d
def Odd (d : D) : Prop := d = .fn "at_least" ∨ ((kindT d).isSome = true ∧ (∀ S : Sto, res S d = d) ∧ ∀ S : Sto, view S d = d)
theorem Odd.res {d : D} (h : Odd d) (S : Sto) : res S d = d := by
  rcases h with rfl | h
  · rfl
  · exact h.2.1 S
def spx_Account_init : FSpX := fun ds S Q Ψ => ∃ (n : Nat) (c d : D), ds = [.h n, c, d] ∧ S[n]? = some (.ins "Account" []) ∧ Lt c ∧ (isN 1 c = false → Ψ "Wrong" [("place", .int 0)] S) ∧
  (isN 1 c = true → (∃ (i : Int) (r : Rt), c = .int i ∧ d = rule r ∧ Q .non (S.set n (acc i r 0 0))) ∨ (Odd d ∧ Ψ "Wrong" [("place", .int 1)] S)) ∧ ∀ S : Sto, res S d = d
def sp_Account_x_eq : FSp := fun ds S Q => ∃ (n : Nat) (c u w : Int) (r : Rt) (d : D), ds = [.h n, d] ∧ S[n]? = some (acc c r u w) ∧ AOk c r u w ∧ lowS S ∧
  ((∃ (n' : Nat) (c' u' w' : Int) (r' : Rt), d = .h n' ∧ S[n']? = some (acc c' r' u' w') ∧ AOk c' r' u' w' ∧ ∀ b : Bool, (b = true ↔ (∀ a : Int, 0 ≤ a → given r a = given r' a) ∧ c = c' ∧ u = u' ∧ w = w') → Q (.bl b) S) ∨ (((∃ r' : Rt, d = rule r') ∨ (kindT d).isSome = true) ∧ Q (.bl false) S))
def sp_q_refused : FSp := fun ds S Q => ∃ (c d : D), ds = [c, d] ∧ Lt c ∧ (∀ S : Sto, res S d = d) ∧ lowS S ∧ (isN 1 c = false → Q (.int 0) S) ∧
  (isN 1 c = true → (∃ (i : Int) (r : Rt), c = .int i ∧ d = rule r ∧ Q .non (S ++ [acc i r 0 0])) ∨ (Odd d ∧ Q (.int 1) S))
def sp_q_brought : FSp := fun ds S Q => ∃ (c : Int) (r : Rt) (u w : Int) (b : Bool), ds = [.int c, rule r, .int u, .int w, .bl b] ∧ AOk c r u w ∧ thr r ≤ c ∧ LowA S ∧ Q (.h S.length) (S ++ [acc c r u w])
def sp_Account_copied : FSp := fun ds S Q => ∃ (n : Nat) (c u w : Int) (r : Rt), ds = [.h n] ∧ S[n]? = some (acc c r u w) ∧ 1 ≤ c ∧ Q (.h S.length) (S ++ [acc c r u w])
def wx_Account_init (Ψ : Xk) : WS :=
  (wSeq (wIfS (wNot (wTru (wCall 2 sp_is_number [] (wCons (wC (.int 1)) (wCons (wVar 1) wNil))))) (wRaise Ψ "Wrong" "place" (wC (.int 0))) wSkip) (wSeq (wIfS (wNot (wTru (wIsOx ["at_least"] [] "Rule" (wVar 2)))) (wRaise Ψ "Wrong" "place" (wC (.int 1))) wSkip) (wSeq (wSetA "Account" "its_credit" (wVar 1) (wVar 0)) (wSeq (wSetA "Account" "its_rule" (wVar 2) (wVar 0)) (wSeq (wSetA "Account" "its_unpassed" (wC (.int 0)) (wVar 0)) (wSetA "Account" "its_withheld" (wC (.int 0)) (wVar 0)))))))
def w_Account_copied : WS :=
  (wSeq (wAsg (wMakeM "Account" 3 sp_Account_init [] (wCons (wFld "Account" "its_credit" (wVar 0)) (wCons (wFld "Account" "its_rule" (wVar 0)) wNil))) (wName 1)) (wSeq (wSetA "Account" "its_unpassed" (wFld "Account" "its_unpassed" (wVar 0)) (wVar 1)) (wSeq (wSetA "Account" "its_withheld" (wFld "Account" "its_withheld" (wVar 0)) (wVar 1)) (wRet (wVar 1)))))
def n_Account_copied : List Str := ["self", "other"]
def w_Account_x_eq : WS :=
  (wSeq (wIfS (wOr (wNot (wTru (wIsOx [] ["Rule"] "Account" (wVar 1)))) (wTest (wOp (fEqO "Rule" sp_Rule_eq not) (wFld "Account" "its_rule" (wVar 0)) (wFld "Account" "its_rule" (wVar 1))))) (wRet (wC (.bl false))) wSkip) (wSeq (wIfS (wOr (wTest (wOp fNe (wFld "Account" "its_credit" (wVar 0)) (wFld "Account" "its_credit" (wVar 1)))) (wTest (wOp fNe (wFld "Account" "its_unpassed" (wVar 0)) (wFld "Account" "its_unpassed" (wVar 1))))) (wRet (wC (.bl false))) wSkip) (wRet (wOp fEq (wFld "Account" "its_withheld" (wVar 0)) (wFld "Account" "its_withheld" (wVar 1))))))
def n_Account_x_eq : List Str := ["self", "other"]
def w_q_refused : WS :=
  (wSeq (wTryAs tab_PipeError 2 (fun Ψ1 => (wDrop (wMakeMX Ψ1 "Account" 3 spx_Account_init [] (wCons (wVar 0) (wCons (wVar 1) wNil))))) (wRet (wIf (wTru (wIsX tab_Wrong (wVar 2))) (wXf ["Wrong"] "place" (wVar 2)) (wC (.str "other")))) X0) (wRet (wC .non)))
def n_q_refused : List Str := ["_law_credit", "_law_rule", "e"]
def w_q_brought : WS :=
  (wSeq (wAsg (wMakeM "Account" 3 sp_Account_init [] (wCons (wVar 0) (wCons (wVar 1) wNil))) (wName 5)) (wSeq (wIfS (wAnd (wTru (wVar 4)) (wTest (wOp (fCmp fun i j => decide (j < i)) (wVar 3) (wC (.int 0))))) (wDrop (wMeth "Account" "flows" 3 sp_Account_flows [] (wVar 5) (wCons (wC (.int 1)) (wCons (wVar 3) wNil)))) (wIfS (wTest (wOp (fCmp fun i j => decide (j < i)) (wVar 3) (wC (.int 0)))) (wSeq (wAugO X0 "Account" spx_Account_isub 5 (wVar 3)) (wAugO X0 "Account" spx_Account_iadd 5 (wVar 3))) wSkip)) (wSeq (wIfS (wTest (wOp (fCmp fun i j => decide (j < i)) (wVar 2) (wC (.int 0)))) (wAugO X0 "Account" spx_Account_isub 5 (wVar 2)) wSkip) (wRet (wVar 5)))))
def n_q_brought : List Str := ["_law_credit", "_law_rule", "_law_unpassed", "_law_kept", "_law_is_far", "_law_account"]
theorem setA_x {κ : WK} {ρ : Ro} {S : Sto} {i n : Nat} {fs : List (Str × D)} {f : Str} {d : D} {we : WE} (g0 : gt ρ i = some (.h n)) (h : S[n]? = some (.ins "Account" fs)) (hl : fs.length < 1000) (he : ∀ Q : D → Sto → Prop, Q d S → we ρ S Q) (q : κ.nx ρ (S.set n (.ins "Account" (putA f d fs)))) : wSetA "Account" f we (wVar i) κ ρ S := by
  unfold wSetA
  refine he _ ?_
  simp only [wVar, g0, onS_some, res_hi h, h]
  exact ⟨trivial, hl, q⟩
theorem law_Account_copied (ds : List D) (S : Sto) (Φ : D → Sto → Prop) (h : sp_Account_copied ds S Φ) : w_Account_copied { nx := fun _ S' => Φ .non S', rt := Φ } (ro n_Account_copied ds) S := by
  obtain ⟨n, c, u, w, r, rfl, hS, h1, q⟩ := h
  unfold w_Account_copied n_Account_copied
  simp only [ro, List.map_cons, List.map_nil, List.length_cons, List.length_nil, List.cons_append, List.nil_append, Nat.reduceAdd, Nat.reduceSub, List.replicate_succ, List.replicate_zero]
  rw [wSeq]
  simp only [wAsg, wMakeM, wCons, wNil, wFld, wVar, gt, onS_some, res_acc hS, atts_acc hS, lk_c, lk_r, List.append_nil, List.length_cons, List.length_nil, Nat.reduceAdd, true_and]
  have nl := (List.getElem?_eq_some_iff.mp hS).1
  refine ⟨S.length, c, r, rfl, by simp, h1, rfl, ?_⟩
  rw [List.set_append_right _ _ (Nat.le_refl _), Nat.sub_self]
  simp only [List.set_cons_zero, wName, st]
  have k1 : (S ++ [acc c r 0 0])[n]? = some (acc c r u w) := by rw [List.getElem?_append_left nl]; exact hS
  have k2 : ∀ m : M, (S ++ [m])[S.length]? = some m := fun m => by rw [List.getElem?_append_right (Nat.le_refl _), Nat.sub_self]; rfl
  have st2 : ∀ m m' : M, (S ++ [m]).set S.length m' = S ++ [m'] := fun m m' => by rw [List.set_append_right _ _ (Nat.le_refl _), Nat.sub_self]; rfl
  rw [wSeq]
  refine setA_x (i := 1) (fs := accf c r 0 0) (d := .int u) rfl (k2 _) (by show 4 < 1000; decide) (fun Q h => by simp only [wFld, wVar, gt, onS_some, res_acc k1, atts_acc k1, lk_u]; exact h) ?_
  rw [st2]
  have k3 : (S ++ [M.ins "Account" (putA "its_unpassed" (.int u) (accf c r 0 0))])[n]? = some (acc c r u w) := by rw [List.getElem?_append_left nl]; exact hS
  simp only [wSeq]
  refine setA_x (i := 1) (fs := accf c r u 0) (d := .int w) rfl (k2 _) (by show 4 < 1000; decide) (fun Q h => by simp only [wFld, wVar, gt, onS_some, res_acc k3, atts_acc k3, lk_w]; exact h) ?_
  rw [st2]
  have k4 : (S ++ [M.ins "Account" (putA "its_withheld" (.int w) (accf c r u 0))])[S.length]? = some (acc c r u w) := k2 _
  simp only [wRet, wVar, gt, onS_some, res_acc k4]
  exact q
theorem lawx_Account_init (ds : List D) (S : Sto) (Φ : D → Sto → Prop) (Ψ : Xf) (h : spx_Account_init ds S Φ Ψ) : wx_Account_init (fun c fs _ S' => Ψ c fs S') { nx := fun _ S' => Φ .non S', rt := Φ } (ro n_Account_init ds) S := by
  obtain ⟨n, c, d, rfl, hS, lc, q0, q1, rd⟩ := h
  have g0 : gt (ro n_Account_init [.h n, c, d]) 0 = some (.h n) := rfl
  have g1 : gt (ro n_Account_init [.h n, c, d]) 1 = some c := rfl
  have g2 : gt (ro n_Account_init [.h n, c, d]) 2 = some d := rfl
  generalize ro n_Account_init [.h n, c, d] = ρ at g0 g1 g2
  unfold wx_Account_init
  rw [wSeq]
  simp only [wIfS, wNot, wTru, wCall, wCons, wNil, wVar, wC, g1, onS_some, lc.rs, List.append_nil, List.length_cons, List.length_nil, Nat.reduceAdd, true_and]
  refine ⟨1, _, rfl, lc.pl, ?_⟩
  cases e : isN 1 c with
  | false =>
    simp only [tru, view_b, onS_some, Bool.not_false, if_true, wRaise, wC]
    exact q0 e
  | true =>
    simp only [tru, view_b, onS_some, Bool.not_true, Bool.false_eq_true, if_false, wSkip]
    rw [wSeq]
    rcases q1 e with ⟨i, r, rfl, rfl, q⟩ | ⟨od, q⟩
    · rw [wIfS, wNot, wTru, wIsOx]
      simp only [wVar, g2, onS_some, rule_res]
      refine .inr (.inl ⟨rfl, ?_⟩)
      simp only [tru, view_b, onS_some, Bool.not_true, Bool.false_eq_true, if_false, wSkip]
      have e1 : ∀ m : M, (S.set n m)[n]? = some m := fun m => acc_set hS
      rw [wSeq]
      refine setA_x g0 hS (by decide) (d := .int i) (fun Q h => by simp only [wVar, g1, onS_some, res_i]; exact h) ?_
      simp only [wSeq]
      refine setA_x g0 (e1 _) (by show 1 < 1000; decide) (d := rule r) (fun Q h => by simp only [wVar, g2, onS_some, rule_res]; exact h) ?_
      rw [List.set_set]
      refine setA_x (we := wC (.int 0)) g0 (e1 _) (by show 2 < 1000; decide) (d := .int 0) (fun Q h => h) ?_
      rw [List.set_set]
      refine setA_x (we := wC (.int 0)) g0 (e1 _) (by show 3 < 1000; decide) (d := .int 0) (fun Q h => h) ?_
      rw [List.set_set]
      exact q
    · rw [wIfS, wNot, wTru, wIsOx]
      simp only [wVar, g2, onS_some, rd]
      rcases od with rfl | ⟨hk, _, vd⟩
      · refine .inr (.inr (.inl ⟨"at_least", by simp, rfl, ?_⟩))
        simp only [tru, view_b, onS_some, Bool.not_false, if_true, wRaise, wC]
        exact q
      · refine .inl ⟨by rw [vd]; exact hk, ?_⟩
        simp only [tru, view_b, onS_some, Bool.not_false, if_true, wRaise, wC]
        exact q
theorem law_Account_x_eq (ds : List D) (S : Sto) (Φ : D → Sto → Prop) (h : sp_Account_x_eq ds S Φ) : w_Account_x_eq { nx := fun _ S' => Φ .non S', rt := Φ } (ro n_Account_x_eq ds) S := by
  obtain ⟨n, c, u, w, r, d, rfl, hS, A, ls, q⟩ := h
  unfold w_Account_x_eq n_Account_x_eq
  simp only [ro, List.map_cons, List.map_nil, List.length_cons, List.length_nil, List.cons_append, List.nil_append, Nat.reduceAdd, Nat.reduceSub, List.replicate_zero, List.append_nil]
  rcases q with ⟨n', c', u', w', r', rfl, hS', A', q⟩ | ⟨hk, q⟩
  · rw [wSeq, wIfS, wOr, wNot, wTru, wIsOx]
    simp only [wVar, gt, onS_some, res_acc hS']
    refine .inr (.inl ⟨by rw [atts_acc hS']; rfl, ?_⟩)
    simp only [tru, view_b, onS_some, Bool.not_true, Bool.false_eq_true, if_false, wTest, wOp, wFld, wVar, gt, res_acc hS', atts_acc hS', res_acc hS, atts_acc hS, lk_r]
    refine eq_rr A.ok A'.ok A.hn A'.hn ls fun b1 h1 => ?_
    simp only [view_b, onS_some, tru]
    cases b1 with
    | false =>
      simp only [Bool.not_false, if_true, wRet, wC]
      refine q false ⟨(fun e => nomatch e), fun e => ?_⟩
      exact absurd (h1.mpr e.1) (by decide)
    | true =>
      simp only [Bool.not_true, Bool.false_eq_true, if_false, wSkip]
      rw [wSeq]
      simp only [wIfS, wOr, wTest, wOp, wFld, wVar, gt, onS_some, res_acc hS, atts_acc hS, res_acc hS', atts_acc hS', lk_c, lk_u, lk_w, fNe, fEqB, view_i, tru, view_b]
      have f := h1.mp rfl
      by_cases zc : c = c'
      · simp only [decide_eq_true zc, Bool.not_true, Bool.false_eq_true, if_false]
        by_cases zu : u = u'
        · simp only [decide_eq_true zu, Bool.not_true, Bool.false_eq_true, if_false, wSkip, wRet, wOp, wFld, wVar, gt, onS_some, res_acc hS, atts_acc hS, res_acc hS', atts_acc hS', lk_w, fEq, fEqB, view_i]
          refine q _ ⟨fun e => ⟨f, zc, zu, of_decide_eq_true e⟩, fun e => decide_eq_true e.2.2.2⟩
        · simp only [decide_eq_false zu, Bool.not_false, if_true, wRet, wC]
          exact q false ⟨(fun e => nomatch e), fun e => absurd e.2.2.1 zu⟩
      · simp only [decide_eq_false zc, Bool.not_false, if_true, wRet, wC]
        exact q false ⟨(fun e => nomatch e), fun e => absurd e.2.1 zc⟩
  · rw [wSeq, wIfS, wOr, wNot, wTru, wIsOx]
    rcases hk with ⟨r', rfl⟩ | hk
    · simp only [wVar, gt, onS_some, rule_res]
      refine .inr (.inr (.inr ⟨"Rule", by simp, rfl, ?_⟩))
      simp only [tru, view_b, onS_some, Bool.not_false, if_true, wRet, wC]
      exact q
    · have vd : view S d = d := by cases d <;> first | rfl | simp [kindT] at hk
      have rd : res S d = d := by cases d <;> first | rfl | simp [kindT] at hk
      simp only [wVar, gt, onS_some, rd]
      refine .inl ⟨by rw [vd]; exact hk, ?_⟩
      simp only [tru, view_b, onS_some, Bool.not_false, if_true, wRet, wC]
      exact q
theorem law_q_refused (ds : List D) (S : Sto) (Φ : D → Sto → Prop) (h : sp_q_refused ds S Φ) : w_q_refused { nx := fun _ S' => Φ .non S', rt := Φ } (ro n_q_refused ds) S := by
  obtain ⟨c, d, rfl, lc, rd, ls, q0, q1⟩ := h
  have t1 : tab_PipeError "Wrong" = some true := rfl
  have t2 : tab_Wrong "Wrong" = some true := rfl
  unfold w_q_refused n_q_refused
  simp only [ro, List.map_cons, List.map_nil, List.length_cons, List.length_nil, List.cons_append, List.nil_append, Nat.reduceAdd, Nat.reduceSub, List.replicate_succ, List.replicate_zero]
  rw [wSeq]
  have told : ∀ (p : Int), Φ (.int p) S → Xcat tab_PipeError 2 (wRet (wIf (wTru (wIsX tab_Wrong (wVar 2))) (wXf ["Wrong"] "place" (wVar 2)) (wC (.str "other")))) { nx := wRet (wC .non) { nx := fun _ S' => Φ .non S', rt := Φ }, rt := Φ } X0 "Wrong" [("place", .int p)] [some c, some d, none] S := fun p q => by
    refine ⟨true, t1, fun _ => ?_, fun e => nomatch e⟩
    have rx : res S (.exc "Wrong" [("place", .int p)]) = .exc "Wrong" [("place", .int p)] := rfl
    have vx : view S (.bl true) = .bl true := rfl
    have lk : List.lookup ("place" : Str) [(("place" : Str), D.int p)] = some (.int p) := rfl
    simp only [kOut, wRet, wIf, wTru, wIsX, wVar, st, gt, onS_some, rx, t2, tru, vx, if_true, wXf, lk, List.mem_singleton, true_and]
    exact q
  unfold wTryAs
  simp only [wDrop, wMakeMX, wCons, wNil, wVar, gt, onS_some, lc.rs, rd, List.append_nil, List.length_cons, List.length_nil, Nat.reduceAdd, true_and]
  refine ⟨S.length, c, d, rfl, by simp, lc, fun e => ⟨.ins "Account" [], rfl, ?_, fun k m hk hm => ls k m hk hm, told 0 (q0 e)⟩, fun e => ?_, rd⟩
  · simp [lowf, low]
  · rcases q1 e with ⟨i, r, rfl, rfl, q⟩ | ⟨od, q⟩
    · refine .inl ⟨i, r, rfl, rfl, rfl, ?_⟩
      rw [List.set_append_right _ _ (Nat.le_refl _), Nat.sub_self]
      simp only [List.set_cons_zero, wRet, wC]
      exact q
    · refine .inr ⟨od, .ins "Account" [], rfl, ?_, fun k m hk hm => ls k m hk hm, told 1 q⟩
      simp [lowf, low]
theorem wS_low {r : Rt} (ok : r.ok) : ∀ n : Nat, (n : Int) < thr r → wS r 1 0 n = n
  | 0, _ => rfl
  | n + 1, h => by
    have e := wS_low ok n (by omega)
    show wS r 1 0 n + 1 - given r (wS r 1 0 n + 1) = _
    rw [e, given_low r _ ok (by omega) (by omega)]
    omega
theorem law_q_brought (ds : List D) (S : Sto) (Φ : D → Sto → Prop) (h : sp_q_brought ds S Φ) : w_q_brought { nx := fun _ S' => Φ .non S', rt := Φ } (ro n_q_brought ds) S := by
  obtain ⟨c, r, u, w, b, rfl, A, tc, ls, q⟩ := h
  unfold w_q_brought n_q_brought
  simp only [ro, List.map_cons, List.map_nil, List.length_cons, List.length_nil, List.cons_append, List.nil_append, Nat.reduceAdd, Nat.reduceSub, List.replicate_succ, List.replicate_zero]
  have u0 := A.u0
  have w0 := A.w0
  have wt := A.wt
  have fit := A.fit
  have c2 := A.c2
  have A0 : ∀ u w : Int, 0 ≤ u → 0 ≤ w → w < thr r → u + w ≤ c → AOk c r u w := fun u w h1 h2 h3 h4 => ⟨A.ok, A.hn, A.le, A.c1, A.c2, h1, h2, h3, h4⟩
  have tp : 0 < thr r := by omega
  have at0 : ∀ u w : Int, (S ++ [acc c r u w])[S.length]? = some (acc c r u w) := fun u w => by rw [List.getElem?_append_right (Nat.le_refl _), Nat.sub_self]; rfl
  have set0 : ∀ u w u' w' : Int, (S ++ [acc c r u w]).set S.length (acc c r u' w') = S ++ [acc c r u' w'] := fun u w u' w' => by rw [List.set_append_right _ _ (Nat.le_refl _), Nat.sub_self]; rfl
  have low : ∀ u w : Int, lowS (S ++ [acc c r u w]) := fun u w => (ls.psh fun j _ => low_acc j c r u w).low
  rw [wSeq]
  simp only [wAsg, wMakeM, wCons, wNil, wVar, gt, onS_some, res_i, rule_res, List.append_nil, List.length_cons, List.length_nil, Nat.reduceAdd, true_and]
  refine ⟨S.length, c, r, rfl, by simp, A.c1, rfl, ?_⟩
  rw [List.set_append_right _ _ (Nat.le_refl _), Nat.sub_self]
  simp only [List.set_cons_zero, wName, st]
  have fin : (wSeq (wIfS (wTest (wOp (fCmp fun i j => decide (j < i)) (wVar 2) (wC (.int 0)))) (wAugO X0 "Account" spx_Account_isub 5 (wVar 2)) wSkip) (wRet (wVar 5))) { nx := fun _ S' => Φ .non S', rt := Φ } [some (.int c), some (rule r), some (.int u), some (.int w), some (.bl b), some (.h S.length)] (S ++ [acc c r 0 w]) := by
    rw [wSeq]
    simp only [wIfS, wTest, wOp, wVar, wC, gt, onS_some, res_i, fCmp, fI, view_i, true_and, tru, view_b]
    by_cases zu : 0 < u
    · simp only [decide_eq_true zu, if_true, wAugO, wVar, gt, onS_some, res_i, res_acc (at0 0 w), atts_acc (at0 0 w), Option.isSome_some, true_and]
      refine ⟨S.length, c, 0, w, u, r, rfl, at0 0 w, fun _ => ?_, fun z => by omega⟩
      rw [set0, Int.zero_add]
      simp only [st, wRet, wVar, gt, onS_some, res_acc (at0 u w)]
      exact q
    · have e : u = 0 := by omega
      subst e
      simp only [decide_eq_false zu, Bool.false_eq_true, if_false, wSkip, wRet, wVar, gt, onS_some, res_acc (at0 0 w)]
      exact q
  rw [wSeq]
  by_cases zw : 0 < w
  · have ez := decide_eq_true zw
    cases b with
    | true =>
      simp only [wIfS, wAnd, wTru, wTest, wOp, wVar, wC, gt, onS_some, res_i, res_b, fCmp, fI, view_i, true_and, tru, view_b, ez, if_true, wDrop, wMeth, wCons, wNil, res_acc (at0 0 0), atts_acc (at0 0 0), lk_f, List.append_nil, List.length_cons, List.length_nil, Nat.reduceAdd]
      obtain ⟨m, rfl⟩ := Int.eq_ofNat_of_zero_le w0
      have P := pS_top (s := 1) A.ok (Int.le_refl 0) tp (by decide) m
      refine ⟨S.length, c, 0, 0, 1, m, r, rfl, at0 0 0, A0 0 0 (by omega) (by omega) tp (by have := A.c1; omega), by decide, by decide, by omega, low 0 0, fun _ => ?_, fun z => by omega⟩
      rw [set0, wS_low A.ok m wt]
      exact fin
    | false =>
      simp only [wIfS, wAnd, wTru, wTest, wOp, wVar, wC, gt, onS_some, res_i, res_b, fCmp, fI, view_i, true_and, tru, view_b, ez, Bool.false_eq_true, if_true, if_false]
      rw [wSeq]
      simp only [wAugO, wVar, gt, onS_some, res_i, res_acc (at0 0 0), atts_acc (at0 0 0), Option.isSome_some, true_and]
      refine ⟨S.length, c, 0, 0, w, r, rfl, at0 0 0, fun _ => ?_, fun z => by omega⟩
      rw [set0, Int.zero_add]
      simp only [st, gt, onS_some, res_i, res_acc (at0 w 0), atts_acc (at0 w 0), Option.isSome_some, true_and]
      refine ⟨S.length, c, w, 0, w, r, rfl, at0 w 0, A0 w 0 w0 (by omega) tp (by omega), by omega, by omega, low w 0, fun _ => ?_, fun z => by omega⟩
      have e1 : wS r w 0 1 = w := by
        show (0 : Int) + w - given r (0 + w) = w
        rw [Int.zero_add, given_low r w A.ok w0 wt]
        omega
      rw [set0, e1, Int.sub_self]
      simp only [st]
      exact fin
  · have e : w = 0 := by omega
    subst e
    have ez := decide_eq_false zw
    cases b with
    | true =>
      simp only [wIfS, wAnd, wTru, wTest, wOp, wVar, wC, gt, onS_some, res_i, res_b, fCmp, fI, view_i, true_and, tru, view_b, ez, Bool.false_eq_true, if_true, if_false, wSkip]
      exact fin
    | false =>
      simp only [wIfS, wAnd, wTru, wTest, wOp, wVar, wC, gt, onS_some, res_i, res_b, fCmp, fI, view_i, true_and, tru, view_b, ez, Bool.false_eq_true, if_true, if_false, wSkip]
      exact fin
end Sq
set_option maxHeartbeats 4000000
namespace Sq
open PySem L2
def w_law_elt2 : WE :=
  (wVar 7)
def w_law_elt3 : WE :=
  (wMakeF "Rule" 2 sp_Rule_init [] (wCons (wVar 9) wNil))
def w_law_elt4 : WE :=
  (wCall 1 sp_q_threshold [] (wCons (wVar 9) wNil))
def w_law_loop5 : WS :=
  (wDrop (wApp (wVar 14) (wCall 5 sp_q_brought [] (wCons (wOp fIx (wOp fIx (wVar 12) (wVar 15)) (wC (.int 0))) (wCons (wOp fIx (wVar 8) (wVar 15)) (wCons (wOp fIx (wOp fIx (wVar 12) (wVar 15)) (wC (.int 1))) (wCons (wOp fIx (wOp fIx (wVar 12) (wVar 15)) (wC (.int 2))) (wCons (wOp fIx (wVar 13) (wVar 15)) wNil))))))))
def w_law_p1 : WS :=
  (wAsg (wLst (wCons (wOp (fEqOx ["Rule"] "Account" sp_Account_x_eq id) (wOp fIx (wVar 14) (wC (.int 0))) (wOp fIx (wVar 14) (wC (.int 1)))) (wCons (wOp (fEqOx ["Rule"] "Account" sp_Account_x_eq id) (wOp fIx (wVar 14) (wC (.int 1))) (wOp fIx (wVar 14) (wC (.int 0)))) (wCons (wNotV (wOp (fEqOx ["Rule"] "Account" sp_Account_x_eq not) (wOp fIx (wVar 14) (wC (.int 0))) (wOp fIx (wVar 14) (wC (.int 1))))) (wCons (wOp (fEqOx ["Rule"] "Account" sp_Account_x_eq id) (wOp fIx (wVar 14) (wC (.int 0))) (wC (.int 5))) (wCons (wOp (fEqOx ["Rule"] "Account" sp_Account_x_eq id) (wOp fIx (wVar 14) (wC (.int 0))) (wOp fIx (wVar 8) (wC (.int 0)))) wNil)))))) (wName 18))
def w_law_p2 : WS :=
  (wIfS (wNot (wTru (wCall 2 sp_q_alike [] (wCons (wVar 18) (wCons (wLst (wCons (wVar 16) (wCons (wVar 16) (wCons (wVar 16) (wCons (wC (.bl false)) (wCons (wC (.bl false)) wNil)))))) wNil))))) (wRet (wC (.bl false))) wSkip)
def w_law_loop6 : WS :=
  (wSeq (w_law_p1) (w_law_p2))
def w_law_loop7 : WS :=
  (wIfS (wNot (wTru (wCall 2 sp_q_alike [] (wCons (wLst (wCons (wCall 2 sp_q_refused [] (wCons (wVar 22) (wCons (wOp fIx (wVar 8) (wC (.int 0))) wNil))) (wCons (wCall 2 sp_q_refused [] (wCons (wVar 22) (wCons (wVar 21) wNil))) wNil))) (wCons (wLst (wCons (wC (.int 0)) (wCons (wC (.int 0)) wNil))) wNil))))) (wRet (wC (.bl false))) wSkip)
def w_law_p3 : WS :=
  (wPar 3 4 (wCons (wCall 4 sp_q_draw_tree [] (wCons (wVar 1) (wCons (wC (.int 12)) (wCons (wC (.int 1)) (wCons (wC (.int 1)) wNil))))) (wCons (wOp fAdd (wC (.int 20)) (wCall 2 sp_q_take [] (wCons (wVar 1) (wCons (wC (.int 9)) wNil)))) wNil)))
def w_law_p4 : WS :=
  (wAsg (wLst (wCons (wVar 3) (wCons (wOp fIx (wLst (wCons (wVar 3) (wCons (wTup (wCons (wC (.str "or")) (wCons (wVar 3) (wCons (wVar 3) wNil)))) (wCons (wCall 4 sp_q_draw_tree [] (wCons (wVar 1) (wCons (wC (.int 12)) (wCons (wC (.int 1)) (wCons (wC (.int 1)) wNil))))) wNil)))) (wCall 2 sp_q_take [] (wCons (wVar 1) (wCons (wC (.int 3)) wNil)))) wNil))) (wName 5))
def w_law_p5 : WS :=
  (wAsg (wOp fEq (wLc (wRng1 (wCons (wC (.int 90)) wNil)) (wName 7) (wTest (wOp fNe (wCall 2 sp_q_give [] (wCons (wOp fIx (wVar 5) (wC (.int 0))) (wCons (wVar 7) wNil))) (wCall 2 sp_q_give [] (wCons (wOp fIx (wVar 5) (wC (.int 1))) (wCons (wVar 7) wNil))))) (w_law_elt2) [7]) (wLst wNil)) (wName 6))
def w_law_p6 : WS :=
  (wAsg (wLc (wItL (wVar 5)) (wName 9) wYes (w_law_elt3) [9]) (wName 8))
def w_law_p7 : WS :=
  (wAsg (wLc (wItL (wVar 5)) (wName 9) wYes (w_law_elt4) [9]) (wName 10))
def w_law_p8 : WS :=
  (wAsg (wCall 2 sp_q_take [] (wCons (wVar 1) (wCons (wB fMin (wCons (wVar 10) wNil)) wNil))) (wName 11))
def w_law_p9 : WS :=
  (wAsg (wLst (wCons (wLst (wCons (wVar 4) (wCons (wCall 2 sp_q_take [] (wCons (wVar 1) (wCons (wC (.int 4)) wNil))) (wCons (wVar 11) wNil)))) (wCons (wLstM (wCons (wVar 4) (wCons (wC (.int 0)) (wCons (wVar 11) wNil)))) wNil))) (wName 12))
def w_law_p10 : WS :=
  (wAsg (wOp fIx (wLst (wCons (wOp fIx (wOp fIx (wVar 12) (wC (.int 0))) (wC (.int 1))) (wCons (wCall 2 sp_q_take [] (wCons (wVar 1) (wCons (wC (.int 4)) wNil))) wNil))) (wCall 2 sp_q_take [] (wCons (wVar 1) (wCons (wC (.int 2)) wNil)))) (wSubL (wOp fIx (wVar 12) (wC (.int 1))) (wC (.int 1))))
def w_law_p11 : WS :=
  (wAsg (wOp fAdd (wVar 4) (wOp fIx (wLst (wCons (wC (.int 0)) (wCons (wC (.int 0)) (wCons (wC (.int 1)) wNil)))) (wCall 2 sp_q_take [] (wCons (wVar 1) (wCons (wC (.int 3)) wNil))))) (wSubL (wOp fIx (wVar 12) (wC (.int 1))) (wC (.int 0))))
def w_law_p12 : WS :=
  (wAsg (wOp fIx (wLst (wCons (wVar 11) (wCons (wCall 2 sp_q_take [] (wCons (wVar 1) (wCons (wB fMin (wCons (wVar 10) wNil)) wNil))) wNil))) (wCall 2 sp_q_take [] (wCons (wVar 1) (wCons (wC (.int 2)) wNil)))) (wSubL (wOp fIx (wVar 12) (wC (.int 1))) (wC (.int 2))))
def w_law_p13 : WS :=
  (wAsg (wLst (wCons (wOp fEq (wCall 2 sp_q_take [] (wCons (wVar 1) (wCons (wC (.int 2)) wNil))) (wC (.int 0))) (wCons (wOp fEq (wCall 2 sp_q_take [] (wCons (wVar 1) (wCons (wC (.int 2)) wNil))) (wC (.int 0))) wNil))) (wName 13))
def w_law_p14 : WS :=
  (wAsg (wLstM wNil) (wName 14))
def w_law_p15 : WS :=
  (wFor (wRng1 (wCons (wC (.int 2)) wNil)) (wName 15) (w_law_loop5))
def w_law_p16 : WS :=
  (wAsg (wAndV (wVar 6) (wOp fEq (wOp fIx (wVar 12) (wC (.int 0))) (wOp fIx (wVar 12) (wC (.int 1))))) (wName 16))
def w_law_p17 : WS :=
  (wFor (wRng1 (wCons (wC (.int 2)) wNil)) (wName 17) (w_law_loop6))
def w_law_p18 : WS :=
  (wAsg (wMeth "Account" "copied" 1 sp_Account_copied [] (wOp fIx (wVar 14) (wC (.int 0))) wNil) (wName 19))
def w_law_p19 : WS :=
  (wAsg (wLst (wCons (wOp (fEqOx ["Rule"] "Account" sp_Account_x_eq id) (wVar 19) (wOp fIx (wVar 14) (wC (.int 0)))) wNil)) (wName 18))
def w_law_p20 : WS :=
  (wAugO X0 "Account" spx_Account_isub 19 (wC (.int 1)))
def w_law_p21 : WS :=
  (wAsg (wOp fAdd (wVar 18) (wLst (wCons (wOp (fEqOx ["Rule"] "Account" sp_Account_x_eq id) (wVar 19) (wOp fIx (wVar 14) (wC (.int 0)))) (wCons (wProp "Account" sp_Account_left (wVar 19)) (wCons (wProp "Account" sp_Account_left (wOp fIx (wVar 14) (wC (.int 0)))) wNil))))) (wName 18))
def w_law_p22 : WS :=
  (wAsg (wOp fSub (wOp fSub (wVar 4) (wOp fIx (wOp fIx (wVar 12) (wC (.int 0))) (wC (.int 1)))) (wOp fIx (wOp fIx (wVar 12) (wC (.int 0))) (wC (.int 2)))) (wName 20))
def w_law_p23 : WS :=
  (wIfS (wNot (wTru (wCall 2 sp_q_alike [] (wCons (wVar 18) (wCons (wLst (wCons (wC (.bl true)) (wCons (wC (.bl false)) (wCons (wOp fSub (wVar 20) (wC (.int 1))) (wCons (wVar 20) wNil))))) wNil))))) (wRet (wC (.bl false))) wSkip)
def w_law_p24 : WS :=
  (wAsg (wOp fIx (wLst (wCons (wVar 3) (wCons (wC .non) (wCons (wC (.int 3)) (wCons (wC (.fn "at_least")) wNil))))) (wCall 2 sp_q_take [] (wCons (wVar 1) (wCons (wC (.int 4)) wNil)))) (wName 21))
def w_law_p25 : WS :=
  (wFor (wItT (wTup (wCons (wC (.int 0)) (wCons (wNeg (wC (.int 1))) (wCons (wC (.bl true)) (wCons (wC .non) (wCons (wC (.str "1")) (wCons (wTup (wCons (wC (.int 3)) wNil)) wNil)))))))) (wName 22) (w_law_loop7))
def w_law_p26 : WS :=
  (wIfS (wNot (wTru (wCall 2 sp_q_alike [] (wCons (wLst (wCons (wCall 2 sp_q_refused [] (wCons (wOp fPow (wC (.int 10)) (wC (.int 30))) (wCons (wOp fIx (wVar 8) (wC (.int 0))) wNil))) (wCons (wCall 2 sp_q_refused [] (wCons (wC (.int 1)) (wCons (wVar 21) wNil))) wNil))) (wCons (wLst (wCons (wC .non) (wCons (wC (.int 1)) wNil))) wNil))))) (wRet (wC (.bl false))) wSkip)
def w_law_loop1 : WS :=
  (wSeq (w_law_p3) (wSeq (w_law_p4) (wSeq (w_law_p5) (wSeq (w_law_p6) (wSeq (w_law_p7) (wSeq (w_law_p8) (wSeq (w_law_p9) (wSeq (w_law_p10) (wSeq (w_law_p11) (wSeq (w_law_p12) (wSeq (w_law_p13) (wSeq (w_law_p14) (wSeq (w_law_p15) (wSeq (w_law_p16) (wSeq (w_law_p17) (wSeq (w_law_p18) (wSeq (w_law_p19) (wSeq (w_law_p20) (wSeq (w_law_p21) (wSeq (w_law_p22) (wSeq (w_law_p23) (wSeq (w_law_p24) (wSeq (w_law_p25) (w_law_p26))))))))))))))))))))))))
def w_law_0 : WS :=
  (wAsg (wCall 1 sp_q_bag [] (wCons (wVar 0) wNil)) (wName 1))
def w_law_1 : WS :=
  (wFor (wRng1 (wCons (wC (.int 4)) wNil)) (wName 2) (w_law_loop1))
def w_law_2 : WS :=
  (wRet (wC (.bl true)))
def w_law : WS :=
  (wSeq (w_law_0) (wSeq (w_law_1) (w_law_2)))
def n_law : List Str := ["_law_script", "_law_bag_here", "_law_turn", "_law_tree", "_law_credit", "_law_trees", "_law_alike_here", "_law_a", "_law_rules", "_law_one", "_law_tops", "_law_kept", "_law_numbers", "_law_far", "_law_some", "_law_k", "_law_due", "_law_again", "_law_found", "_law_twin", "_law_left", "_law_odd", "_law_thing"]
def Hn (n : Nat) (ρ : Ro) (G : List (Nat × D)) : Prop := ρ.length = n ∧ ∀ e, e ∈ G → gt ρ e.1 = some e.2
theorem Hn.g {n : Nat} {ρ : Ro} {G : List (Nat × D)} {i : Nat} {d : D} (h : Hn n ρ G) (m : (i, d) ∈ G) : gt ρ i = some d := h.2 _ m
theorem Hn.set {n : Nat} {ρ : Ro} {G : List (Nat × D)} {i : Nat} {d : D} (h : Hn n ρ G) (hi : i < n) (fr : ∀ e, e ∈ G → e.1 ≠ i) : Hn n (st ρ i (some d)) ((i, d) :: G) := by
  refine ⟨by rw [st_length]; exact h.1, fun e he => ?_⟩
  rcases List.mem_cons.mp he with rfl | he
  · rw [gt_st, if_pos ⟨rfl, by rw [h.1]; exact hi⟩]
  · rw [gt_st, if_neg fun z => fr e he z.1.symm]
    exact h.2 e he
theorem Hn.wp {n : Nat} {ρ : Ro} {G : List (Nat × D)} {i : Nat} (h : Hn n ρ G) (fr : ∀ e, e ∈ G → e.1 ≠ i) : Hn n (Sq.wp ρ [i]) G := by
  simp only [Sq.wp]
  refine ⟨by rw [st_length]; exact h.1, fun e he => ?_⟩
  rw [gt_st, if_neg fun z => fr e he z.1.symm]
  exact h.2 e he
theorem Hn.sub {n : Nat} {ρ : Ro} {G G' : List (Nat × D)} (h : Hn n ρ G) (s : ∀ e, e ∈ G' → e ∈ G) : Hn n ρ G' := ⟨h.1, fun e he => h.2 e (s e he)⟩
theorem eq_three {S : Sto} {X Y : D} {a b c d e f : Int} {Q : D → Sto → Prop} (hX : view S X = .lst [.int a, .int b, .int c]) (hY : view S Y = .lst [.int d, .int e, .int f]) (q : Q (.bl (decide (a = d ∧ b = e ∧ c = f))) S) : fEq S X Y Q := by
  have p : ∀ a b c : Int, py (.lst [.int a, .int b, .int c]) = some (.list [.int a, .int b, .int c]) := fun _ _ _ => rfl
  have sh : ∀ a b c : Int, SeqAt.shaped (.list [.int a, .int b, .int c]) = true := fun a b c => rfl
  have ev : PyData.eqv (.list [.int a, .int b, .int c]) (.list [.int d, .int e, .int f]) = decide (a = d ∧ b = e ∧ c = f) := by
    simp only [PyData.eqv, PyData.eqvAll, Bool.and_true]
    by_cases h1 : a = d <;> by_cases h2 : b = e <;> by_cases h3 : c = f <;> simp [h1, h2, h3]
  simp only [fEq, fEqB, hX, hY, p, onS_some, sh, true_and, ev]
  exact q
theorem sm_l2 {a b : D} (ha : a = .non ∨ ∃ i : Int, a = .int i ∧ i.natAbs.log2 < 1000) (hb : b = .non ∨ ∃ i : Int, b = .int i ∧ i.natAbs.log2 < 1000) : Sm (.lst [a, b]) := by
  rcases ha with rfl | ⟨i, rfl, hi⟩ <;> rcases hb with rfl | ⟨j, rfl, hj⟩
  · exact ⟨by simp [sml, smls], by simp [wgt, wgts], by simp [dpt, dpts]⟩
  · exact ⟨by simp only [sml, smls, and_true, true_and]; omega, by simp only [wgt, wgts]; split <;> omega, by simp [dpt, dpts]⟩
  · exact ⟨by simp only [sml, smls, and_true]; omega, by simp only [wgt, wgts]; split <;> omega, by simp [dpt, dpts]⟩
  · exact ⟨by simp only [sml, smls, and_true]; omega, by simp only [wgt, wgts]; split <;> split <;> omega, by simp [dpt, dpts]⟩
theorem sm_l4 {a b : Bool} {i j : Int} (hi : i.natAbs.log2 < 1000) (hj : j.natAbs.log2 < 1000) : Sm (.lst [.bl a, .bl b, .int i, .int j]) :=
  ⟨by simp only [sml, smls, and_true, true_and]; omega, by simp only [wgt, wgts]; split <;> split <;> omega, by simp [dpt, dpts]⟩
theorem fIx_at {S : Sto} {ds : List D} {w : Int} {d : D} {Q : D → Sto → Prop} (h : atI ds w = some d) (q : Q d S) : fIx S (.lst ds) (.int w) Q := by
  unfold fIx
  simp only [view_l, view_i, h, onS_some]
  exact q
structure Dr (x y : Rt) (c kp : Int) (due : Bool) : Prop where
  okx : x.ok
  oky : y.ok
  nx : x.num ≤ 4
  ny : y.num ≤ 4
  lx : x.le 12
  ly : y.le 12
  dx : x.dep ≤ 4
  dy : y.dep ≤ 4
  c1 : 20 ≤ c
  c2 : c ≤ 28
  k0 : 0 ≤ kp
  kx : kp < thr x
  ky : kp < thr y
  al : due = true ↔ ∀ a : Int, 0 ≤ a → given x a = given y a
theorem Dr.tx {x y : Rt} {c kp : Int} {due : Bool} (h : Dr x y c kp due) : thr x ≤ 12 := thr_le (by decide) x h.okx h.lx
theorem Dr.ty {x y : Rt} {c kp : Int} {due : Bool} (h : Dr x y c kp due) : thr y ≤ 12 := thr_le (by decide) y h.oky h.ly
theorem Dr.ax {x y : Rt} {c kp : Int} {due : Bool} (h : Dr x y c kp due) {c' u w : Int} (h1 : 20 ≤ c') (h2 : c' ≤ 30) (u0 : 0 ≤ u) (u3 : u ≤ 4) (w0 : 0 ≤ w) (wt : w < thr x) : AOk c' x u w :=
  ⟨h.okx, by have := h.nx; omega, x.le_mono (B := 10 ^ 34) (by decide) h.lx, by omega, by omega, u0, w0, wt, by have := h.tx; omega⟩
theorem Dr.ay {x y : Rt} {c kp : Int} {due : Bool} (h : Dr x y c kp due) {c' u w : Int} (h1 : 20 ≤ c') (h2 : c' ≤ 30) (u0 : 0 ≤ u) (u3 : u ≤ 4) (w0 : 0 ≤ w) (wt : w < thr y) : AOk c' y u w :=
  ⟨h.oky, by have := h.ny; omega, y.le_mono (B := 10 ^ 34) (by decide) h.ly, by omega, by omega, u0, w0, wt, by have := h.ty; omega⟩
theorem rules_comp {ρ : Ro} {T : Sto} {x y : Rt} {Q : D → Sto → Prop} (hi : 9 < ρ.length) (g5 : gt ρ 5 = some (.lst [x.d, y.d])) (okx : x.ok) (oky : y.ok) (nx : x.num ≤ 6) (ny : y.num ≤ 6) (lo : lowS T) (q : Q (.lst [rule x, rule y]) T) :
    wLc (wItL (wVar 5)) (wName 9) wYes (w_law_elt3) [9] ρ T Q := by
  simp only [wLc, wItL, wVar, g5, onS_some, res_l]
  have g9 : ∀ r : Rt, gt (st (wp ρ [9]) 9 (some r.d)) 9 = some r.d := fun r => by rw [gt_st, wp_length, if_pos ⟨rfl, hi⟩]
  refine comp_filter (as := [x, y]) (fun r : Rt => r.d) (fun r : Rt => rule r) (fun _ => true) (by simp only [List.length_cons, List.length_nil]; decide) (fun r _ Q' hq => ?_) (fun r hr Q' hq => ?_) ?_
  · simp only [wYes]
    exact hq
  · have ok : r.ok ∧ r.num ≤ 6 := by
      simp only [List.mem_cons, List.not_mem_nil, or_false] at hr
      rcases hr with rfl | rfl
      · exact ⟨okx, nx⟩
      · exact ⟨oky, ny⟩
    unfold w_law_elt3
    simp only [wMakeF, wCons, wNil, wVar, g9, onS_some, Rt.res, List.append_nil, List.length_cons, List.length_nil, Nat.reduceAdd, true_and]
    exact use_init (Q := fun d S => Q' d S) rfl ok.1 ok.2 lo hq
  · simpa using q
theorem tops_comp {ρ : Ro} {T : Sto} {x y : Rt} {Q : D → Sto → Prop} (hi : 9 < ρ.length) (g5 : gt ρ 5 = some (.lst [x.d, y.d])) (nx : x.dep ≤ 6) (ny : y.dep ≤ 6) (q : Q (.lst [.int (thr x), .int (thr y)]) T) :
    wLc (wItL (wVar 5)) (wName 9) wYes (w_law_elt4) [9] ρ T Q := by
  simp only [wLc, wItL, wVar, g5, onS_some, res_l]
  have g9 : ∀ r : Rt, gt (st (wp ρ [9]) 9 (some r.d)) 9 = some r.d := fun r => by rw [gt_st, wp_length, if_pos ⟨rfl, hi⟩]
  refine comp_filter (as := [x, y]) (fun r : Rt => r.d) (fun r : Rt => .int (thr r)) (fun _ => true) (by simp only [List.length_cons, List.length_nil]; decide) (fun r _ Q' hq => ?_) (fun r hr Q' hq => ?_) ?_
  · simp only [wYes]
    exact hq
  · have ok : r.dep ≤ 6 := by
      simp only [List.mem_cons, List.not_mem_nil, or_false] at hr
      rcases hr with rfl | rfl
      · exact nx
      · exact ny
    unfold w_law_elt4
    simp only [wCall, wCons, wNil, wVar, g9, onS_some, Rt.res, List.append_nil, List.length_cons, List.length_nil, Nat.reduceAdd, true_and]
    exact ⟨r, rfl, ok, hq⟩
  · simpa using q
theorem min_two {S : Sto} {i j : Int} {Q : D → Sto → Prop} (q : ∀ m, (m = i ∨ m = j) → m ≤ i → m ≤ j → Q (.int m) S) : fMin [.lst [.int i, .int j]] S Q := by
  unfold fMin fMinL
  have e : intsD [.int i, .int j] = some [i, j] := rfl
  simp only [view_l, e, onS_some]
  refine ⟨by simp, fun m hm h => ?_⟩
  simp only [List.mem_cons, List.not_mem_nil, or_false] at hm
  exact q m hm (h i (by simp)) (h j (by simp))
def cA (x y : Rt) (c kp : Int) (due : Bool) : List (Nat × D) := [(11, .int kp), (10, .lst [.int (thr x), .int (thr y)]), (8, .lst [rule x, rule y]), (6, .bl due), (5, .lst [x.d, y.d]), (4, .int c), (3, x.d), (1, .h 0)]
theorem law_draw {ρ : Ro} {W : WS} {κ : WK} {T : Sto} (h : Hn 23 ρ [(1, .h 0)]) (hb : T[0]? = some .bag) (lo : LowA T)
    (q : ∀ (x y : Rt) (c kp : Int) (due : Bool) (ρ' : Ro), Dr x y c kp due → Hn 23 ρ' (cA x y c kp due) → W κ ρ' T) :
    (wSeq (w_law_p3) (wSeq (w_law_p4) (wSeq (w_law_p5) (wSeq (w_law_p6) (wSeq (w_law_p7) (wSeq (w_law_p8) W)))))) κ ρ T := by
  have r0 := res_hb hb
  have x1 := h.g (i := 1) (d := .h 0) (by simp)
  rw [wSeq]
  unfold w_law_p3
  simp only [wPar, wCons, wNil, wOp, wC, wCall, wVar, x1, onS_some, r0, List.append_nil, List.length_cons, List.length_nil, Nat.reduceAdd, true_and]
  refine ⟨0, 12, 1, 1, rfl, hb, by decide, by decide, by decide, by decide, by decide, by decide, fun x okx nx dx lx => ?_⟩
  simp only [r0]
  refine ⟨0, 9, rfl, hb, by decide, by decide, fun v v0 v1 => ?_⟩
  simp only [fAdd, view_i]
  have nx2 : x.num ≤ 2 := nx
  have lx12 : x.le 12 := lx
  have h4 := (h.set (i := 3) (d := x.d) (by decide) (by simp)).set (i := 4) (d := .int (20 + v)) (by decide) (by simp)
  generalize st (st ρ 3 (some x.d)) 4 (some (D.int (20 + v))) = ρ4 at h4 ⊢
  have y1 := h4.g (i := 1) (d := .h 0) (by simp)
  have y3 := h4.g (i := 3) (d := x.d) (by simp)
  rw [wSeq]
  unfold w_law_p4
  simp only [wAsg, wLst, wTup, wCons, wNil, wOp, wC, wCall, wVar, y1, y3, onS_some, r0, Rt.res, List.append_nil, List.length_cons, List.length_nil, Nat.reduceAdd, lm3, true_and]
  refine ⟨0, 12, 1, 1, rfl, hb, by decide, by decide, by decide, by decide, by decide, by decide, fun z okz nz dz lz => ?_⟩
  have nz2 : z.num ≤ 2 := nz
  have lz12 : z.le 12 := lz
  simp only [lm3, r0, true_and]
  refine ⟨0, 3, rfl, hb, by decide, by decide, fun w w0 w1 => ?_⟩
  obtain ⟨y, hy, oky, ny, dy, ly⟩ : ∃ y : Rt, atI [x.d, (Rt.or x x).d, z.d] w = some y.d ∧ y.ok ∧ y.num ≤ 4 ∧ y.dep ≤ 4 ∧ y.le 12 := by
    have : w = 0 ∨ w = 1 ∨ w = 2 := by omega
    rcases this with rfl | rfl | rfl
    · exact ⟨x, rfl, okx, by omega, by omega, lx12⟩
    · exact ⟨.or x x, rfl, ⟨okx, okx⟩, by show x.num + x.num ≤ 4; omega, by show max x.dep x.dep + 1 ≤ 4; omega, ⟨lx12, lx12⟩⟩
    · exact ⟨z, rfl, okz, by omega, by omega, lz12⟩
  refine fIx_at (S := T) (ds := [x.d, (Rt.or x x).d, z.d]) hy ?_
  simp only [lm2, true_and, wName]
  have lx21 := x.le_mono (B := 21) (by decide) lx12
  have ly21 := y.le_mono (B := 21) (by decide) ly
  have h5 := h4.set (i := 5) (d := .lst [x.d, y.d]) (by decide) (by simp)
  generalize st ρ4 5 (some (D.lst [x.d, y.d])) = ρ5 at h5 ⊢
  rw [wSeq]
  unfold w_law_p5
  have hw := h5.wp (i := 7) (by simp)
  simp only [wAsg, wOp, wLc, wRng1, wCons, wNil, wC]
  refine ⟨by decide, by decide, ?_⟩
  have er : rngD 0 (Int.toNat 90) = (List.range 90).map fun (n : Nat) => D.int (n : Int) := by
    unfold rngD
    refine List.map_congr_left fun n _ => ?_
    rw [Int.zero_add]
  rw [er]
  refine comp_filter (fun (n : Nat) => D.int (n : Int)) (fun (n : Nat) => D.int (n : Int)) (fun (n : Nat) => decide (given x (n : Int) ≠ given y (n : Int))) (by rw [List.length_range]; decide) (fun n _ Q' hq => ?_) (fun n _ Q' hq => ?_) ?_
  · have hx := hw.set (i := 7) (d := .int (n : Int)) (by decide) (by simp)
    have z5 := hx.g (i := 5) (d := .lst [x.d, y.d]) (by simp)
    have z7 := hx.g (i := 7) (d := .int (n : Int)) (by simp)
    simp only [wTest, wOp, wCall, wCons, wNil, wVar, wC, z5, z7, onS_some, res_l, fIx, view_l, at0, at1, gx0, gx1, List.length_cons, List.length_nil, Nat.reduceAdd, Rt.res, res_i, List.append_nil, true_and]
    refine ⟨x, _, rfl, okx, by omega, ?_⟩
    refine ⟨y, _, rfl, oky, by omega, ?_⟩
    simp only [fNe, fEqB, view_i, tru, view_b, onS_some]
    simpa using hq
  · have hx := hw.set (i := 7) (d := .int (n : Int)) (by decide) (by simp)
    unfold w_law_elt2
    simp only [wVar, hx.g (i := 7) (d := .int (n : Int)) (by simp), onS_some, res_i]
    exact hq
  rw [List.nil_append, show (List.map (fun (n : Nat) => D.int (n : Int)) ((List.range 90).filter fun (n : Nat) => decide (given x (n : Int) ≠ given y (n : Int)))) = (((List.range 90).filter fun (n : Nat) => decide (given x (n : Int) ≠ given y (n : Int))).map fun (n : Nat) => (n : Int)).map D.int by rw [List.map_map]; rfl]
  simp only [wLst, wNil, List.length_nil, lm0, true_and]
  have bnd : ∀ n, n ∈ (((List.range 90).filter fun (n : Nat) => decide (given x (n : Int) ≠ given y (n : Int))).map fun (n : Nat) => (n : Int)) → n.natAbs.log2 < 1920 := fun n hn => by
    obtain ⟨j, hj, rfl⟩ := List.mem_map.mp hn
    have := List.mem_range.mp (List.mem_filter.mp hj).1
    exact Nat.lt_of_lt_of_le (log2_small (sm (by omega) (by omega)) (by decide)) (by decide : 400 ≤ 1920)
  have hd : ((((List.range 90).filter fun (n : Nat) => decide (given x (n : Int) ≠ given y (n : Int))).map fun (n : Nat) => (n : Int)) = []) ↔ ∀ a : Int, 0 ≤ a → given x a = given y a := by
    rw [List.map_eq_nil_iff]
    exact due_iff2 okx oky lx21 ly21
  generalize (((List.range 90).filter fun (n : Nat) => decide (given x (n : Int) ≠ given y (n : Int))).map fun (n : Nat) => (n : Int)) = ns at bnd hd ⊢
  refine fEq_nil bnd ?_
  simp only [wName]
  have hd' : decide (ns = []) = true ↔ ∀ a : Int, 0 ≤ a → given x a = given y a := by rw [decide_eq_true_eq]; exact hd
  generalize decide (ns = []) = due at hd' ⊢
  have h6 := h5.set (i := 6) (d := .bl due) (by decide) (by simp)
  generalize st ρ5 6 (some (D.bl due)) = ρ6 at h6 ⊢
  rw [wSeq]
  unfold w_law_p6
  rw [wAsg]
  refine rules_comp (x := x) (y := y) (by have := h6.1; omega) (h6.g (by simp)) okx oky (by omega) (by omega) lo.low ?_
  simp only [wName]
  have h8 := h6.set (i := 8) (d := .lst [rule x, rule y]) (by decide) (by simp)
  generalize st ρ6 8 (some (D.lst [rule x, rule y])) = ρ8 at h8 ⊢
  rw [wSeq]
  unfold w_law_p7
  rw [wAsg]
  refine tops_comp (x := x) (y := y) (by have := h8.1; omega) (h8.g (by simp)) (by omega) (by omega) ?_
  simp only [wName]
  have h10 := h8.set (i := 10) (d := .lst [.int (thr x), .int (thr y)]) (by decide) (by simp)
  generalize st ρ8 10 (some (D.lst [.int (thr x), .int (thr y)])) = ρ10 at h10 ⊢
  rw [wSeq]
  unfold w_law_p8
  simp only [wAsg, wCall, wB, wCons, wNil, wVar, h10.g (i := 1) (d := .h 0) (by simp), h10.g (i := 10) (d := .lst [.int (thr x), .int (thr y)]) (by simp), onS_some, r0, res_l]
  refine min_two fun m hm m1 m2 => ?_
  have px := thr_pos x okx
  have py := thr_pos y oky
  have mx := thr_le (B := 12) (by decide) x okx lx12
  simp only [r0, List.append_nil, List.length_cons, List.length_nil, Nat.reduceAdd, true_and]
  refine ⟨0, m, rfl, hb, by rcases hm with rfl | rfl <;> omega, by omega, fun kp k0 k1 => ?_⟩
  simp only [wName]
  have h11 := h10.set (i := 11) (d := .int kp) (by decide) (by simp)
  exact q x y (20 + v) kp due _ ⟨okx, oky, by omega, ny, lx12, ly, by omega, dy, by omega, by omega, k0, by omega, by omega, hd'⟩ (h11.sub fun e he => by simpa [cA] using he)
end Sq
set_option maxHeartbeats 4000000
namespace Sq
open PySem L2
theorem ap_get (T l : Sto) (k : Nat) : (T ++ l)[T.length + k]? = l[k]? := by rw [List.getElem?_append_right (by omega)]; simp
theorem ap_set (T l : Sto) (k : Nat) (m : M) : (T ++ l).set (T.length + k) m = T ++ l.set k m := by rw [List.set_append_right _ _ (by omega)]; simp
theorem ap_bag {T : Sto} (l : Sto) (hb : T[0]? = some .bag) : (T ++ l)[0]? = some .bag := by
  rw [List.getElem?_append_left (List.getElem?_eq_some_iff.mp hb).1]
  exact hb
theorem LowA.app {T l : Sto} (h : LowA T) (hl : ∀ m, m ∈ l → ∀ j, T.length + l.length ≤ j → lowM j m) : LowA (T ++ l) := fun k m e j hj => by
  rw [List.length_append] at hj
  by_cases z : k < T.length
  · rw [List.getElem?_append_left z] at e
    exact h k m e j (by omega)
  · rw [List.getElem?_append_right (by omega)] at e
    exact hl m (List.mem_of_getElem? e) j hj
theorem sub_num {ρ : Ro} {S : Sto} {n j : Nat} {a d : D} {ds : List D} {k : Int} {Q : Ro → Sto → Prop} (g12 : gt ρ 12 = some (.lst [a, .h n])) (hN : S[n]? = some (.lst ds)) (hj : ixN ds.length k = some j) (q : Q ρ (S.set n (.lst (ds.set j d)))) : wSubL (wOp fIx (wVar 12) (wC (.int 1))) (wC (.int k)) d ρ S Q := by
  simp only [wSubL, wOp, wVar, g12, onS_some, res_l, wC, fIx, view_l, at1, gx1, hN, hj]
  exact q
structure Nm (x y : Rt) (c kp u0 c' u' w' : Int) : Prop where
  a0 : 0 ≤ u0
  a3 : u0 ≤ 3
  c1 : 20 ≤ c'
  c2 : c' ≤ 30
  u0' : 0 ≤ u'
  u3' : u' ≤ 3
  w0 : 0 ≤ w'
  wx : w' < thr x
  wy : w' < thr y
def cB (n : Nat) (x y : Rt) (c kp : Int) (due : Bool) (u0 : Int) (f1 f2 : Bool) : List (Nat × D) := [(14, .h (n + 1)), (13, .lst [.bl f1, .bl f2]), (12, .lst [.lst [.int c, .int u0, .int kp], .h n]), (11, .int kp), (10, .lst [.int (thr x), .int (thr y)]), (8, .lst [rule x, rule y]), (6, .bl due), (5, .lst [x.d, y.d]), (4, .int c), (3, x.d), (1, .h 0)]
theorem law_nums {ρ : Ro} {W : WS} {κ : WK} {T : Sto} {x y : Rt} {c kp : Int} {due : Bool} (h : Hn 23 ρ (cA x y c kp due)) (hb : T[0]? = some .bag) (dr : Dr x y c kp due)
    (q : ∀ (u0 c1 u1 w1 : Int) (f1 f2 : Bool) (ρ' : Ro), Nm x y c kp u0 c1 u1 w1 → Hn 23 ρ' (cB T.length x y c kp due u0 f1 f2) → W κ ρ' (T ++ [.lst [.int c1, .int u1, .int w1], .lst []])) :
    (wSeq (w_law_p9) (wSeq (w_law_p10) (wSeq (w_law_p11) (wSeq (w_law_p12) (wSeq (w_law_p13) (wSeq (w_law_p14) W)))))) κ ρ T := by
  have r0 := res_hb hb
  unfold cA at h
  have x1 := h.g (i := 1) (d := .h 0) (by simp)
  have x4 := h.g (i := 4) (d := .int c) (by simp)
  have x11 := h.g (i := 11) (d := .int kp) (by simp)
  rw [wSeq]
  unfold w_law_p9
  simp only [wAsg, wLst, wLstM, wCons, wNil, wC, wCall, wVar, x1, x4, x11, onS_some, r0, res_i, List.append_nil, List.length_cons, List.length_nil, Nat.reduceAdd, true_and]
  refine ⟨0, 4, rfl, hb, by decide, by decide, fun u0 a0 a3 => ?_⟩
  simp only [lm3, lm2, res_i, true_and, wName]
  have h12 := h.set (i := 12) (d := .lst [.lst [.int c, .int u0, .int kp], .h T.length]) (by decide) (by simp)
  generalize st ρ 12 (some (D.lst [.lst [.int c, .int u0, .int kp], .h T.length])) = ρ1 at h12 ⊢
  have y1 := h12.g (i := 1) (d := .h 0) (by simp)
  have y4 := h12.g (i := 4) (d := .int c) (by simp)
  have y10 := h12.g (i := 10) (d := .lst [.int (thr x), .int (thr y)]) (by simp)
  have y11 := h12.g (i := 11) (d := .int kp) (by simp)
  have y12 := h12.g (i := 12) (d := .lst [.lst [.int c, .int u0, .int kp], .h T.length]) (by simp)
  have hb1 := fun l => ap_bag l hb
  have h0 : ∀ l : Sto, res (T ++ l) (.h 0) = .h 0 := fun l => res_hb (hb1 l)
  have hN : ∀ (m : M) (l : Sto), (T ++ m :: l)[T.length]? = some m := fun m l => ap_get T (m :: l) 0
  have hS : ∀ (m m' : M) (l : Sto), (T ++ m :: l).set T.length m' = T ++ m' :: l := fun m m' l => ap_set T (m :: l) 0 m'
  have t2 := fun (z : Int) (h : 0 ≤ z) (h2 : z < 2) => (show z = 0 ∨ z = 1 by omega)
  rw [wSeq]
  unfold w_law_p10
  simp only [wAsg, wOp, wLst, wCons, wNil, wC, wCall, wVar, y1, y12, onS_some, h0, res_i, res_l, fIx, view_l, at0, at1, gx0, gx1, List.append_nil, List.length_cons, List.length_nil, Nat.reduceAdd, true_and]
  refine ⟨0, 4, rfl, hb1 _, by decide, by decide, fun v v0 v3 => ?_⟩
  simp only [lm2, h0, true_and]
  refine ⟨0, 2, rfl, hb1 _, by decide, by decide, fun p p0 p1 => ?_⟩
  obtain ⟨u1, e1, b0, b3⟩ : ∃ u1 : Int, atI [D.int u0, D.int v] p = some (.int u1) ∧ 0 ≤ u1 ∧ u1 ≤ 3 := by
    rcases t2 p p0 p1 with rfl | rfl
    · exact ⟨u0, rfl, a0, by omega⟩
    · exact ⟨v, rfl, v0, by omega⟩
  simp only [e1, onS_some]
  refine sub_num y12 (hN _ _) (j := 1) rfl ?_
  rw [hS]
  simp only [List.set_cons_succ, List.set_cons_zero]
  rw [wSeq]
  unfold w_law_p11
  simp only [wAsg, wOp, wLst, wCons, wNil, wC, wCall, wVar, y1, y4, onS_some, h0, res_i, res_l, List.append_nil, List.length_cons, List.length_nil, Nat.reduceAdd, lm3, true_and]
  refine ⟨0, 3, rfl, hb1 _, by decide, by decide, fun p p0 p1 => ?_⟩
  obtain ⟨e, e1, d0, d1⟩ : ∃ e : Int, atI [D.int 0, D.int 0, D.int 1] p = some (.int e) ∧ 0 ≤ e ∧ e ≤ 1 := by
    have : p = 0 ∨ p = 1 ∨ p = 2 := by omega
    rcases this with rfl | rfl | rfl
    · exact ⟨0, rfl, by decide, by decide⟩
    · exact ⟨0, rfl, by decide, by decide⟩
    · exact ⟨1, rfl, by decide, by decide⟩
  refine fIx_at e1 ?_
  simp only [fAdd, view_i]
  refine sub_num y12 (hN _ _) (j := 0) rfl ?_
  rw [hS]
  simp only [List.set_cons_succ, List.set_cons_zero]
  rw [wSeq]
  unfold w_law_p12
  simp only [wAsg, wOp, wLst, wB, wCons, wNil, wC, wCall, wVar, y1, y10, y11, onS_some, h0, res_i, res_l, List.append_nil, List.length_cons, List.length_nil, Nat.reduceAdd, true_and]
  refine min_two fun m hm m1 m2 => ?_
  have px := thr_pos x dr.okx
  have py := thr_pos y dr.oky
  have mx := dr.tx
  have k0 := dr.k0
  have kx := dr.kx
  have ky := dr.ky
  have c1 := dr.c1
  have c2 := dr.c2
  refine ⟨0, m, rfl, hb1 _, by rcases hm with rfl | rfl <;> omega, by omega, fun v v0 v1 => ?_⟩
  simp only [lm2, h0, true_and]
  refine ⟨0, 2, rfl, hb1 _, by decide, by decide, fun p p0 p1 => ?_⟩
  obtain ⟨w1, e1, g0, gx, gy⟩ : ∃ w1 : Int, atI [D.int kp, D.int v] p = some (.int w1) ∧ 0 ≤ w1 ∧ w1 < thr x ∧ w1 < thr y := by
    rcases t2 p p0 p1 with rfl | rfl
    · exact ⟨kp, rfl, k0, kx, ky⟩
    · exact ⟨v, rfl, v0, by omega, by omega⟩
  refine fIx_at e1 ?_
  refine sub_num y12 (hN _ _) (j := 2) rfl ?_
  rw [hS]
  simp only [List.set_cons_succ, List.set_cons_zero]
  rw [wSeq]
  unfold w_law_p13
  simp only [wAsg, wOp, wLst, wCons, wNil, wC, wCall, wVar, y1, onS_some, h0, List.append_nil, List.length_cons, List.length_nil, Nat.reduceAdd, true_and]
  refine ⟨0, 2, rfl, hb1 _, by decide, by decide, fun p p0 p1 => ?_⟩
  simp only [fEq, fEqB, view_i, h0]
  refine ⟨0, 2, rfl, hb1 _, by decide, by decide, fun p' p0' p1' => ?_⟩
  simp only [fEq, fEqB, view_i, lm2, true_and, wName]
  generalize decide (p = 0) = f1
  generalize decide (p' = 0) = f2
  rw [wSeq]
  unfold w_law_p14
  have ln : (T ++ [M.lst [D.int (c + e), D.int u1, D.int w1]]).length = T.length + 1 := by simp
  simp only [wAsg, wLstM, wNil, List.length_nil, lm0, true_and, wName, ln, List.append_assoc, List.cons_append, List.nil_append]
  have h14 := (h12.set (i := 13) (d := .lst [.bl f1, .bl f2]) (by decide) (by simp)).set (i := 14) (d := .h (T.length + 1)) (by decide) (by simp)
  exact q u0 (c + e) u1 w1 f1 f2 _ ⟨a0, by omega, by omega, by omega, b0, b3, g0, gx, gy⟩ h14
end Sq
set_option maxHeartbeats 1000000
namespace Sq
open PySem L2
theorem eqx {S : Sto} {a b : Nat} {c u w c' u' w' : Int} {r r' : Rt} {g : Bool → Bool} {Q : D → Sto → Prop} (ha : S[a]? = some (acc c r u w)) (hb : S[b]? = some (acc c' r' u' w')) (A : AOk c r u w) (A' : AOk c' r' u' w') (ls : lowS S)
    (q : ∀ bb : Bool, (bb = true ↔ (∀ a : Int, 0 ≤ a → given r a = given r' a) ∧ c = c' ∧ u = u' ∧ w = w') → Q (.bl (g bb)) S) : fEqOx ["Rule"] "Account" sp_Account_x_eq g S (.h a) (.h b) Q :=
  ⟨by rw [atts_acc ha]; rfl, .inr (.inl (by rw [atts_acc hb]; rfl)), a, c, u, w, r, _, rfl, ha, A, ls, .inl ⟨b, c', u', w', r', rfl, hb, A', fun bb h => ⟨bb, rfl, q bb h⟩⟩⟩
theorem eqx_rule {S : Sto} {a : Nat} {c u w : Int} {r r' : Rt} {g : Bool → Bool} {Q : D → Sto → Prop} (ha : S[a]? = some (acc c r u w)) (A : AOk c r u w) (ls : lowS S) (q : Q (.bl (g false)) S) : fEqOx ["Rule"] "Account" sp_Account_x_eq g S (.h a) (rule r') Q :=
  ⟨by rw [atts_acc ha]; rfl, .inr (.inr ⟨"Rule", by simp, rfl⟩), a, c, u, w, r, _, rfl, ha, A, ls, .inr ⟨.inl ⟨r', rfl⟩, false, rfl, q⟩⟩
theorem eqx_int {S : Sto} {a : Nat} {c u w i : Int} {r : Rt} {g : Bool → Bool} {Q : D → Sto → Prop} (ha : S[a]? = some (acc c r u w)) (A : AOk c r u w) (ls : lowS S) (q : Q (.bl (g false)) S) : fEqOx ["Rule"] "Account" sp_Account_x_eq g S (.h a) (.int i) Q :=
  ⟨by rw [atts_acc ha]; rfl, .inl rfl, a, c, u, w, r, _, rfl, ha, A, ls, .inr ⟨.inr rfl, false, rfl, q⟩⟩
def s4 (T : Sto) (x y : Rt) (c kp u0 c1 u1 w1 : Int) : List M := [.lst [.int c1, .int u1, .int w1], .lst [.h (T.length + 2), .h (T.length + 3)], acc c x u0 kp, acc c1 y u1 w1]
theorem low4 {T : Sto} {x y : Rt} {c kp u0 c1 u1 w1 : Int} (h : LowA T) : LowA (T ++ s4 T x y c kp u0 c1 u1 w1) := h.app fun m hm j hj => by
  simp only [s4, List.length_cons, List.length_nil] at hj
  simp only [s4, List.mem_cons, List.not_mem_nil, or_false] at hm
  rcases hm with rfl | rfl | rfl | rfl
  · simp [lowM, lows, low]
  · simp only [lowM, lows, low, and_true]; omega
  · exact low_acc _ _ _ _ _
  · exact low_acc _ _ _ _ _
theorem law_some {ρ : Ro} {W : WS} {κ : WK} {T : Sto} {x y : Rt} {c kp u0 c1 u1 w1 : Int} {due f1 f2 : Bool} (h : Hn 23 ρ (cB T.length x y c kp due u0 f1 f2)) (lo : LowA T) (dr : Dr x y c kp due) (nm : Nm x y c kp u0 c1 u1 w1)
    (q : ∀ ρ' : Ro, Hn 23 ρ' (cB T.length x y c kp due u0 f1 f2) → W κ ρ' (T ++ s4 T x y c kp u0 c1 u1 w1)) :
    (wSeq (w_law_p15) W) κ ρ (T ++ [.lst [.int c1, .int u1, .int w1], .lst []]) := by
  have tx := dr.tx
  have ty := dr.ty
  have k0 := dr.k0
  have kx := dr.kx
  have dc1 := dr.c1
  have dc2 := dr.c2
  have a0 := nm.a0
  have a3 := nm.a3
  have b0 := nm.u0'
  have b3 := nm.u3'
  have e1 := nm.c1
  have e2 := nm.c2
  have g0 := nm.w0
  have gy := nm.wy
  have Ax := dr.ax (c' := c) (u := u0) (w := kp) (by omega) (by omega) (by omega) (by omega) (by omega) (by omega)
  have Ay := dr.ay (c' := c1) (u := u1) (w := w1) (by omega) (by omega) (by omega) (by omega) (by omega) (by omega)
  unfold cB at h
  rw [wSeq]
  unfold w_law_p15 wFor
  simp only [wRng1, wCons, wNil, wC]
  refine ⟨by decide, by decide, ?_⟩
  rw [show rngD 0 (Int.toNat 2) = [D.int 0, D.int 1] from rfl]
  unfold loopD
  simp only [wName]
  have hx := h.set (i := 15) (d := .int 0) (by decide) (by simp)
  generalize st ρ 15 (some (D.int 0)) = ρ1 at hx ⊢
  have y8 := hx.g (i := 8) (d := .lst [rule x, rule y]) (by simp)
  have y12 := hx.g (i := 12) (d := .lst [.lst [.int c, .int u0, .int kp], .h T.length]) (by simp)
  have y13 := hx.g (i := 13) (d := .lst [.bl f1, .bl f2]) (by simp)
  have y14 := hx.g (i := 14) (d := .h (T.length + 1)) (by simp)
  have y15 := hx.g (i := 15) (d := .int 0) (by simp)
  have g1 : ∀ (m m' : M) (l : Sto), (T ++ m' :: m :: l)[T.length + 1]? = some m := fun m m' l => ap_get T (m' :: m :: l) 1
  have gn : ∀ (m : M) (l : Sto), (T ++ m :: l)[T.length]? = some m := fun m l => ap_get T (m :: l) 0
  have s1 : ∀ (m m' a : M) (l : Sto), (T ++ a :: m :: l).set (T.length + 1) m' = T ++ a :: m' :: l := fun m m' a l => ap_set T (a :: m :: l) 1 m'
  have rl : ∀ (ds : List D) (m : M) (l : Sto), res (T ++ m :: .lst ds :: l) (.h (T.length + 1)) = .h (T.length + 1) := fun ds m l => res_hl (g1 _ _ _)
  have L1 : (0 : Nat) < LIM := by decide
  have L2 : (1 : Nat) < LIM := by decide
  have l2 : (T ++ [M.lst [.int c1, .int u1, .int w1], .lst []]).length = T.length + 2 := by simp
  have low2 : LowA (T ++ [M.lst [.int c1, .int u1, .int w1], .lst []]) := lo.app fun m hm j hj => by
    simp only [List.mem_cons, List.not_mem_nil, or_false] at hm
    rcases hm with rfl | rfl <;> simp [lowM, lows, low]
  unfold w_law_loop5
  simp only [wDrop, wApp, wVar, y14, onS_some, rl, g1, true_and, wCall, wCons, wNil, wOp, y12, y13, y8, y15, wC, res_l, res_i, fIx, view_l, at0, gx0, at1, gx1, at2, gx2, List.append_nil, List.length_cons, List.length_nil, Nat.reduceAdd]
  refine ⟨c, x, u0, kp, f1, rfl, Ax, by omega, low2, ?_⟩
  rw [l2, List.append_assoc]
  simp only [List.cons_append, List.nil_append, g1, List.length_nil, L1, true_and, s1]
  have hx' : Hn 23 ρ1 (cB T.length x y c kp due u0 f1 f2) := hx.sub fun e he => List.mem_cons_of_mem _ he
  unfold cB at hx'
  unfold loopD
  simp only [wName]
  have hz := hx'.set (i := 15) (d := .int 1) (by decide) (by simp)
  generalize st ρ1 15 (some (D.int 1)) = ρ2 at hz ⊢
  have z8 := hz.g (i := 8) (d := .lst [rule x, rule y]) (by simp)
  have z12 := hz.g (i := 12) (d := .lst [.lst [.int c, .int u0, .int kp], .h T.length]) (by simp)
  have z13 := hz.g (i := 13) (d := .lst [.bl f1, .bl f2]) (by simp)
  have z14 := hz.g (i := 14) (d := .h (T.length + 1)) (by simp)
  have z15 := hz.g (i := 15) (d := .int 1) (by simp)
  have vn : ∀ (ds : List D) (l : Sto), view (T ++ .lst ds :: l) (.h T.length) = .lst ds := fun ds l => by unfold view; simp only [gn]
  have l3 : (T ++ [M.lst [.int c1, .int u1, .int w1], .lst [.h (T.length + 2)], acc c x u0 kp]).length = T.length + 3 := by simp
  have low3 : LowA (T ++ [M.lst [.int c1, .int u1, .int w1], .lst [.h (T.length + 2)], acc c x u0 kp]) := lo.app fun m hm j hj => by
    simp only [List.length_cons, List.length_nil] at hj
    simp only [List.mem_cons, List.not_mem_nil, or_false] at hm
    rcases hm with rfl | rfl | rfl
    · simp [lowM, lows, low]
    · simp only [lowM, lows, low, and_true]; omega
    · exact low_acc _ _ _ _ _
  simp only [wDrop, wApp, wVar, z14, onS_some, rl, g1, true_and, wCall, wCons, wNil, wOp, z12, z13, z8, z15, wC, res_l, res_i, fIx, view_l, vn, at0, gx0, at1, gx1, at2, gx2, List.append_nil, List.length_cons, List.length_nil, Nat.reduceAdd]
  refine ⟨c1, y, u1, w1, f2, rfl, Ay, by omega, low3, ?_⟩
  rw [l3, List.append_assoc]
  simp only [List.cons_append, List.nil_append, g1, List.length_cons, List.length_nil, Nat.reduceAdd, L2, true_and, s1]
  unfold loopD
  exact q ρ2 (hz.sub fun e he => List.mem_cons_of_mem _ he)
end Sq
set_option maxHeartbeats 1000000
namespace Sq
open PySem L2
def cD (n : Nat) (x y : Rt) (c kp : Int) (due : Bool) (u0 : Int) (f1 f2 D2 : Bool) : List (Nat × D) := (16, .bl D2) :: cB n x y c kp due u0 f1 f2
section
variable {T : Sto} {x y : Rt} {c kp u0 c1 u1 w1 : Int} {due f1 f2 D2 : Bool}
theorem lm5' : (5 : Nat) ≤ LIM := by decide
theorem law_eqs {ρ : Ro} {κ : WK} (h : Hn 23 ρ (cD T.length x y c kp due u0 f1 f2 D2)) (lo : LowA (T ++ s4 T x y c kp u0 c1 u1 w1)) (Ax : AOk c x u0 kp) (Ay : AOk c1 y u1 w1)
    (hD : D2 = true ↔ (∀ a : Int, 0 ≤ a → given x a = given y a) ∧ c = c1 ∧ u0 = u1 ∧ kp = w1)
    (q : ∀ ρ' : Ro, Hn 23 ρ' (cD T.length x y c kp due u0 f1 f2 D2) → κ.nx ρ' (T ++ s4 T x y c kp u0 c1 u1 w1)) : w_law_loop6 κ ρ (T ++ s4 T x y c kp u0 c1 u1 w1) := by
  have hD' : D2 = true ↔ (∀ a : Int, 0 ≤ a → given y a = given x a) ∧ c1 = c ∧ u1 = u0 ∧ w1 = kp := hD.trans ⟨fun ⟨a, b, d, e⟩ => ⟨fun i hi => (a i hi).symm, b.symm, d.symm, e.symm⟩, fun ⟨a, b, d, e⟩ => ⟨fun i hi => (a i hi).symm, b.symm, d.symm, e.symm⟩⟩
  have a3 : (T ++ s4 T x y c kp u0 c1 u1 w1)[T.length + 2]? = some (acc c x u0 kp) := ap_get T _ 2
  have a4 : (T ++ s4 T x y c kp u0 c1 u1 w1)[T.length + 3]? = some (acc c1 y u1 w1) := ap_get T _ 3
  have aL : (T ++ s4 T x y c kp u0 c1 u1 w1)[T.length + 1]? = some (.lst [.h (T.length + 2), .h (T.length + 3)]) := ap_get T _ 1
  generalize (T ++ s4 T x y c kp u0 c1 u1 w1) = S at a3 a4 aL lo q ⊢
  have rL : res S (.h (T.length + 1)) = .h (T.length + 1) := res_hl aL
  have vL : view S (.h (T.length + 1)) = .lst [.h (T.length + 2), .h (T.length + 3)] := by unfold view; simp only [aL]
  have low := lo.low
  unfold cD cB at h
  have y8 := h.g (i := 8) (d := .lst [rule x, rule y]) (by simp)
  have y14 := h.g (i := 14) (d := .h (T.length + 1)) (by simp)
  unfold w_law_loop6
  rw [wSeq]
  unfold w_law_p1
  simp only [wAsg, wLst, wCons, wNil, wOp, wVar, wC, y14, onS_some, rL, fIx, vL, at0, at1, gx0, gx1]
  refine eqx a3 a4 Ax Ay low fun b1 h1 => ?_
  simp only [rL, vL, at0, at1, gx0, gx1, onS_some]
  refine eqx a4 a3 Ay Ax low fun b2 h2 => ?_
  simp only [wNotV, wOp, wVar, wC, y14, onS_some, rL, fIx, vL, at0, at1, gx0, gx1]
  refine eqx a3 a4 Ax Ay low fun b3 h3 => ?_
  simp only [rL, vL, at0, at1, gx0, gx1, onS_some]
  refine eqx_int a3 Ax low ?_
  simp only [rL, vL, y8, res_l, view_l, at0, at1, gx0, gx1, onS_some]
  refine eqx_rule a3 Ax low ?_
  have e1 : b1 = D2 := by rw [Bool.eq_iff_iff, h1, hD]
  have e2 : b2 = D2 := by rw [Bool.eq_iff_iff, h2, hD']
  have e3 : b3 = D2 := by rw [Bool.eq_iff_iff, h3, hD]
  subst e1 e2 e3
  simp only [List.length_cons, List.length_nil, Nat.reduceAdd, lm5', true_and, wName, id_eq, Bool.not_not]
  have h18 := h.set (i := 18) (d := .lst [.bl b3, .bl b3, .bl b3, .bl false, .bl false]) (by decide) (by simp)
  generalize st ρ 18 (some (D.lst [.bl b3, .bl b3, .bl b3, .bl false, .bl false])) = ρ1 at h18 ⊢
  have z18 := h18.g (i := 18) (d := .lst [.bl b3, .bl b3, .bl b3, .bl false, .bl false]) (by simp)
  have z16 := h18.g (i := 16) (d := .bl b3) (by simp)
  unfold w_law_p2
  simp only [wIfS, wNot, wTru, wCall, wCons, wNil, wVar, wLst, wC, z18, z16, onS_some, res_l, res_b, List.append_nil, List.length_cons, List.length_nil, Nat.reduceAdd, lm5', true_and]
  refine ⟨_, _, _, rfl, rfl, rfl, rfl, rfl, sm_bls [b3, b3, b3, false, false] (by simp), ?_⟩
  simp only [tru, view_b, onS_some, Bool.not_true, Bool.false_eq_true, if_false, wSkip]
  exact q ρ1 (h18.sub fun e he => List.mem_cons_of_mem _ he)
theorem law_due {ρ : Ro} {W : WS} {κ : WK} (h : Hn 23 ρ (cB T.length x y c kp due u0 f1 f2)) (lo : LowA (T ++ s4 T x y c kp u0 c1 u1 w1)) (Ax : AOk c x u0 kp) (Ay : AOk c1 y u1 w1) (al : due = true ↔ ∀ a : Int, 0 ≤ a → given x a = given y a)
    (q : ∀ ρ' : Ro, Hn 23 ρ' (cB T.length x y c kp due u0 f1 f2) → W κ ρ' (T ++ s4 T x y c kp u0 c1 u1 w1)) : (wSeq (w_law_p16) (wSeq (w_law_p17) W)) κ ρ (T ++ s4 T x y c kp u0 c1 u1 w1) := by
  have aN : (T ++ s4 T x y c kp u0 c1 u1 w1)[T.length]? = some (.lst [.int c1, .int u1, .int w1]) := ap_get T (s4 T x y c kp u0 c1 u1 w1) 0
  have vN : view (T ++ s4 T x y c kp u0 c1 u1 w1) (.h T.length) = .lst [.int c1, .int u1, .int w1] := by unfold view; simp only [aN]
  have h0 := h
  unfold cB at h
  have y6 := h.g (i := 6) (d := .bl due) (by simp)
  have y12 := h.g (i := 12) (d := .lst [.lst [.int c, .int u0, .int kp], .h T.length]) (by simp)
  rw [wSeq]
  unfold w_law_p16
  have go : ∀ D2 : Bool, (D2 = true ↔ (∀ a : Int, 0 ≤ a → given x a = given y a) ∧ c = c1 ∧ u0 = u1 ∧ kp = w1) → (wSeq (w_law_p17) W) κ (st ρ 16 (some (.bl D2))) (T ++ s4 T x y c kp u0 c1 u1 w1) := by
    intro D2 hD
    have h16 : Hn 23 (st ρ 16 (some (.bl D2))) (cD T.length x y c kp due u0 f1 f2 D2) := h.set (i := 16) (d := .bl D2) (by decide) (by simp)
    generalize st ρ 16 (some (D.bl D2)) = ρ1 at h16 ⊢
    rw [wSeq]
    unfold w_law_p17 wFor
    simp only [wRng1, wCons, wNil, wC]
    refine ⟨by decide, by decide, ?_⟩
    refine loop_inv (fun ρ' S' => S' = T ++ s4 T x y c kp u0 c1 u1 w1 ∧ Hn 23 ρ' (cD T.length x y c kp due u0 f1 f2 D2)) (fun d hd ρ' S' κ' i q' => ?_) ⟨rfl, h16⟩ fun ρ' S' i => ?_
    · obtain ⟨rfl, hh⟩ := i
      unfold wName
      have h17 : Hn 23 (st ρ' 17 (some d)) (cD T.length x y c kp due u0 f1 f2 D2) := (hh.set (i := 17) (d := d) (by decide) (by simp [cD, cB])).sub fun e he => List.mem_cons_of_mem _ he
      exact law_eqs h17 lo Ax Ay hD fun ρ2 h2 => q' _ _ ⟨rfl, h2⟩
    · obtain ⟨rfl, hh⟩ := i
      exact q ρ' (hh.sub fun e he => List.mem_cons_of_mem _ he)
  cases due with
  | false =>
    simp only [wAsg, wAndV, wVar, y6, onS_some, res_b, Bool.false_eq_true, if_false, wName]
    exact go false ⟨(fun e => nomatch e), fun e => by have := al.mpr e.1; cases this⟩
  | true =>
    simp only [wAsg, wAndV, wVar, y6, onS_some, res_b, if_true, wOp, wC, y12, res_l, fIx, view_l, at0, at1, gx0, gx1]
    refine eq_three (a := c) (b := u0) (c := kp) rfl vN ?_
    simp only [wName]
    exact go _ ⟨fun e => ⟨al.mp rfl, of_decide_eq_true e⟩, fun e => decide_eq_true e.2⟩
def s5 (T : Sto) (x y : Rt) (c kp u0 c1 u1 w1 ut : Int) : List M := [.lst [.int c1, .int u1, .int w1], .lst [.h (T.length + 2), .h (T.length + 3)], acc c x u0 kp, acc c1 y u1 w1, acc c x ut kp]
theorem low5 {ut : Int} (h : LowA T) : LowA (T ++ s5 T x y c kp u0 c1 u1 w1 ut) := h.app fun m hm j hj => by
  simp only [s5, List.length_cons, List.length_nil] at hj
  simp only [s5, List.mem_cons, List.not_mem_nil, or_false] at hm
  rcases hm with rfl | rfl | rfl | rfl | rfl
  · simp [lowM, lows, low]
  · simp only [lowM, lows, low, and_true]; omega
  · exact low_acc _ _ _ _ _
  · exact low_acc _ _ _ _ _
  · exact low_acc _ _ _ _ _
def cE (x y : Rt) (c : Int) : List (Nat × D) := [(8, .lst [rule x, rule y]), (4, .int c), (3, x.d), (1, .h 0)]
theorem law_twin {ρ : Ro} {W : WS} {κ : WK} (h : Hn 23 ρ (cB T.length x y c kp due u0 f1 f2)) (lo : LowA T) (dr : Dr x y c kp due) (a0 : 0 ≤ u0) (a3 : u0 ≤ 3)
    (q : ∀ ρ' : Ro, Hn 23 ρ' (cE x y c) → W κ ρ' (T ++ s5 T x y c kp u0 c1 u1 w1 (u0 + 1))) :
    (wSeq (w_law_p18) (wSeq (w_law_p19) (wSeq (w_law_p20) (wSeq (w_law_p21) (wSeq (w_law_p22) (wSeq (w_law_p23) W)))))) κ ρ (T ++ s4 T x y c kp u0 c1 u1 w1) := by
  have tx := dr.tx
  have k0 := dr.k0
  have kx := dr.kx
  have dc1 := dr.c1
  have dc2 := dr.c2
  have Ax := dr.ax (c' := c) (u := u0) (w := kp) (by omega) (by omega) (by omega) (by omega) (by omega) (by omega)
  have Ax1 := dr.ax (c' := c) (u := u0 + 1) (w := kp) (by omega) (by omega) (by omega) (by omega) (by omega) (by omega)
  have c3 : (T ++ s4 T x y c kp u0 c1 u1 w1)[T.length + 2]? = some (acc c x u0 kp) := ap_get T _ 2
  have cL : (T ++ s4 T x y c kp u0 c1 u1 w1)[T.length + 1]? = some (.lst [.h (T.length + 2), .h (T.length + 3)]) := ap_get T _ 1
  have rL := res_hl cL
  have vL : view (T ++ s4 T x y c kp u0 c1 u1 w1) (.h (T.length + 1)) = .lst [.h (T.length + 2), .h (T.length + 3)] := by unfold view; simp only [cL]
  have l4 : (T ++ s4 T x y c kp u0 c1 u1 w1).length = T.length + 4 := by simp [s4]
  have a45 : T ++ s4 T x y c kp u0 c1 u1 w1 ++ [acc c x u0 kp] = T ++ s5 T x y c kp u0 c1 u1 w1 u0 := by simp [s4, s5]
  unfold cB at h
  have y14 := h.g (i := 14) (d := .h (T.length + 1)) (by simp)
  rw [wSeq]
  unfold w_law_p18
  simp only [wAsg, wMeth, wCons, wNil, wOp, wVar, wC, y14, onS_some, rL, fIx, vL, at0, gx0, atts_acc c3, lk_k, List.append_nil, List.length_cons, List.length_nil, Nat.reduceAdd, true_and]
  refine ⟨T.length + 2, c, u0, kp, x, rfl, c3, by omega, ?_⟩
  rw [a45, l4]
  simp only [wName]
  have h19 := h.set (i := 19) (d := .h (T.length + 4)) (by decide) (by simp)
  generalize st ρ 19 (some (D.h (T.length + 4))) = ρ1 at h19 ⊢
  -- the store of p19
  have d3 : ∀ ut, (T ++ s5 T x y c kp u0 c1 u1 w1 ut)[T.length + 2]? = some (acc c x u0 kp) := fun ut => ap_get T _ 2
  have d5 : ∀ ut, (T ++ s5 T x y c kp u0 c1 u1 w1 ut)[T.length + 4]? = some (acc c x ut kp) := fun ut => ap_get T _ 4
  have dL : ∀ ut, (T ++ s5 T x y c kp u0 c1 u1 w1 ut)[T.length + 1]? = some (.lst [.h (T.length + 2), .h (T.length + 3)]) := fun ut => ap_get T _ 1
  have r5 : ∀ ut, res (T ++ s5 T x y c kp u0 c1 u1 w1 ut) (.h (T.length + 1)) = .h (T.length + 1) := fun ut => res_hl (dL ut)
  have v5 : ∀ ut, view (T ++ s5 T x y c kp u0 c1 u1 w1 ut) (.h (T.length + 1)) = .lst [.h (T.length + 2), .h (T.length + 3)] := fun ut => by unfold view; simp only [dL]
  have z14 := h19.g (i := 14) (d := .h (T.length + 1)) (by simp)
  have z19 := h19.g (i := 19) (d := .h (T.length + 4)) (by simp)
  have lo5 : ∀ ut, lowS (T ++ s5 T x y c kp u0 c1 u1 w1 ut) := fun ut => (low5 lo).low
  have rt : ∀ ut, res (T ++ s5 T x y c kp u0 c1 u1 w1 ut) (.h (T.length + 4)) = .h (T.length + 4) := fun ut => res_acc (d5 ut)
  have r3 : ∀ ut, res (T ++ s5 T x y c kp u0 c1 u1 w1 ut) (.h (T.length + 2)) = .h (T.length + 2) := fun ut => res_acc (d3 ut)
  rw [wSeq]
  unfold w_law_p19
  simp only [wAsg, wLst, wCons, wNil, wOp, wVar, wC, z14, z19, onS_some, r5, rt, fIx, v5, at0, gx0]
  refine eqx (d5 u0) (d3 u0) Ax Ax (lo5 u0) fun b1 h1 => ?_
  have e1 : b1 = true := h1.mpr ⟨fun _ _ => rfl, rfl, rfl, rfl⟩
  subst e1
  simp only [List.length_cons, List.length_nil, Nat.reduceAdd, lm1, true_and, wName, id_eq]
  have h18 := h19.set (i := 18) (d := .lst [.bl true]) (by decide) (by simp)
  generalize st ρ1 18 (some (D.lst [.bl true])) = ρ2 at h18 ⊢
  have x19 := h18.g (i := 19) (d := .h (T.length + 4)) (by simp)
  rw [wSeq]
  unfold w_law_p20
  simp only [wAugO, x19, onS_some, wC, rt, atts_acc (d5 u0), Option.isSome_some, true_and]
  refine ⟨T.length + 4, c, u0, kp, 1, x, rfl, d5 u0, fun _ => ?_, fun z => by omega⟩
  have s5' : (T ++ s5 T x y c kp u0 c1 u1 w1 u0).set (T.length + 4) (acc c x (u0 + 1) kp) = T ++ s5 T x y c kp u0 c1 u1 w1 (u0 + 1) := by
    rw [ap_set]
    rfl
  rw [s5']
  show (wSeq (w_law_p21) (wSeq (w_law_p22) (wSeq (w_law_p23) W))) κ (st ρ2 19 (some (D.h (T.length + 4)))) (T ++ s5 T x y c kp u0 c1 u1 w1 (u0 + 1))
  have hk : Hn 23 ρ2 ((18, .lst [.bl true]) :: cB T.length x y c kp due u0 f1 f2) := h18.sub fun e he => by
    simp only [cB, List.mem_cons, List.not_mem_nil, or_false] at he ⊢
    rcases he with he | he
    · exact .inl he
    · exact .inr (.inr he)
  unfold cB at hk
  have hm := hk.set (i := 19) (d := .h (T.length + 4)) (by decide) (by simp)
  generalize st ρ2 19 (some (D.h (T.length + 4))) = ρ3 at hm ⊢
  have p14 := hm.g (i := 14) (d := .h (T.length + 1)) (by simp)
  have p18 := hm.g (i := 18) (d := .lst [.bl true]) (by simp)
  have p19 := hm.g (i := 19) (d := .h (T.length + 4)) (by simp)
  rw [wSeq]
  unfold w_law_p21
  simp only [wAsg, wLst, wCons, wNil, wOp, wProp, wVar, wC, p14, p18, p19, onS_some, r5, rt, res_l, fIx, v5, at0, gx0]
  refine eqx (d5 (u0 + 1)) (d3 (u0 + 1)) Ax1 Ax (lo5 (u0 + 1)) fun b2 h2 => ?_
  have e2 : b2 = false := by
    cases b2 with
    | false => rfl
    | true => have := (h2.mp rfl).2.2.1; omega
  subst e2
  simp only [rt, atts_acc (d5 (u0 + 1)), Option.isSome_some, true_and]
  refine ⟨T.length + 4, c, u0 + 1, kp, x, rfl, d5 _, ?_⟩
  simp only [r5, v5, at0, gx0, onS_some, atts_acc (d3 (u0 + 1)), Option.isSome_some, true_and]
  refine ⟨T.length + 2, c, u0, kp, x, rfl, d3 _, ?_⟩
  simp only [List.length_cons, List.length_nil, Nat.reduceAdd, lm3, true_and, fAdd, view_l, List.cons_append, List.nil_append]
  refine ⟨by decide, ?_⟩
  rw [show c - (u0 + 1) - kp = c - u0 - kp - 1 by omega]
  simp only [wName, id_eq]
  have hc : Hn 23 ρ3 (cB T.length x y c kp due u0 f1 f2) := hm.sub fun e he => List.mem_cons_of_mem _ (List.mem_cons_of_mem _ he)
  unfold cB at hc
  have hf := hc.set (i := 18) (d := .lst [.bl true, .bl false, .int (c - u0 - kp - 1), .int (c - u0 - kp)]) (by decide) (by simp)
  generalize st ρ3 18 (some (D.lst [.bl true, .bl false, .int (c - u0 - kp - 1), .int (c - u0 - kp)])) = ρ4 at hf ⊢
  have q4 := hf.g (i := 4) (d := .int c) (by simp)
  have q12 := hf.g (i := 12) (d := .lst [.lst [.int c, .int u0, .int kp], .h T.length]) (by simp)
  rw [wSeq]
  unfold w_law_p22
  simp only [wAsg, wOp, wVar, wC, q4, q12, onS_some, res_i, res_l, fIx, view_l, at0, at1, at2, gx0, gx1, gx2, fSub, fI, view_i, true_and, wName]
  have hg := hf.set (i := 20) (d := .int (c - u0 - kp)) (by decide) (by simp)
  generalize st ρ4 20 (some (D.int (c - u0 - kp))) = ρ5 at hg ⊢
  have t18 := hg.g (i := 18) (d := .lst [.bl true, .bl false, .int (c - u0 - kp - 1), .int (c - u0 - kp)]) (by simp)
  have t20 := hg.g (i := 20) (d := .int (c - u0 - kp)) (by simp)
  rw [wSeq]
  unfold w_law_p23
  simp only [wIfS, wNot, wTru, wCall, wCons, wNil, wVar, wLst, wC, wOp, t18, t20, onS_some, res_l, res_i, fSub, fI, view_i, List.append_nil, List.length_cons, List.length_nil, Nat.reduceAdd, lm4, true_and]
  refine ⟨_, _, _, rfl, rfl, rfl, rfl, rfl, sm_l4 (Nat.lt_of_lt_of_le (log2_small (sm (by omega) (by omega)) (by decide)) (by decide : 400 ≤ 1000)) (Nat.lt_of_lt_of_le (log2_small (sm (by omega) (by omega)) (by decide)) (by decide : 400 ≤ 1000)), ?_⟩
  simp only [tru, view_b, onS_some, Bool.not_true, Bool.false_eq_true, if_false, wSkip]
  exact q ρ5 (hg.sub fun e he => by
    simp only [cE, List.mem_cons, List.not_mem_nil, or_false] at he ⊢
    rcases he with rfl | rfl | rfl | rfl <;> simp)
end
end Sq
set_option maxHeartbeats 1000000
namespace Sq
open PySem L2
theorem lt_int (i : Int) : Lt (.int i) := ⟨trivial, fun _ => rfl⟩
theorem pw30 : CPow 10 30 := by unfold CPow; decide
def bads : List D := [.int 0, .int (-1), .bl true, .non, .str "1", .tup [.int 3]]
theorem bads_lt {d : D} (h : d ∈ bads) : Lt d ∧ isN 1 d = false := by
  simp only [bads, List.mem_cons, List.not_mem_nil, or_false] at h
  rcases h with rfl | rfl | rfl | rfl | rfl | rfl
  all_goals exact ⟨⟨trivial, fun _ => rfl⟩, rfl⟩
section
variable {x y : Rt} {c : Int} {od : D}
theorem law_odds {ρ : Ro} {κ : WK} {S : Sto} {d : D} (h : Hn 23 ρ ((21, od) :: cE x y c)) (ho : Odd od) (hd : d ∈ bads) (lo : lowS S)
    (q : ∀ ρ' : Ro, Hn 23 ρ' ((21, od) :: cE x y c) → κ.nx ρ' S) : w_law_loop7 κ (st ρ 22 (some d)) S := by
  obtain ⟨lt, hn⟩ := bads_lt hd
  unfold cE at h
  have h22 := h.set (i := 22) (d := d) (by decide) (by simp)
  generalize st ρ 22 (some d) = ρ1 at h22 ⊢
  have y8 := h22.g (i := 8) (d := .lst [rule x, rule y]) (by simp)
  have y21 := h22.g (i := 21) (d := od) (by simp)
  have y22 := h22.g (i := 22) (d := d) (by simp)
  have ro := ho.res
  have rd := lt.rs
  unfold w_law_loop7
  simp only [wIfS, wNot, wTru, wCall, wCons, wNil, wLst, wVar, wOp, wC, y8, y21, y22, onS_some, res_l, rd, fIx, view_l, at0, gx0, List.append_nil, List.length_cons, List.length_nil, Nat.reduceAdd, true_and]
  refine ⟨d, rule x, rfl, lt, fun _ => rfl, lo, fun _ => ?_, fun e => by rw [hn] at e; cases e⟩
  simp only [rd, ro]
  refine ⟨d, od, rfl, lt, ro, lo, fun _ => ?_, fun e => by rw [hn] at e; cases e⟩
  simp only [lm2, true_and]
  refine ⟨_, _, _, rfl, rfl, rfl, rfl, rfl, sm_l2 (.inr ⟨0, rfl, by decide⟩) (.inr ⟨0, rfl, by decide⟩), ?_⟩
  simp only [tru, view_b, onS_some, Bool.not_true, Bool.false_eq_true, if_false, wSkip]
  exact q ρ1 (h22.sub fun e he => List.mem_cons_of_mem _ he)
theorem law_end {ρ : Ro} {κ : WK} {S : Sto} (h : Hn 23 ρ (cE x y c)) (hb : S[0]? = some .bag) (lo : LowA S)
    (q : ∀ (ρ' : Ro) (S' : Sto), Hn 23 ρ' [(1, .h 0)] → S'[0]? = some .bag → LowA S' → κ.nx ρ' S') : (wSeq (w_law_p24) (wSeq (w_law_p25) (w_law_p26))) κ ρ S := by
  have r0 := res_hb hb
  unfold cE at h
  have y1 := h.g (i := 1) (d := .h 0) (by simp)
  have y3 := h.g (i := 3) (d := x.d) (by simp)
  rw [wSeq]
  unfold w_law_p24
  simp only [wAsg, wOp, wLst, wCons, wNil, wCall, wVar, wC, y1, y3, onS_some, r0, Rt.res, List.append_nil, List.length_cons, List.length_nil, Nat.reduceAdd, lm4, true_and]
  refine ⟨0, 4, rfl, hb, by decide, by decide, fun p p0 p1 => ?_⟩
  obtain ⟨od, e, ho⟩ : ∃ od : D, atI [x.d, .non, .int 3, .fn "at_least"] p = some od ∧ Odd od := by
    have : p = 0 ∨ p = 1 ∨ p = 2 ∨ p = 3 := by omega
    rcases this with rfl | rfl | rfl | rfl
    · exact ⟨x.d, rfl, .inr ⟨kind_tree x, fun _ => by simp only [Rt.res], fun _ => by cases x <;> rfl⟩⟩
    · exact ⟨.non, rfl, .inr ⟨rfl, fun _ => rfl, fun _ => rfl⟩⟩
    · exact ⟨.int 3, rfl, .inr ⟨rfl, fun _ => rfl, fun _ => rfl⟩⟩
    · exact ⟨.fn "at_least", rfl, .inl rfl⟩
  refine fIx_at e ?_
  simp only [wName]
  have h21 : Hn 23 (st ρ 21 (some od)) ((21, od) :: cE x y c) := h.set (i := 21) (d := od) (by decide) (by simp)
  generalize st ρ 21 (some od) = ρ1 at h21 ⊢
  rw [wSeq]
  unfold w_law_p25 wFor
  simp only [wItT, wTup, wCons, wNil, wC, wNeg, List.length_cons, List.length_nil, Nat.reduceAdd, lm1, lm6, true_and, view_t]
  refine loop_inv (fun ρ' S' => S' = S ∧ Hn 23 ρ' ((21, od) :: cE x y c)) (fun d hd ρ' S' κ' i q' => ?_) ⟨rfl, h21⟩ fun ρ' S' i => ?_
  · obtain ⟨rfl, hh⟩ := i
    unfold wName
    exact law_odds hh ho hd lo.low fun ρ2 h2 => q' _ _ ⟨rfl, h2⟩
  · obtain ⟨rfl, hh⟩ := i
    unfold cE at hh
    have z8 := hh.g (i := 8) (d := .lst [rule x, rule y]) (by simp)
    have z21 := hh.g (i := 21) (d := od) (by simp)
    have ro := ho.res
    unfold w_law_p26
    simp only [wIfS, wNot, wTru, wCall, wCons, wNil, wLst, wVar, wOp, wC, z8, z21, onS_some, res_l, fPow, fI, fIx, view_i, view_l, at0, gx0, List.append_nil, List.length_cons, List.length_nil, Nat.reduceAdd, true_and]
    refine ⟨pw30, ?_⟩
    refine ⟨_, rule x, rfl, lt_int _, fun _ => rfl, lo.low, fun e => absurd e (by decide), fun _ => .inl ⟨_, x, rfl, rfl, ?_⟩⟩
    have lo2 : LowA (S' ++ [acc (10 ^ Int.toNat 30) x 0 0]) := lo.psh fun j _ => low_acc _ _ _ _ _
    simp only [ro]
    refine ⟨.int 1, od, rfl, lt_int _, ro, lo2.low, fun e => absurd e (by decide), fun _ => .inr ⟨ho, ?_⟩⟩
    simp only [lm2, true_and]
    refine ⟨_, _, _, rfl, rfl, rfl, rfl, rfl, sm_l2 (.inl rfl) (.inr ⟨1, rfl, by decide⟩), ?_⟩
    simp only [tru, view_b, onS_some, Bool.not_true, Bool.false_eq_true, if_false, wSkip]
    exact q ρ' _ (hh.sub fun e he => by
      simp only [List.mem_cons, List.not_mem_nil, or_false] at he ⊢
      rcases he with rfl
      simp) (ap_bag _ hb) lo2
end
theorem law_turn {ρ : Ro} {κ : WK} {T : Sto} (h : Hn 23 ρ [(1, .h 0)]) (hb : T[0]? = some .bag) (lo : LowA T)
    (q : ∀ (ρ' : Ro) (S' : Sto), Hn 23 ρ' [(1, .h 0)] → S'[0]? = some .bag → LowA S' → κ.nx ρ' S') : w_law_loop1 κ ρ T := by
  unfold w_law_loop1
  refine law_draw h hb lo fun x y c kp due ρ1 dr h1 => ?_
  refine law_nums h1 hb dr fun u0 c1 u1 w1 f1 f2 ρ2 nm h2 => ?_
  refine law_some h2 lo dr nm fun ρ3 h3 => ?_
  have tx := dr.tx
  have ty := dr.ty
  have k0 := dr.k0
  have kx := dr.kx
  have dc1 := dr.c1
  have dc2 := dr.c2
  have a0 := nm.a0
  have a3 := nm.a3
  have b0 := nm.u0'
  have b3 := nm.u3'
  have e1 := nm.c1
  have e2 := nm.c2
  have g0 := nm.w0
  have gy := nm.wy
  have Ax := dr.ax (c' := c) (u := u0) (w := kp) (by omega) (by omega) (by omega) (by omega) (by omega) (by omega)
  have Ay := dr.ay (c' := c1) (u := u1) (w := w1) (by omega) (by omega) (by omega) (by omega) (by omega) (by omega)
  refine law_due h3 (low4 lo) Ax Ay dr.al fun ρ4 h4 => ?_
  refine law_twin h4 lo dr nm.a0 nm.a3 fun ρ5 h5 => ?_
  exact law_end h5 (ap_bag _ hb) (low5 lo) q
theorem law_law : LawD ["_law_script"] n_law w_law sp_law := by
  intro ds S Φ _ h
  obtain ⟨ns, rfl, rfl, q⟩ := h
  unfold w_law n_law
  rw [wSeq]
  unfold w_law_0
  simp only [wAsg, wCall, wCons, wNil, wVar, ro, List.map_cons, List.map_nil, List.length_cons, List.length_nil, List.cons_append, List.nil_append, List.append_nil, gt, onS_some, res_scr, Nat.reduceAdd, true_and]
  refine ⟨ns, rfl, ?_⟩
  simp only [List.length_nil, List.nil_append, wName, st, Nat.reduceSub, List.replicate_succ, List.replicate_zero]
  have h0 : Hn 23 [some (D.scr ns), some (D.h 0), none, none, none, none, none, none, none, none, none, none, none, none, none, none, none, none, none, none, none, none, none] [(1, .h 0)] := ⟨rfl, fun e he => by
    simp only [List.mem_cons, List.not_mem_nil, or_false] at he
    subst he
    rfl⟩
  generalize [some (D.scr ns), some (D.h 0), none, none, none, none, none, none, none, none, none, none, none, none, none, none, none, none, none, none, none, none, none] = ρ0 at h0 ⊢
  rw [wSeq]
  unfold w_law_1
  unfold wFor
  simp only [wRng1, wCons, wNil, wC]
  refine ⟨by decide, by decide, ?_⟩
  refine loop_inv (fun ρ' S' => Hn 23 ρ' [(1, .h 0)] ∧ S'[0]? = some .bag ∧ LowA S') (fun d hd ρ' S' κ' i q' => ?_) ⟨h0, rfl, fun k m e n hn => ?_⟩ fun ρ' S' i => ?_
  · obtain ⟨hh, hb, lo⟩ := i
    unfold wName
    exact law_turn ((hh.set (i := 2) (d := d) (by decide) (by simp)).sub fun e he => List.mem_cons_of_mem _ he) hb lo fun ρ2 T2 O2 b2 l2 => q' _ _ ⟨O2, b2, l2⟩
  · have hk : k = 0 := by
      have := (List.getElem?_eq_some_iff.mp e).1
      simpa using this
    subst hk
    simp at e
    subst e
    trivial
  unfold w_law_2
  exact q _
end Sq
set_option maxHeartbeats 4000000
namespace Sq
open PySem PySem.Spec PyProof.Rows L2
theorem no_is_shape (ds : List D) (S : Sto) (Q : D → Sto → Prop) : ¬ sp_is_shape_n 0 ds S Q := by
  rintro ⟨r, _, _, hd, _⟩
  have := r.dep_pos
  omega
theorem no_atoms_of (ds : List D) (S : Sto) (Q : D → Sto → Prop) : ¬ sp_atoms_n 0 ds S Q := by
  rintro ⟨r, _, _, hd, _⟩
  have := r.dep_pos
  omega
theorem no_given_of (ds : List D) (S : Sto) (Q : D → Sto → Prop) : ¬ sp_given_n 0 ds S Q := by
  rintro ⟨r, _, _, _, hd, _⟩
  have := r.dep_pos
  omega
theorem no_threshold_of (ds : List D) (S : Sto) (Q : D → Sto → Prop) : ¬ sp_threshold_of_n 0 ds S Q := by
  rintro ⟨r, _, hd, _⟩
  have := r.dep_pos
  omega
theorem no_q_threshold (ds : List D) (S : Sto) (Q : D → Sto → Prop) : ¬ sp_q_threshold_n 0 ds S Q := no_threshold_of ds S Q
theorem no_q_give (ds : List D) (S : Sto) (Q : D → Sto → Prop) : ¬ sp_q_give_n 0 ds S Q := no_given_of ds S Q
def top (i : Nat) : Stmt := PySem.Challenge.pw_sharedpipe_k21_accounts_compared.main.body.getD i (.Pass ⟨0, 0, 0, 0⟩)
abbrev s_q_alike : Stmt := top 33
theorem sc_q_alike : FnScope n_q_alike ["_law_found", "_law_due"] (C8.fnScope s_q_alike) := C8.fnScope_by (by decide +kernel)
abbrev s_q_bag : Stmt := top 31
theorem sc_q_bag : FnScope n_q_bag ["_law_script"] (C8.fnScope s_q_bag) := C8.fnScope_by (by decide +kernel)
abbrev s_given_of : Stmt := top 20
theorem sc_given_of : FnScope n_given_of ["tree", "amount"] (C8.fnScope s_given_of) := C8.fnScope_by (by decide +kernel)
abbrev s_Rule_call : Stmt := inClass (top 25) 1
theorem sc_Rule_call : FnScope n_Rule_call ["self", "amount"] (C8.fnScope s_Rule_call) := C8.fnScope_by (by decide +kernel)
abbrev s_threshold_of : Stmt := top 21
theorem sc_threshold_of : FnScope n_threshold_of ["tree"] (C8.fnScope s_threshold_of) := C8.fnScope_by (by decide +kernel)
abbrev s_Rule_threshold : Stmt := inClass (top 25) 3
theorem sc_Rule_threshold : FnScope n_Rule_threshold ["self"] (C8.fnScope s_Rule_threshold) := C8.fnScope_by (by decide +kernel)
abbrev s_repeated : Stmt := top 11
theorem sc_repeated : FnScope n_repeated ["rule", "withheld", "size", "many"] (C8.fnScope s_repeated) := C8.fnScope_by (by decide +kernel)
abbrev s_Account_passes : Stmt := inClass (top 29) 9
theorem sc_Account_passes : FnScope n_Account_passes ["self", "size", "many"] (C8.fnScope s_Account_passes) := C8.fnScope_by (by decide +kernel)
abbrev s_Account_iadd : Stmt := inClass (top 29) 8
theorem sc_Account_iadd : FnScope n_Account_iadd ["self", "many"] (C8.fnScope s_Account_iadd) := C8.fnScope_by (by decide +kernel)
abbrev s_Account_left : Stmt := inClass (top 29) 3
theorem sc_Account_left : FnScope n_Account_left ["self"] (C8.fnScope s_Account_left) := C8.fnScope_by (by decide +kernel)
abbrev s_Account_isub : Stmt := inClass (top 29) 7
theorem sc_Account_isub : FnScope n_Account_isub ["self", "many"] (C8.fnScope s_Account_isub) := C8.fnScope_by (by decide +kernel)
abbrev s_is_integer : Stmt := top 8
theorem sc_is_integer : FnScope n_is_integer ["thing"] (C8.fnScope s_is_integer) := C8.fnScope_by (by decide +kernel)
abbrev s_is_number : Stmt := top 9
theorem sc_is_number : FnScope n_is_number ["least", "thing"] (C8.fnScope s_is_number) := C8.fnScope_by (by decide +kernel)
abbrev s_Account_init : Stmt := inClass (top 29) 0
theorem sc_Account_init : FnScope n_Account_init ["self", "credit", "rule"] (C8.fnScope s_Account_init) := C8.fnScope_by (by decide +kernel)
abbrev s_Account_lets_flow : Stmt := inClass (top 29) 10
theorem sc_Account_lets_flow : FnScope n_Account_lets_flow ["self", "size", "many"] (C8.fnScope s_Account_lets_flow) := C8.fnScope_by (by decide +kernel)
abbrev s_Account_flows : Stmt := inClass (top 29) 11
theorem sc_Account_flows : FnScope n_Account_flows ["self", "size", "many"] (C8.fnScope s_Account_flows) := C8.fnScope_by (by decide +kernel)
abbrev s_q_brought : Stmt := top 39
theorem sc_q_brought : FnScope n_q_brought ["_law_credit", "_law_rule", "_law_unpassed", "_law_kept", "_law_is_far"] (C8.fnScope s_q_brought) := C8.fnScope_by (by decide +kernel)
abbrev s_q_take : Stmt := top 32
theorem sc_q_take : FnScope n_q_take ["_law_bag_here", "_law_many"] (C8.fnScope s_q_take) := C8.fnScope_by (by decide +kernel)
abbrev s_q_draw_size : Stmt := top 34
theorem sc_q_draw_size : FnScope n_q_draw_size ["_law_bag_here", "_law_top", "_law_scale"] (C8.fnScope s_q_draw_size) := C8.fnScope_by (by decide +kernel)
abbrev s_q_draw_tree : Stmt := top 35
theorem sc_q_draw_tree : FnScope n_q_draw_tree ["_law_bag_here", "_law_top", "_law_scale", "_law_depth"] (C8.fnScope s_q_draw_tree) := C8.fnScope_by (by decide +kernel)
abbrev s_q_give : Stmt := top 36
theorem sc_q_give : FnScope n_q_give ["_law_tree", "_law_amount"] (C8.fnScope s_q_give) := C8.fnScope_by (by decide +kernel)
abbrev s_q_refused : Stmt := top 38
theorem sc_q_refused : FnScope n_q_refused ["_law_credit", "_law_rule"] (C8.fnScope s_q_refused) := C8.fnScope_by (by decide +kernel)
abbrev s_q_threshold : Stmt := top 37
theorem sc_q_threshold : FnScope n_q_threshold ["_law_tree"] (C8.fnScope s_q_threshold) := C8.fnScope_by (by decide +kernel)
abbrev s_atoms_of : Stmt := top 18
theorem sc_atoms_of : FnScope n_atoms_of ["tree"] (C8.fnScope s_atoms_of) := C8.fnScope_by (by decide +kernel)
abbrev s_is_shape : Stmt := top 17
theorem sc_is_shape : FnScope n_is_shape ["thing"] (C8.fnScope s_is_shape) := C8.fnScope_by (by decide +kernel)
abbrev s_is_tree : Stmt := top 19
theorem sc_is_tree : FnScope n_is_tree ["thing"] (C8.fnScope s_is_tree) := C8.fnScope_by (by decide +kernel)
abbrev s_Rule_init : Stmt := inClass (top 25) 0
theorem sc_Rule_init : FnScope n_Rule_init ["self", "tree"] (C8.fnScope s_Rule_init) := C8.fnScope_by (by decide +kernel)
abbrev s_Account_copied : Stmt := inClass (top 29) 12
theorem sc_Account_copied : FnScope n_Account_copied ["self"] (C8.fnScope s_Account_copied) := C8.fnScope_by (by decide +kernel)
abbrev s_telling_amounts : Stmt := top 22
theorem sc_telling_amounts : FnScope n_telling_amounts ["one", "other"] (C8.fnScope s_telling_amounts) := C8.fnScope_by (by decide +kernel)
abbrev s_first_apart : Stmt := top 23
theorem sc_first_apart : FnScope n_first_apart ["one", "other"] (C8.fnScope s_first_apart) := C8.fnScope_by (by decide +kernel)
abbrev s_Rule_eq : Stmt := inClass (top 25) 7
theorem sc_Rule_eq : FnScope n_Rule_eq ["self", "other"] (C8.fnScope s_Rule_eq) := C8.fnScope_by (by decide +kernel)
abbrev s_Account_x_eq : Stmt := inClass (top 29) 13
theorem sc_Account_x_eq : FnScope n_Account_x_eq ["self", "other"] (C8.fnScope s_Account_x_eq) := C8.fnScope_by (by decide +kernel)
abbrev s_law : Stmt := top 40
theorem sc_law : FnScope n_law ["_law_script"] (C8.fnScope s_law) := C8.fnScope_by (by decide +kernel)
abbrev s_NotPassed_init : Stmt := inClass (top 6) 0
theorem sb_NotPassed : SupB s_NotPassed_init "self" "many" "many" := ⟨_, _, _, _, _, _, _, _, _, _, rfl, fun _ _ _ _ _ _ _ _ _ _ _ _ => ⟨⟨_, rfl⟩, rfl, rfl, rfl, rfl⟩⟩
theorem sf_NotPassed : SupF s_NotPassed_init "self" "many" := ⟨⟨_, rfl, rfl⟩, by decide, by decide +kernel, by decide +kernel, by decide +kernel, by decide +kernel, by decide +kernel, by decide +kernel, by decide +kernel, by decide +kernel, by decide, by decide, fun _ _ _ _ _ _ _ _ _ _ => rfl⟩
abbrev s_Overdrawn_init : Stmt := inClass (top 5) 0
theorem sb_Overdrawn : SupB s_Overdrawn_init "self" "many" "many" := ⟨_, _, _, _, _, _, _, _, _, _, rfl, fun _ _ _ _ _ _ _ _ _ _ _ _ => ⟨⟨_, rfl⟩, rfl, rfl, rfl, rfl⟩⟩
theorem sf_Overdrawn : SupF s_Overdrawn_init "self" "many" := ⟨⟨_, rfl, rfl⟩, by decide, by decide +kernel, by decide +kernel, by decide +kernel, by decide +kernel, by decide +kernel, by decide +kernel, by decide +kernel, by decide +kernel, by decide, by decide, fun _ _ _ _ _ _ _ _ _ _ => rfl⟩
abbrev s_Wrong_init : Stmt := inClass (top 3) 0
theorem sb_Wrong : SupB s_Wrong_init "self" "place" "place" := ⟨_, _, _, _, _, _, _, _, _, _, rfl, fun _ _ _ _ _ _ _ _ _ _ _ _ => ⟨⟨_, rfl⟩, rfl, rfl, rfl, rfl⟩⟩
theorem sf_Wrong : SupF s_Wrong_init "self" "place" := ⟨⟨_, rfl, rfl⟩, by decide, by decide +kernel, by decide +kernel, by decide +kernel, by decide +kernel, by decide +kernel, by decide +kernel, by decide +kernel, by decide +kernel, by decide, by decide, fun _ _ _ _ _ _ _ _ _ _ => rfl⟩
structure Txt (P : Program) (K : PySem.W.Frag) (mg : Str → Option Value) : Prop where
  «d_q_alike» : DD K mg "_law_alike" s_q_alike ["_law_found", "_law_due"] []
  «d_q_bag» : DD K mg "_law_bag" s_q_bag ["_law_script"] []
  «d_given_of» : DD K mg "given_of" s_given_of ["tree", "amount"] []
  «d_Rule_call» : DC K mg "Rule" "Rule.__call__" s_Rule_call ["self", "amount"]
  «d_threshold_of» : DD K mg "threshold_of" s_threshold_of ["tree"] []
  «d_Rule_threshold» : DP K mg "Rule" "threshold" "Rule.threshold" s_Rule_threshold ["self"]
  «d_repeated» : DD K mg "repeated" s_repeated ["rule", "withheld", "size", "many"] []
  «d_Account_passes» : DM K mg "Account" "passes" "Account.passes" s_Account_passes ["self", "size", "many"] []
  «d_Account_iadd» : DIO K mg "Account" "__iadd__" "Account.__iadd__" .Add s_Account_iadd ["self", "many"]
  «d_Account_left» : DP K mg "Account" "left" "Account.left" s_Account_left ["self"]
  «d_Account_isub» : DIO K mg "Account" "__isub__" "Account.__isub__" .Sub s_Account_isub ["self", "many"]
  «d_is_integer» : DD K mg "is_integer" s_is_integer ["thing"] []
  «d_is_number» : DD K mg "is_number" s_is_number ["least", "thing"] []
  «d_Account_init» : DI K mg "Account" "Account.__init__" s_Account_init ["self", "credit", "rule"] []
  «d_Account_lets_flow» : DM K mg "Account" "lets_flow" "Account.lets_flow" s_Account_lets_flow ["self", "size", "many"] []
  «d_Account_flows» : DM K mg "Account" "flows" "Account.flows" s_Account_flows ["self", "size", "many"] []
  «d_q_brought» : DD K mg "_law_brought" s_q_brought ["_law_credit", "_law_rule", "_law_unpassed", "_law_kept", "_law_is_far"] []
  «d_q_take» : DD K mg "_law_take" s_q_take ["_law_bag_here", "_law_many"] []
  «d_q_draw_size» : DD K mg "_law_draw_size" s_q_draw_size ["_law_bag_here", "_law_top", "_law_scale"] []
  «d_q_draw_tree» : DD K mg "_law_draw_tree" s_q_draw_tree ["_law_bag_here", "_law_top", "_law_scale", "_law_depth"] []
  «d_q_give» : DD K mg "_law_give" s_q_give ["_law_tree", "_law_amount"] []
  «d_q_refused» : DD K mg "_law_refused" s_q_refused ["_law_credit", "_law_rule"] []
  «d_q_threshold» : DD K mg "_law_threshold" s_q_threshold ["_law_tree"] []
  «d_atoms_of» : DD K mg "atoms_of" s_atoms_of ["tree"] []
  «d_is_shape» : DD K mg "is_shape" s_is_shape ["thing"] []
  «d_is_tree» : DD K mg "is_tree" s_is_tree ["thing"] []
  «d_Rule_init» : DI K mg "Rule" "Rule.__init__" s_Rule_init ["self", "tree"] []
  «d_Account_copied» : DM K mg "Account" "copied" "Account.copied" s_Account_copied ["self"] []
  «d_telling_amounts» : DD K mg "telling_amounts" s_telling_amounts ["one", "other"] []
  «d_first_apart» : DD K mg "first_apart" s_first_apart ["one", "other"] []
  «d_Rule_eq» : DE K mg "Rule" "Rule.__eq__" s_Rule_eq ["self", "other"]
  «d_Account_x_eq» : DE K mg "Account" "Account.__eq__" s_Account_x_eq ["self", "other"]
  «d_law» : DL K mg "law" s_law "_law_script"
  «abs» : mg "abs" = none
  «bool» : mg "bool" = none
  «enumerate» : mg "enumerate" = none
  «f_Account_its_credit» : KF K mg "Account" "its_credit"
  «f_Account_its_rule» : KF K mg "Account" "its_rule"
  «f_Account_its_unpassed» : KF K mg "Account" "its_unpassed"
  «f_Account_its_withheld» : KF K mg "Account" "its_withheld"
  «f_Rule_its_tree» : KF K mg "Rule" "its_tree"
  «g_JOINS» : GK K mg "JOINS" (.tup [.str "or", .str "and"])
  «g_MOST_ATOMS» : GK K mg "MOST_ATOMS" (.int 6)
  «g_MOST_BY» : GK K mg "MOST_BY" (.int 6)
  «g_ROUND» : GK K mg "ROUND" (.int 60)
  «g_at_least» : GK K mg "at_least" (.fn "at_least")
  «ib_Rule_bool» : KIB K mg "Rule" "bool"
  «ib_Rule_int» : KIB K mg "Rule" "int"
  «ib_Rule_str» : KIB K mg "Rule" "str"
  «ib_Rule_tuple» : KIB K mg "Rule" "tuple"
  «int» : mg "int" = none
  «io_Account» : KIO K mg "Account"
  «io_Rule» : KIO K mg "Rule"
  «iof_at_least__Rule» : KIF K mg "at_least" "Rule"
  «ioy_Rule__Account» : KIO2 K mg "Rule" "Account"
  «isinstance» : mg "isinstance" = none
  «len» : mg "len" = none
  «list» : mg "list" = none
  «max» : mg "max" = none
  «min» : mg "min" = none
  «p_PipeError_Wrong» : XP1 K mg "PipeError" "Wrong" true
  «p_Wrong_Wrong» : XP1 K mg "Wrong" "Wrong" true
  «range» : mg "range" = none
  «repr» : mg "repr" = none
  «s_NotPassed» : SupD P K mg "NotPassed" "many"
  «s_Overdrawn» : SupD P K mg "Overdrawn" "many"
  «s_Wrong» : SupD P K mg "Wrong" "place"
  «sorted» : mg "sorted" = none
  «str» : mg "str" = none
  «tuple» : mg "tuple" = none
  «v_PipeError» : XV K mg "PipeError"
  «v_Wrong» : XV K mg "Wrong"
  «x_Wrong_place» : KXf K mg "Wrong" "place"
  «xc_Wrong» : XC K mg "Wrong"
section
variable {P : Program} {w : World} {K : PySem.W.Frag} {mg : Str → Option Value} {base : Heap}
theorem t_PipeError (T : Txt P K mg) : XT K mg "PipeError" tab_PipeError := XT.of T.v_PipeError (List.forall_mem_cons.mpr ⟨T.p_PipeError_Wrong, (fun _ h => nomatch h)⟩)
theorem n_Wrong (T : Txt P K mg) : NmX K mg "Wrong" tab_Wrong := NmX.of T.v_Wrong (List.forall_mem_cons.mpr ⟨⟨T.p_Wrong_Wrong, T.xc_Wrong⟩, (fun _ h => nomatch h)⟩)
theorem c_q_alike (T : Txt P K mg) : CalG P w K mg base 1 "_law_alike" (spOf K mg 2 sp_q_alike) [] := T.d_q_alike.calG sc_q_alike (fun f cdv A outer sh H E hg hr => by
      exact ⟨_, (ss_one (s_ret (se_and (sc1 (cm_eq hr.units) (se_var 0) (se_var 1)) (se_one (sc1 (cm_eq hr.units) (se_cb (call_repr hg hr) (fun _ => cb_repr) T.repr (by decide +kernel) (sa_cons (se_var 0) sa_nil)) (se_cb (call_repr hg hr) (fun _ => cb_repr) T.repr (by decide +kernel) (sa_cons (se_var 1) sa_nil)))))))⟩) (fun ds S Φ _ h => law_q_alike ds S Φ h)
theorem c_q_bag (T : Txt P K mg) : C8.Cal P w K mg base 1 "_law_bag" (spOf K mg 1 sp_q_bag) [] := T.d_q_bag.calN sc_q_bag (fun f cdv A outer sh H E hr => by
      exact ⟨_, (ss_one (s_ret (se_lstM (sa_cons se_int (sa_cons se_int (sa_cons se_int (sa_cons (se_lc (own := [("_law_cell", 1)]) rfl (sc_q_bag.nd) (si_list (se_sl (se_var 0) so_none (so_some se_int))) (blkOk_by (own := [("_law_cell", 1)]) (show blkC n_q_bag (C8.fnScope s_q_bag) _ [("_law_cell", 1)] = true by decide +kernel)) (sb_name 1 (by decide) fun _ _ _ _ _ => pg_name (i := 1) (sc_q_bag.nd) rfl (Or.inl rfl)) SF.yes (SX.of (fun _ _ _ _ _ => (se_cb call_abs (fun _ => cb_abs) T.abs (by decide +kernel) (sa_cons (se_var 1) sa_nil))) sh H)) sa_nil)))))))⟩) (fun ds S Φ _ h => law_q_bag ds S Φ h)
theorem c_given_of_n (T : Txt P K mg) : ∀ n : Nat, C8.Cal P w K mg base (0 + n) "given_of" (spOf K mg 2 (sp_given_n n)) []
  | 0 => C8_mono (T.d_given_of.none no_given_of) (by omega)
  | n + 1 => T.d_given_of.cal (k := 0 + n) sc_given_of (fun f cdv A outer sh H E hr => by
      have c_given_of := c_given_of_n T n
      exact ⟨_, (ss_cons (s_asg (se_var 0) (sg_tup rfl (sgs_cons (sg_name 2 (sc_given_of.nd)) (sgs_cons (sg_name 3 (sc_given_of.nd)) (sgs_cons (sg_name 4 (sc_given_of.nd)) sgs_nil))))) (ss_cons (s_if (tc1 (cm_eq hr.units) (se_var 2) se_str) (ss_one (s_ret (se_if (tc1 cm_ge (se_var 1) (se_var 3)) (se_sub (se_var 1) (se_mod (se_var 1) (se_var 4))) se_int))) ss_nil) (ss_cons (s_par' 5 6 rfl (sc_given_of.nd) rfl rfl (by decide) rfl rfl (sa_cons (se_call c_given_of hr (by omega) (fun _ _ => .nil) (sa_cons (se_var 3) (sa_cons (se_var 1) sa_nil))) (sa_cons (se_call c_given_of hr (by omega) (fun _ _ => .nil) (sa_cons (se_var 4) (sa_cons (se_var 1) sa_nil))) sa_nil)) rfl) (ss_one (s_ret (se_if (tc1 (cm_eq hr.units) (se_var 2) se_str) (se_cb ((call_max2 rfl).or (cr_max rfl)) (fun _ => cb_max) T.max (by decide +kernel) (sa_cons (se_var 5) (sa_cons (se_var 6) sa_nil))) (se_cb ((call_min2 rfl).or (cr_min rfl)) (fun _ => cb_min) T.min (by decide +kernel) (sa_cons (se_var 5) (sa_cons (se_var 6) sa_nil)))))))))⟩) (fun ds S Φ _ h => law_given_of n ds S Φ h)
theorem c_given_of (T : Txt P K mg) : C8.Cal P w K mg base 6 "given_of" (spOf K mg 2 sp_given_of) [] := c_given_of_n T 6
theorem cl_Rule (T : Txt P K mg) : CallD P w K mg base 7 "Rule" 2 sp_Rule_call := T.d_Rule_call.cl sc_Rule_call (fun f cdv A outer sh H E hr => by
      have c_given_of := c_given_of (P := P) (w := w) (base := base) T
      exact ⟨_, (ss_one (s_ret (se_call c_given_of hr (by omega) (fun _ _ => .nil) (sa_cons (se_fld T.f_Rule_its_tree (se_var 0)) (sa_cons (se_var 1) sa_nil)))))⟩) (fun ds S Φ _ h => law_Rule_call ds S Φ h)
theorem c_threshold_of_n (T : Txt P K mg) : ∀ n : Nat, C8.Cal P w K mg base (0 + n) "threshold_of" (spOf K mg 1 (sp_threshold_of_n n)) []
  | 0 => C8_mono (T.d_threshold_of.none no_threshold_of) (by omega)
  | n + 1 => T.d_threshold_of.cal (k := 0 + n) sc_threshold_of (fun f cdv A outer sh H E hr => by
      have c_threshold_of := c_threshold_of_n T n
      exact ⟨_, (ss_cons (s_asg (se_var 0) (sg_tup rfl (sgs_cons (sg_name 1 (sc_threshold_of.nd)) (sgs_cons (sg_name 2 (sc_threshold_of.nd)) (sgs_cons (sg_name 3 (sc_threshold_of.nd)) sgs_nil))))) (ss_cons (s_if (tc1 (cm_eq hr.units) (se_var 1) se_str) (ss_one (s_ret (se_cb ((call_max2 rfl).or (cr_max rfl)) (fun _ => cb_max) T.max (by decide +kernel) (sa_cons (se_var 2) (sa_cons (se_var 3) sa_nil))))) ss_nil) (ss_cons (s_par' 4 5 rfl (sc_threshold_of.nd) rfl rfl (by decide) rfl rfl (sa_cons (se_call c_threshold_of hr (by omega) (fun _ _ => .nil) (sa_cons (se_var 2) sa_nil)) (sa_cons (se_call c_threshold_of hr (by omega) (fun _ _ => .nil) (sa_cons (se_var 3) sa_nil)) sa_nil)) rfl) (ss_one (s_ret (se_if (tc1 (cm_eq hr.units) (se_var 1) se_str) (se_cb ((call_min2 rfl).or (cr_min rfl)) (fun _ => cb_min) T.min (by decide +kernel) (sa_cons (se_var 4) (sa_cons (se_var 5) sa_nil))) (se_cb ((call_max2 rfl).or (cr_max rfl)) (fun _ => cb_max) T.max (by decide +kernel) (sa_cons (se_var 4) (sa_cons (se_var 5) sa_nil)))))))))⟩) (fun ds S Φ _ h => law_threshold_of n ds S Φ h)
theorem c_threshold_of (T : Txt P K mg) : C8.Cal P w K mg base 6 "threshold_of" (spOf K mg 1 sp_threshold_of) [] := c_threshold_of_n T 6
theorem p_Rule_threshold (T : Txt P K mg) : PrD P w K mg base 7 "Rule" "threshold" sp_Rule_threshold := T.d_Rule_threshold.pr rfl sc_Rule_threshold (fun f cdv A outer sh H E hr => by
      have c_threshold_of := c_threshold_of (P := P) (w := w) (base := base) T
      exact ⟨_, (ss_one (s_ret (se_call c_threshold_of hr (by omega) (fun _ _ => .nil) (sa_cons (se_fld T.f_Rule_its_tree (se_var 0)) sa_nil))))⟩) (fun ds S Φ _ h => law_Rule_threshold ds S Φ h)
theorem c_repeated (T : Txt P K mg) : C8.Cal P w K mg base 9 "repeated" (spOf K mg 4 sp_repeated) [] := T.d_repeated.calC sc_repeated (fun f cdv A outer sh H E hr => by
      have cl_Rule := cl_Rule (P := P) (w := w) (base := base) T; have p_Rule_threshold := p_Rule_threshold (P := P) (w := w) (base := base) T
      exact ⟨_, (ss_cons (s_asg (se_tup (sa_cons se_int (sa_cons se_int (sa_cons (se_var 1) (sa_cons se_dnew sa_nil))))) (sg_tup rfl (sgs_cons (sg_name 4 (sc_repeated.nd)) (sgs_cons (sg_name 5 (sc_repeated.nd)) (sgs_cons (sg_name 6 (sc_repeated.nd)) (sgs_cons (sg_name 7 (sc_repeated.nd)) sgs_nil)))))) (ss_cons (s_while PassesOwn.never (tc1 cm_lt (se_var 4) (se_var 3)) (ss_cons (s_asg (se_cb ((call_min2 rfl).or (cr_min rfl)) (fun _ => cb_min) T.min (by decide +kernel) (sa_cons (se_sub (se_var 3) (se_var 4)) (sa_cons (se_div (se_sub (se_sub (se_prop p_Rule_threshold hr (by omega) (se_var 0)) se_int) (se_var 1)) (se_var 2)) sa_nil))) (sg_name 8 (sc_repeated.nd))) (ss_cons (s_par' 4 1 rfl (sc_repeated.nd) rfl rfl (by decide) rfl rfl (sa_cons (se_add (se_var 4) (se_var 8)) (sa_cons (se_add (se_var 1) (se_mulA (se_var 8) (se_var 2))) sa_nil)) rfl) (ss_cons (s_if (tc1 (cm_eq hr.units) (se_var 4) (se_var 3)) (ss_one (s_ret (se_tup (sa_cons (se_var 1) (sa_cons (se_var 5) (sa_cons (se_cb ((call_max2 rfl).or (cr_max rfl)) (fun _ => cb_max) T.max (by decide +kernel) (sa_cons (se_var 6) (sa_cons (se_sub (se_var 1) (se_var 2)) sa_nil))) sa_nil)))))) ss_nil) (ss_cons (s_par' 6 9 rfl (sc_repeated.nd) rfl rfl (by decide) rfl rfl (sa_cons (se_cb ((call_max2 rfl).or (cr_max rfl)) (fun _ => cb_max) T.max (by decide +kernel) (sa_cons (se_var 6) (sa_cons (se_var 1) sa_nil))) (sa_cons (se_callO cl_Rule hr (by omega) (se_var 0) (sa_cons (se_add (se_var 1) (se_var 2)) sa_nil)) sa_nil)) rfl) (ss_cons (s_par3 4 5 1 rfl (sc_repeated.nd) rfl rfl rfl (by decide) (by decide) (by decide) rfl rfl rfl (sa_cons (se_add (se_var 4) se_int) (sa_cons (se_add (se_var 5) (se_var 9)) (sa_cons (se_sub (se_add (se_var 1) (se_var 2)) (se_var 9)) sa_nil))) rfl) (ss_one (s_if (tc1 (cm_din hr) (se_var 1) (se_var 7)) (ss_cons (s_asg (se_dix hr (se_var 7) (se_var 1)) (sg_tup rfl (sgs_cons (sg_name 10 (sc_repeated.nd)) (sgs_cons (sg_name 11 (sc_repeated.nd)) sgs_nil)))) (ss_cons (s_asg (se_div (se_sub (se_var 3) (se_var 4)) (se_sub (se_var 4) (se_var 10))) (sg_name 12 (sc_repeated.nd))) (ss_cons (s_asg (se_add (se_var 5) (se_mulA (se_var 12) (se_sub (se_var 5) (se_var 11)))) (sg_name 5 (sc_repeated.nd))) (ss_one (s_par' 4 7 rfl (sc_repeated.nd) rfl rfl (by decide) rfl rfl (sa_cons (se_add (se_var 4) (se_mulA (se_var 12) (se_sub (se_var 4) (se_var 10)))) (sa_cons se_dnew sa_nil)) rfl))))) (ss_one (s_dput hr (se_var 7) (se_var 1) (se_tup (sa_cons (se_var 4) (sa_cons (se_var 5) sa_nil))))))))))))) (ss_one (s_ret (se_tup (sa_cons (se_var 1) (sa_cons (se_var 5) (sa_cons (se_var 6) sa_nil))))))))⟩) (fun ds S Φ _ h => law_repeated ds S Φ h)
theorem mdx_Account_passes (T : Txt P K mg) : MDX P w K mg base 10 "Account" "passes" 3 spx_Account_passes [] := T.d_Account_passes.mdX sc_Account_passes (fun f cdv A outer sh H E Ψ hr tk hp => by
      have c_repeated := c_repeated (P := P) (w := w) (base := base) T
      exact ⟨_, (ss_cons (s_if (tc1 cm_gt (se_mulA (se_var 1) (se_var 2)) (se_fld T.f_Account_its_unpassed (se_var 0))) (ss_one (s_raise T.s_NotPassed rfl tk hr (by omega) (se_mulA (se_var 1) (se_var 2)))) ss_nil) (ss_cons (s_asg (se_call c_repeated hr (by omega) (fun _ _ => .nil) (sa_cons (se_fld T.f_Account_its_rule (se_var 0)) (sa_cons (se_fld T.f_Account_its_withheld (se_var 0)) (sa_cons (se_var 1) (sa_cons (se_var 2) sa_nil))))) (sg_tup rfl (sgs_cons (sg_name 3 (sc_Account_passes.nd)) (sgs_cons (sg_name 4 (sc_Account_passes.nd)) (sgs_cons (sg_name 5 (sc_Account_passes.nd)) sgs_nil))))) (ss_cons (s_augA in_subI T.f_Account_its_unpassed (se_var 0) (se_mulA (se_var 1) (se_var 2))) (ss_cons (s_setA T.f_Account_its_withheld (se_var 0) (se_var 3)) (ss_one (s_ret (se_var 4)))))))⟩) (fun ds S Φ Ψ _ h => lawx_Account_passes ds S Φ Ψ h)
theorem iox_Account_iadd (T : Txt P K mg) : InOX P w K mg base 11 "Account" .Add spx_Account_iadd := T.d_Account_iadd.inX rfl sc_Account_iadd (fun f cdv A outer sh H E Ψ hr tk hp => by
      have mdx_Account_passes := mdx_Account_passes (P := P) (w := w) (base := base) T
      exact ⟨_, (ss_cons (s_expr (se_methX mdx_Account_passes hr (by omega) tk (fun _ _ => .nil) (se_var 0) (sa_cons (se_var 1) (sa_cons se_int sa_nil)))) (ss_one (s_ret (se_var 0))))⟩) (fun ds S Φ Ψ _ h => lawx_Account_iadd ds S Φ Ψ h)
theorem p_Account_left (T : Txt P K mg) : PrD P w K mg base 1 "Account" "left" sp_Account_left := T.d_Account_left.pr rfl sc_Account_left (fun f cdv A outer sh H E hr => by
      exact ⟨_, (ss_one (s_ret (se_sub (se_sub (se_fld T.f_Account_its_credit (se_var 0)) (se_fld T.f_Account_its_unpassed (se_var 0))) (se_fld T.f_Account_its_withheld (se_var 0)))))⟩) (fun ds S Φ _ h => law_Account_left ds S Φ h)
theorem iox_Account_isub (T : Txt P K mg) : InOX P w K mg base 3 "Account" .Sub spx_Account_isub := T.d_Account_isub.inX rfl sc_Account_isub (fun f cdv A outer sh H E Ψ hr tk hp => by
      have p_Account_left := p_Account_left (P := P) (w := w) (base := base) T
      exact ⟨_, (ss_cons (s_if (tc1 cm_gt (se_var 1) (se_prop p_Account_left hr (by omega) (se_var 0))) (ss_one (s_raise T.s_Overdrawn rfl tk hr (by omega) (se_var 1))) ss_nil) (ss_cons (s_augA in_addI T.f_Account_its_unpassed (se_var 0) (se_var 1)) (ss_one (s_ret (se_var 0)))))⟩) (fun ds S Φ Ψ _ h => lawx_Account_isub ds S Φ Ψ h)
theorem c_is_integer (T : Txt P K mg) : C8.Cal P w K mg base 1 "is_integer" (spOf K mg 1 sp_is_integer) [] := T.d_is_integer.cal sc_is_integer (fun f cdv A outer sh H E hr => by
      exact ⟨_, (ss_one (s_ret (se_and (se_isB (T := "int") T.ib_Rule_int T.isinstance T.int (by decide) (by decide +kernel) (se_var 0)) (se_one (se_not (se_isB (T := "bool") T.ib_Rule_bool T.isinstance T.bool (by decide) (by decide +kernel) (se_var 0)))))))⟩) (fun ds S Φ _ h => law_is_integer ds S Φ h)
theorem c_is_number (T : Txt P K mg) : C8.Cal P w K mg base 2 "is_number" (spOf K mg 2 sp_is_number) [] := T.d_is_number.cal sc_is_number (fun f cdv A outer sh H E hr => by
      have c_is_integer := c_is_integer (P := P) (w := w) (base := base) T
      exact ⟨_, (ss_one (s_ret (se_and (se_call c_is_integer hr (by omega) (fun _ _ => .nil) (sa_cons (se_var 1) sa_nil)) (se_one (sc1 cm_ge (se_var 1) (se_var 0))))))⟩) (fun ds S Φ _ h => law_is_number ds S Φ h)
theorem m_Account (T : Txt P K mg) : MkD P w K mg base 3 "Account" 3 sp_Account_init [] := T.d_Account_init.made sc_Account_init (fun f cdv A outer sh H E hr => by
      have c_is_number := c_is_number (P := P) (w := w) (base := base) T
      exact ⟨_, (ss_cons (s_if (tt_not (tt_val (se_call c_is_number hr (by omega) (fun _ _ => .nil) (sa_cons se_int (sa_cons (se_var 1) sa_nil))))) (ss_one s_never) ss_nil) (ss_cons (s_if (tt_not (tt_val (se_isO T.io_Rule T.isinstance (se_var 2)))) (ss_one s_never) ss_nil) (ss_cons (s_setA T.f_Account_its_credit (se_var 0) (se_var 1)) (ss_cons (s_setA T.f_Account_its_rule (se_var 0) (se_var 2)) (ss_cons (s_setA T.f_Account_its_unpassed (se_var 0) se_int) (ss_one (s_setA T.f_Account_its_withheld (se_var 0) se_int)))))))⟩) (fun ds S Φ _ h => law_Account_init ds S Φ h)
theorem mx_Account (T : Txt P K mg) : MkX P w K mg base 3 "Account" 3 spx_Account_init [] := T.d_Account_init.madeX sc_Account_init (fun f cdv A outer sh H E Ψ hr tk hp => by
      have c_is_number := c_is_number (P := P) (w := w) (base := base) T
      exact ⟨_, (ss_cons (s_if (tt_not (tt_val (se_call c_is_number hr (by omega) (fun _ _ => .nil) (sa_cons se_int (sa_cons (se_var 1) sa_nil))))) (ss_one (s_raise T.s_Wrong rfl tk hr (by omega) se_int)) ss_nil) (ss_cons (s_if (tt_not (tt_val (se_isOx T.io_Rule (List.forall_mem_cons.mpr ⟨T.iof_at_least__Rule, (fun _ h => nomatch h)⟩) (fun _ h => nomatch h) T.isinstance (se_var 2)))) (ss_one (s_raise T.s_Wrong rfl tk hr (by omega) se_int)) ss_nil) (ss_cons (s_setA T.f_Account_its_credit (se_var 0) (se_var 1)) (ss_cons (s_setA T.f_Account_its_rule (se_var 0) (se_var 2)) (ss_cons (s_setA T.f_Account_its_unpassed (se_var 0) se_int) (ss_one (s_setA T.f_Account_its_withheld (se_var 0) se_int)))))))⟩) (fun ds S Φ Ψ _ h => lawx_Account_init ds S Φ Ψ h)
theorem md_Account_lets_flow (T : Txt P K mg) : MD P w K mg base 10 "Account" "lets_flow" 3 sp_Account_lets_flow [] := T.d_Account_lets_flow.md sc_Account_lets_flow (fun f cdv A outer sh H E hr => by
      have c_repeated := c_repeated (P := P) (w := w) (base := base) T
      exact ⟨_, (ss_cons (s_asg (se_call c_repeated hr (by omega) (fun _ _ => .nil) (sa_cons (se_fld T.f_Account_its_rule (se_var 0)) (sa_cons (se_fld T.f_Account_its_withheld (se_var 0)) (sa_cons (se_var 1) (sa_cons (se_var 2) sa_nil))))) (sg_tup rfl (sgs_cons (sg_name 3 (sc_Account_lets_flow.nd)) (sgs_cons (sg_name 4 (sc_Account_lets_flow.nd)) (sgs_cons (sg_name 5 (sc_Account_lets_flow.nd)) sgs_nil))))) (ss_one (s_ret (sc1 cm_le (se_add (se_add (se_var 5) (se_fld T.f_Account_its_unpassed (se_var 0))) (se_var 1)) (se_fld T.f_Account_its_credit (se_var 0))))))⟩) (fun ds S Φ _ h => law_Account_lets_flow ds S Φ h)
theorem mdx_Account_flows (T : Txt P K mg) : MDX P w K mg base 11 "Account" "flows" 3 spx_Account_flows [] := T.d_Account_flows.mdX sc_Account_flows (fun f cdv A outer sh H E Ψ hr tk hp => by
      have c_repeated := c_repeated (P := P) (w := w) (base := base) T; have md_Account_lets_flow := md_Account_lets_flow (P := P) (w := w) (base := base) T
      exact ⟨_, (ss_cons (s_if (tt_not (tt_val (se_meth md_Account_lets_flow hr (by omega) (fun _ _ => .nil) (se_var 0) (sa_cons (se_var 1) (sa_cons (se_var 2) sa_nil))))) (ss_one (s_raise T.s_Overdrawn rfl tk hr (by omega) (se_var 1))) ss_nil) (ss_cons (s_asg (se_call c_repeated hr (by omega) (fun _ _ => .nil) (sa_cons (se_fld T.f_Account_its_rule (se_var 0)) (sa_cons (se_fld T.f_Account_its_withheld (se_var 0)) (sa_cons (se_var 1) (sa_cons (se_var 2) sa_nil))))) (sg_tup rfl (sgs_cons (sg_name 3 (sc_Account_flows.nd)) (sgs_cons (sg_name 4 (sc_Account_flows.nd)) (sgs_cons (sg_name 5 (sc_Account_flows.nd)) sgs_nil))))) (ss_cons (s_setA T.f_Account_its_withheld (se_var 0) (se_var 3)) (ss_one (s_ret (se_var 4))))))⟩) (fun ds S Φ Ψ _ h => lawx_Account_flows ds S Φ Ψ h)
theorem md_Account_flows (T : Txt P K mg) : MD P w K mg base 11 "Account" "flows" 3 sp_Account_flows [] := (mdx_Account_flows (P := P) (w := w) (base := base) T).low (fun _ _ _ h => h)
theorem c_q_brought (T : Txt P K mg) : C8.Cal P w K mg base 13 "_law_brought" (spOf K mg 5 sp_q_brought) [] := T.d_q_brought.cal sc_q_brought (fun f cdv A outer sh H E hr => by
      have iox_Account_iadd := iox_Account_iadd (P := P) (w := w) (base := base) T; have iox_Account_isub := iox_Account_isub (P := P) (w := w) (base := base) T; have m_Account := m_Account (P := P) (w := w) (base := base) T; have md_Account_flows := md_Account_flows (P := P) (w := w) (base := base) T
      exact ⟨_, (ss_cons (s_asg (se_makeM m_Account hr (by omega) (fun _ _ => .nil) (sa_cons (se_var 0) (sa_cons (se_var 1) sa_nil))) (sg_name 5 (sc_q_brought.nd))) (ss_cons (s_if (SW.st (sw_and (tt_val (se_var 4)) (sw_one1 (tc1 cm_gt (se_var 3) se_int)))) (ss_one (s_expr (se_meth md_Account_flows hr (by omega) (fun _ _ => .nil) (se_var 5) (sa_cons se_int (sa_cons (se_var 3) sa_nil))))) (ss_one (s_if (tc1 cm_gt (se_var 3) se_int) (ss_cons (s_augO 5 (sc_q_brought.nd) iox_Account_isub hr (by omega) takes_zero (se_var 3)) (ss_one (s_augO 5 (sc_q_brought.nd) iox_Account_iadd hr (by omega) takes_zero (se_var 3)))) ss_nil))) (ss_cons (s_if (tc1 cm_gt (se_var 2) se_int) (ss_one (s_augO 5 (sc_q_brought.nd) iox_Account_isub hr (by omega) takes_zero (se_var 2))) ss_nil) (ss_one (s_ret (se_var 5))))))⟩) (fun ds S Φ _ h => law_q_brought ds S Φ h)
theorem c_q_take (T : Txt P K mg) : C8.Cal P w K mg base 1 "_law_take" (spOf K mg 2 sp_q_take) [] := T.d_q_take.calB sc_q_take (fun f cdv A outer sh H E hr => by
      exact ⟨_, (ss_cons (s_if (tc1 (cm_eq hr.units) (se_ix (se_var 0) se_int) se_int) (ss_cons (s_asg se_int (sg_name 2 (sc_q_take.nd))) (ss_cons (s_if (tc1 cm_lt (se_ix (se_var 0) se_int) (se_cb call_len (fun _ => cb_len) T.len PySem.boot_len (sa_cons (se_ix (se_var 0) se_int) sa_nil))) (ss_one (s_asg (se_ix (se_ix (se_var 0) se_int) (se_ix (se_var 0) se_int)) (sg_name 2 (sc_q_take.nd)))) ss_nil) (ss_cons (s_augL' ip_add (se_var 0) se_int se_int) (ss_cons (s_if (tc1 cm_ge (se_var 2) se_int) (ss_one (s_asg (se_var 2) (sg_subL (se_var 0) se_int))) ss_nil) (ss_cons (s_asg (se_add (se_add (se_mulA (se_ix (se_var 0) se_int) se_int) (se_mod (se_cty (call_int1.or call_int_str) (fun _ => cb_int) T.int (by decide +kernel) (sa_cons (se_var 2) sa_nil)) se_int)) (se_mulA se_int (se_ix (se_var 0) se_int))) (sg_name 3 (sc_q_take.nd))) (ss_one (s_asg (se_mod (se_cty (call_int1.or call_int_str) (fun _ => cb_int) T.int (by decide +kernel) (sa_cons (se_var 3) sa_nil)) se_int) (sg_subL (se_var 0) se_int)))))))) ss_nil) (ss_cons (s_if (tc1 cm_gt (se_ix (se_var 0) se_int) se_int) (ss_cons (s_asg (se_mod (se_cty (call_int1.or call_int_str) (fun _ => cb_int) T.int (by decide +kernel) (sa_cons (se_ix (se_var 0) se_int) sa_nil)) (se_var 1)) (sg_name 4 (sc_q_take.nd))) (ss_cons (s_asg (se_div (se_ix (se_var 0) se_int) (se_var 1)) (sg_subL (se_var 0) se_int)) (ss_one (s_ret (se_var 4))))) ss_nil) (ss_cons (s_asg (se_mod (se_cty (call_int1.or call_int_str) (fun _ => cb_int) T.int (by decide +kernel) (sa_cons (se_mulA (se_add (se_ix (se_var 0) se_int) se_int) se_int) sa_nil)) se_int) (sg_name 5 (sc_q_take.nd))) (ss_cons (s_asg (se_mod (se_cty (call_int1.or call_int_str) (fun _ => cb_int) T.int (by decide +kernel) (sa_cons (se_mulA (se_mod (se_cty (call_int1.or call_int_str) (fun _ => cb_int) T.int (by decide +kernel) (sa_cons (se_mulA (se_var 5) (se_var 5)) sa_nil)) se_int) se_int) sa_nil)) se_int) (sg_name 6 (sc_q_take.nd))) (ss_cons (s_if (tc1 cm_gt (se_var 1) se_int) (ss_one (s_ret (se_mod (se_cty (call_int1.or call_int_str) (fun _ => cb_int) T.int (by decide +kernel) (sa_cons (se_add (se_mulA (se_var 6) se_int) (se_var 5)) sa_nil)) (se_var 1)))) ss_nil) (ss_one (s_ret (se_mod (se_cty (call_int1.or call_int_str) (fun _ => cb_int) T.int (by decide +kernel) (sa_cons (se_div (se_var 6) se_int) sa_nil)) (se_var 1)))))))))⟩) (fun ds S Φ _ h => law_q_take ds S Φ h)
theorem c_q_draw_size (T : Txt P K mg) : C8.Cal P w K mg base 2 "_law_draw_size" (spOf K mg 3 sp_q_draw_size) [] := T.d_q_draw_size.cal sc_q_draw_size (fun f cdv A outer sh H E hr => by
      have c_q_take := c_q_take (P := P) (w := w) (base := base) T
      exact ⟨_, (ss_one (s_ret (se_mulA (se_add se_int (se_call c_q_take hr (by omega) (fun _ _ => .nil) (sa_cons (se_var 0) (sa_cons (se_var 1) sa_nil)))) (se_ix (se_lst (sa_cons se_int (sa_cons (se_var 2) sa_nil))) (se_call c_q_take hr (by omega) (fun _ _ => .nil) (sa_cons (se_var 0) (sa_cons se_int sa_nil)))))))⟩) (fun ds S Φ _ h => law_q_draw_size ds S Φ h)
theorem c_q_draw_tree_n (T : Txt P K mg) : ∀ n : Nat, C8.Cal P w K mg base (2 + n) "_law_draw_tree" (spOf K mg 4 (sp_q_draw_tree_n n)) []
  | 0 => C8_mono (T.d_q_draw_tree.none no_q_draw_tree) (by omega)
  | n + 1 => T.d_q_draw_tree.cal (k := 2 + n) sc_q_draw_tree (fun f cdv A outer sh H E hr => by
      have c_q_draw_tree := c_q_draw_tree_n T n
      have c_q_draw_size := c_q_draw_size (P := P) (w := w) (base := base) T; have c_q_take := c_q_take (P := P) (w := w) (base := base) T
      exact ⟨_, (ss_cons (s_asg (se_call c_q_take hr (by omega) (fun _ _ => .nil) (sa_cons (se_var 0) (sa_cons se_int sa_nil))) (sg_name 4 (sc_q_draw_tree.nd))) (ss_cons (s_if (SW.st (sw_or (tc1 (cm_eq hr.units) (se_var 3) se_int) (sw_one2 (tc1 cm_lt (se_var 4) se_int)))) (ss_one (s_ret (se_tup (sa_cons se_str (sa_cons (se_call c_q_draw_size hr (by omega) (fun _ _ => .nil) (sa_cons (se_var 0) (sa_cons (se_var 1) (sa_cons (se_var 2) sa_nil)))) (sa_cons (se_add se_int (se_call c_q_take hr (by omega) (fun _ _ => .nil) (sa_cons (se_var 0) (sa_cons se_int sa_nil)))) sa_nil)))))) ss_nil) (ss_cons (s_asg (se_lc (own := [("_law_k", 7)]) rfl (sc_q_draw_tree.nd) (si_rng1 T.range (sa_cons se_int sa_nil)) (blkOk_by (own := [("_law_k", 7)]) (show blkC n_q_draw_tree (C8.fnScope s_q_draw_tree) _ [("_law_k", 7)] = true by decide +kernel)) (sb_name 7 (by decide) fun _ _ _ _ _ => pg_name (i := 7) (sc_q_draw_tree.nd) rfl (Or.inl rfl)) SF.yes (SX.of (fun _ _ _ _ _ => (se_call c_q_draw_tree hr (by omega) (fun _ _ => .nil) (sa_cons (se_var 0) (sa_cons (se_var 1) (sa_cons (se_var 2) (sa_cons (se_sub (se_var 3) se_int) sa_nil)))))) sh H)) (sg_tupL rfl (sgs_cons (sg_name 5 (sc_q_draw_tree.nd)) (sgs_cons (sg_name 6 (sc_q_draw_tree.nd)) sgs_nil)))) (ss_one (s_ret (se_tup (sa_cons (se_ix (se_lst (sa_cons se_str (sa_cons se_str sa_nil))) (se_sub (se_var 4) se_int)) (sa_cons (se_var 5) (sa_cons (se_var 6) sa_nil)))))))))⟩) (fun ds S Φ _ h => law_q_draw_tree n ds S Φ h)
theorem c_q_draw_tree (T : Txt P K mg) : C8.Cal P w K mg base 5 "_law_draw_tree" (spOf K mg 4 sp_q_draw_tree) [] := c_q_draw_tree_n T 3
theorem c_q_give_n (T : Txt P K mg) : ∀ n : Nat, C8.Cal P w K mg base (0 + n) "_law_give" (spOf K mg 2 (sp_q_give_n n)) []
  | 0 => C8_mono (T.d_q_give.none no_q_give) (by omega)
  | n + 1 => T.d_q_give.cal (k := 0 + n) sc_q_give (fun f cdv A outer sh H E hr => by
      have c_q_give := c_q_give_n T n
      exact ⟨_, (ss_cons (s_asg (se_var 0) (sg_tup rfl (sgs_cons (sg_name 2 (sc_q_give.nd)) (sgs_cons (sg_name 3 (sc_q_give.nd)) (sgs_cons (sg_name 4 (sc_q_give.nd)) sgs_nil))))) (ss_cons (s_if (tc1 (cm_eq hr.units) (se_var 2) se_str) (ss_one (s_ret (se_if (tc1 cm_ge (se_var 1) (se_var 3)) (se_sub (se_var 1) (se_mod (se_cty (call_int1.or call_int_str) (fun _ => cb_int) T.int (by decide +kernel) (sa_cons (se_var 1) sa_nil)) (se_var 4))) se_int))) ss_nil) (ss_cons (s_asg (se_lst (sa_cons (se_call c_q_give hr (by omega) (fun _ _ => .nil) (sa_cons (se_var 3) (sa_cons (se_var 1) sa_nil))) (sa_cons (se_call c_q_give hr (by omega) (fun _ _ => .nil) (sa_cons (se_var 4) (sa_cons (se_var 1) sa_nil))) sa_nil))) (sg_name 5 (sc_q_give.nd))) (ss_one (s_ret (se_if (tc1 (cm_eq hr.units) (se_var 2) se_str) (se_cb ((call_max2 rfl).or (cr_max rfl)) (fun _ => cb_max) T.max (by decide +kernel) (sa_cons (se_var 5) sa_nil)) (se_cb ((call_min2 rfl).or (cr_min rfl)) (fun _ => cb_min) T.min (by decide +kernel) (sa_cons (se_var 5) sa_nil))))))))⟩) (fun ds S Φ _ h => law_q_give n ds S Φ h)
theorem c_q_give (T : Txt P K mg) : C8.Cal P w K mg base 6 "_law_give" (spOf K mg 2 sp_q_give) [] := c_q_give_n T 6
theorem c_q_refused (T : Txt P K mg) : C8.Cal P w K mg base 5 "_law_refused" (spOf K mg 2 sp_q_refused) [] := T.d_q_refused.cal sc_q_refused (fun f cdv A outer sh H E hr => by
      have mx_Account := mx_Account (P := P) (w := w) (base := base) T
      exact ⟨_, (ss_cons (s_tryAs 2 rfl rfl (sc_q_refused.nd) (t_PipeError T) takes_zero (fun _ Ψ1 pn xe tk hp => ⟨_, (ss_one (s_expr (se_makeMX mx_Account hr (by omega) tk (fun _ _ => .nil) (sa_cons (se_var 0) (sa_cons (se_var 1) sa_nil)))))⟩) (fun a pn => ⟨_, (ss_one (s_ret (se_if (tt_val (se_isX (n_Wrong T) T.isinstance (se_var 2))) (se_xf (List.forall_mem_cons.mpr ⟨T.x_Wrong_place, (fun _ h => nomatch h)⟩) (se_var 2)) se_str)))⟩)) (ss_one (s_ret se_non)))⟩) (fun ds S Φ _ h => law_q_refused ds S Φ h)
theorem c_q_threshold_n (T : Txt P K mg) : ∀ n : Nat, C8.Cal P w K mg base (0 + n) "_law_threshold" (spOf K mg 1 (sp_q_threshold_n n)) []
  | 0 => C8_mono (T.d_q_threshold.none no_q_threshold) (by omega)
  | n + 1 => T.d_q_threshold.cal (k := 0 + n) sc_q_threshold (fun f cdv A outer sh H E hr => by
      have c_q_threshold := c_q_threshold_n T n
      exact ⟨_, (ss_cons (s_asg (se_var 0) (sg_tup rfl (sgs_cons (sg_name 1 (sc_q_threshold.nd)) (sgs_cons (sg_name 2 (sc_q_threshold.nd)) (sgs_cons (sg_name 3 (sc_q_threshold.nd)) sgs_nil))))) (ss_cons (s_if (tc1 (cm_eq hr.units) (se_var 1) se_str) (ss_one (s_ret (se_cb ((call_max2 rfl).or (cr_max rfl)) (fun _ => cb_max) T.max (by decide +kernel) (sa_cons (se_var 2) (sa_cons (se_var 3) sa_nil))))) ss_nil) (ss_cons (s_asg (se_lst (sa_cons (se_call c_q_threshold hr (by omega) (fun _ _ => .nil) (sa_cons (se_var 2) sa_nil)) (sa_cons (se_call c_q_threshold hr (by omega) (fun _ _ => .nil) (sa_cons (se_var 3) sa_nil)) sa_nil))) (sg_name 4 (sc_q_threshold.nd))) (ss_one (s_ret (se_if (tc1 (cm_eq hr.units) (se_var 1) se_str) (se_cb ((call_min2 rfl).or (cr_min rfl)) (fun _ => cb_min) T.min (by decide +kernel) (sa_cons (se_var 4) sa_nil)) (se_cb ((call_max2 rfl).or (cr_max rfl)) (fun _ => cb_max) T.max (by decide +kernel) (sa_cons (se_var 4) sa_nil))))))))⟩) (fun ds S Φ _ h => law_q_threshold n ds S Φ h)
theorem c_q_threshold (T : Txt P K mg) : C8.Cal P w K mg base 6 "_law_threshold" (spOf K mg 1 sp_q_threshold) [] := c_q_threshold_n T 6
theorem c_atoms_of_n (T : Txt P K mg) : ∀ n : Nat, C8.Cal P w K mg base (0 + n) "atoms_of" (spOf K mg 1 (sp_atoms_n n)) []
  | 0 => C8_mono (T.d_atoms_of.none no_atoms_of) (by omega)
  | n + 1 => T.d_atoms_of.cal (k := 0 + n) sc_atoms_of (fun f cdv A outer sh H E hr => by
      have c_atoms_of := c_atoms_of_n T n
      exact ⟨_, (ss_one (s_ret (se_if (tc1 (cm_eq hr.units) (se_ix (se_var 0) se_int) se_str) (se_lst (sa_cons (se_var 0) sa_nil)) (se_add (se_call c_atoms_of hr (by omega) (fun _ _ => .nil) (sa_cons (se_ix (se_var 0) se_int) sa_nil)) (se_call c_atoms_of hr (by omega) (fun _ _ => .nil) (sa_cons (se_ix (se_var 0) se_int) sa_nil))))))⟩) (fun ds S Φ _ h => law_atoms_of n ds S Φ h)
theorem c_atoms_of (T : Txt P K mg) : C8.Cal P w K mg base 6 "atoms_of" (spOf K mg 1 sp_atoms_of) [] := c_atoms_of_n T 6
theorem c_is_shape_n (T : Txt P K mg) : ∀ n : Nat, C8.Cal P w K mg base (2 + n) "is_shape" (spOf K mg 1 (sp_is_shape_n n)) []
  | 0 => C8_mono (T.d_is_shape.none no_is_shape) (by omega)
  | n + 1 => T.d_is_shape.cal (k := 2 + n) sc_is_shape (fun f cdv A outer sh H E hr => by
      have c_is_shape := c_is_shape_n T n
      have c_is_number := c_is_number (P := P) (w := w) (base := base) T
      exact ⟨_, (ss_cons (s_if (SW.st (sw_or (tt_not (tt_val (se_isB (T := "tuple") T.ib_Rule_tuple T.isinstance T.tuple (by decide) (by decide +kernel) (se_var 0)))) (sw_or (tc1 (cm_ne hr.units) (se_cb call_len (fun _ => cb_len) T.len PySem.boot_len (sa_cons (se_var 0) sa_nil)) se_int) (sw_one2 (tt_not (tt_val (se_isB (T := "str") T.ib_Rule_str T.isinstance T.str (by decide) (by decide +kernel) (se_ix (se_var 0) se_int)))))))) (ss_one (s_ret se_bl)) ss_nil) (ss_cons (s_if (tc1 cm_in (se_ix (se_var 0) se_int) (se_glob T.g_JOINS)) (ss_one (s_ret (se_and (se_call c_is_shape hr (by omega) (fun _ _ => .nil) (sa_cons (se_ix (se_var 0) se_int) sa_nil)) (se_one (se_call c_is_shape hr (by omega) (fun _ _ => .nil) (sa_cons (se_ix (se_var 0) se_int) sa_nil)))))) ss_nil) (ss_one (s_ret (se_and (sc1 (cm_eq hr.units) (se_ix (se_var 0) se_int) se_str) (se_and (se_call c_is_number hr (by omega) (fun _ _ => .nil) (sa_cons se_int (sa_cons (se_ix (se_var 0) se_int) sa_nil))) (se_and (se_call c_is_number hr (by omega) (fun _ _ => .nil) (sa_cons se_int (sa_cons (se_ix (se_var 0) se_int) sa_nil))) (se_one (sc1 cm_le (se_ix (se_var 0) se_int) (se_glob T.g_MOST_BY))))))))))⟩) (fun ds S Φ _ h => law_is_shape n ds S Φ h)
theorem c_is_shape (T : Txt P K mg) : C8.Cal P w K mg base 8 "is_shape" (spOf K mg 1 sp_is_shape) [] := c_is_shape_n T 6
theorem c_is_tree (T : Txt P K mg) : C8.Cal P w K mg base 9 "is_tree" (spOf K mg 1 sp_is_tree) [] := T.d_is_tree.cal sc_is_tree (fun f cdv A outer sh H E hr => by
      have c_atoms_of := c_atoms_of (P := P) (w := w) (base := base) T; have c_is_shape := c_is_shape (P := P) (w := w) (base := base) T
      exact ⟨_, (ss_one (s_ret (se_and (se_call c_is_shape hr (by omega) (fun _ _ => .nil) (sa_cons (se_var 0) sa_nil)) (se_one (sc1 cm_le (se_cb call_len (fun _ => cb_len) T.len PySem.boot_len (sa_cons (se_call c_atoms_of hr (by omega) (fun _ _ => .nil) (sa_cons (se_var 0) sa_nil)) sa_nil)) (se_glob T.g_MOST_ATOMS))))))⟩) (fun ds S Φ _ h => law_is_tree ds S Φ h)
theorem m_Rule (T : Txt P K mg) : MkD P w K mg base 10 "Rule" 2 sp_Rule_init [] := T.d_Rule_init.made sc_Rule_init (fun f cdv A outer sh H E hr => by
      have c_is_tree := c_is_tree (P := P) (w := w) (base := base) T
      exact ⟨_, (ss_cons (s_if (tt_not (tt_val (se_call c_is_tree hr (by omega) (fun _ _ => .nil) (sa_cons (se_var 1) sa_nil)))) (ss_one s_never) ss_nil) (ss_one (s_setA T.f_Rule_its_tree (se_var 0) (se_var 1))))⟩) (fun ds S Φ _ h => law_Rule_init ds S Φ h)
theorem md_Account_copied (T : Txt P K mg) : MD P w K mg base 5 "Account" "copied" 1 sp_Account_copied [] := T.d_Account_copied.md sc_Account_copied (fun f cdv A outer sh H E hr => by
      have m_Account := m_Account (P := P) (w := w) (base := base) T
      exact ⟨_, (ss_cons (s_asg (se_makeM m_Account hr (by omega) (fun _ _ => .nil) (sa_cons (se_fld T.f_Account_its_credit (se_var 0)) (sa_cons (se_fld T.f_Account_its_rule (se_var 0)) sa_nil))) (sg_name 1 (sc_Account_copied.nd))) (ss_cons (s_setA T.f_Account_its_unpassed (se_var 1) (se_fld T.f_Account_its_unpassed (se_var 0))) (ss_cons (s_setA T.f_Account_its_withheld (se_var 1) (se_fld T.f_Account_its_withheld (se_var 0))) (ss_one (s_ret (se_var 1))))))⟩) (fun ds S Φ _ h => law_Account_copied ds S Φ h)
theorem c_telling_amounts (T : Txt P K mg) : C8.Cal P w K mg base 7 "telling_amounts" (spOf K mg 2 sp_telling_amounts) [] := T.d_telling_amounts.calR sc_telling_amounts (fun f cdv A outer sh H E hr => by
      have c_atoms_of := c_atoms_of (P := P) (w := w) (base := base) T; have c_threshold_of := c_threshold_of (P := P) (w := w) (base := base) T
      exact ⟨_, (ss_cons (s_asg (se_lstM sa_nil) (sg_name 2 (sc_telling_amounts.nd))) (ss_cons (s_asg (se_sortSC (own := [("atom", 4)]) rfl (sc_telling_amounts.nd) T.sorted (si_list (se_add (se_call c_atoms_of hr (by omega) (fun _ _ => .nil) (sa_cons (se_var 0) sa_nil)) (se_call c_atoms_of hr (by omega) (fun _ _ => .nil) (sa_cons (se_var 1) sa_nil)))) (blkOk_by (own := [("atom", 4)]) (show blkC n_telling_amounts (C8.fnScope s_telling_amounts) _ [("atom", 4)] = true by decide +kernel)) (sb_name 4 (by decide) fun _ _ _ _ _ => pg_name (i := 4) (sc_telling_amounts.nd) rfl (Or.inl rfl)) SF.yes (SX.of (fun _ _ _ _ _ => (se_call c_threshold_of hr (by omega) (fun _ _ => .nil) (sa_cons (se_var 4) sa_nil))) sh H)) (sg_name 3 (sc_telling_amounts.nd))) (ss_cons (s_for PassesOwn.never rfl (si_enum T.enumerate (se_var 3)) (sg_tup rfl (sgs_cons (sg_name 5 (sc_telling_amounts.nd)) (sgs_cons (sg_name 6 (sc_telling_amounts.nd)) sgs_nil))) (ss_cons (s_asg (se_if (tc1 (cm_eq hr.units) (se_add (se_var 5) se_int) (se_cb call_len (fun _ => cb_len) T.len PySem.boot_len (sa_cons (se_var 3) sa_nil))) (se_add (se_var 6) (se_glob T.g_ROUND)) (se_cb ((call_min2 rfl).or (cr_min rfl)) (fun _ => cb_min) T.min (by decide +kernel) (sa_cons (se_add (se_var 6) (se_glob T.g_ROUND)) (sa_cons (se_ix (se_var 3) (se_add (se_var 5) se_int)) sa_nil)))) (sg_name 7 (sc_telling_amounts.nd))) (ss_one (s_expr (se_ext (se_var 2) (se_listR2 rfl T.list T.range (se_var 6) (se_var 7))))))) (ss_one (s_ret (se_var 2))))))⟩) (fun ds S Φ _ h => law_telling_amounts ds S Φ h)
theorem c_first_apart (T : Txt P K mg) : C8.Cal P w K mg base 8 "first_apart" (spOf K mg 2 sp_first_apart) [] := T.d_first_apart.cal sc_first_apart (fun f cdv A outer sh H E hr => by
      have c_given_of := c_given_of (P := P) (w := w) (base := base) T; have c_telling_amounts := c_telling_amounts (P := P) (w := w) (base := base) T
      exact ⟨_, (ss_cons (s_for PassesOwn.never rfl (si_list (se_call c_telling_amounts hr (by omega) (fun _ _ => .nil) (sa_cons (se_var 0) (sa_cons (se_var 1) sa_nil)))) (sg_name 2 (sc_first_apart.nd)) (ss_one (s_if (tc1 (cm_ne hr.units) (se_call c_given_of hr (by omega) (fun _ _ => .nil) (sa_cons (se_var 0) (sa_cons (se_var 2) sa_nil))) (se_call c_given_of hr (by omega) (fun _ _ => .nil) (sa_cons (se_var 1) (sa_cons (se_var 2) sa_nil)))) (ss_one (s_ret (se_var 2))) ss_nil))) (ss_one (s_ret se_non)))⟩) (fun ds S Φ _ h => law_first_apart ds S Φ h)
theorem o_Rule_eq (T : Txt P K mg) : EqO P w K mg base 9 "Rule" sp_Rule_eq := T.d_Rule_eq.eq rfl sc_Rule_eq (fun f cdv A outer sh H E hr => by
      have c_first_apart := c_first_apart (P := P) (w := w) (base := base) T
      exact ⟨_, (ss_one (s_ret (se_and (se_isO T.io_Rule T.isinstance (se_var 1)) (se_one (sc1 cm_isN (se_call c_first_apart hr (by omega) (fun _ _ => .nil) (sa_cons (se_fld T.f_Rule_its_tree (se_var 0)) (sa_cons (se_fld T.f_Rule_its_tree (se_var 1)) sa_nil))) se_non)))))⟩) (fun ds S Φ _ h => law_Rule_eq ds S Φ h)
theorem o_Account_x_eq (T : Txt P K mg) : EqO P w K mg base 11 "Account" sp_Account_x_eq := T.d_Account_x_eq.eq rfl sc_Account_x_eq (fun f cdv A outer sh H E hr => by
      have o_Rule_eq := o_Rule_eq (P := P) (w := w) (base := base) T
      exact ⟨_, (ss_cons (s_if (SW.st (sw_or (tt_not (tt_val (se_isOx T.io_Account (fun _ h => nomatch h) (List.forall_mem_cons.mpr ⟨T.ioy_Rule__Account, (fun _ h => nomatch h)⟩) T.isinstance (se_var 1)))) (sw_one2 (tc1 (cm_neO o_Rule_eq hr (by omega)) (se_fld T.f_Account_its_rule (se_var 0)) (se_fld T.f_Account_its_rule (se_var 1)))))) (ss_one (s_ret se_bl)) ss_nil) (ss_cons (s_if (SW.st (sw_or (tc1 (cm_ne hr.units) (se_fld T.f_Account_its_credit (se_var 0)) (se_fld T.f_Account_its_credit (se_var 1))) (sw_one2 (tc1 (cm_ne hr.units) (se_fld T.f_Account_its_unpassed (se_var 0)) (se_fld T.f_Account_its_unpassed (se_var 1)))))) (ss_one (s_ret se_bl)) ss_nil) (ss_one (s_ret (sc1 (cm_eq hr.units) (se_fld T.f_Account_its_withheld (se_var 0)) (se_fld T.f_Account_its_withheld (se_var 1)))))))⟩) (fun ds S Φ _ h => law_Account_x_eq ds S Φ h)
theorem b_law (T : Txt P K mg) : BdG P w K mg base 13 n_law "law" s_law w_law := fun f cdv A outer sh H E hg hr => by
      have c_q_alike := c_q_alike (P := P) (w := w) (base := base) T; have c_q_bag := c_q_bag (P := P) (w := w) (base := base) T; have c_q_brought := c_q_brought (P := P) (w := w) (base := base) T; have c_q_draw_tree := c_q_draw_tree (P := P) (w := w) (base := base) T; have c_q_give := c_q_give (P := P) (w := w) (base := base) T; have c_q_refused := c_q_refused (P := P) (w := w) (base := base) T; have c_q_take := c_q_take (P := P) (w := w) (base := base) T; have c_q_threshold := c_q_threshold (P := P) (w := w) (base := base) T; have iox_Account_isub := iox_Account_isub (P := P) (w := w) (base := base) T; have m_Rule := m_Rule (P := P) (w := w) (base := base) T; have md_Account_copied := md_Account_copied (P := P) (w := w) (base := base) T; have o_Account_x_eq := o_Account_x_eq (P := P) (w := w) (base := base) T; have p_Account_left := p_Account_left (P := P) (w := w) (base := base) T
      exact ⟨_, (ss_cons (s_asg (se_call c_q_bag hr (by omega) (fun _ _ => .nil) (sa_cons (se_var 0) sa_nil)) (sg_name 1 (sc_law.nd))) (ss_cons (s_for PassesOwn.never rfl (si_rng1 T.range (sa_cons se_int sa_nil)) (sg_name 2 (sc_law.nd)) (ss_cons (s_par' 3 4 rfl (sc_law.nd) rfl rfl (by decide) rfl rfl (sa_cons (se_call c_q_draw_tree hr (by omega) (fun _ _ => .nil) (sa_cons (se_var 1) (sa_cons se_int (sa_cons se_int (sa_cons se_int sa_nil))))) (sa_cons (se_add se_int (se_call c_q_take hr (by omega) (fun _ _ => .nil) (sa_cons (se_var 1) (sa_cons se_int sa_nil)))) sa_nil)) rfl) (ss_cons (s_asg (se_lst (sa_cons (se_var 3) (sa_cons (se_ix (se_lst (sa_cons (se_var 3) (sa_cons (se_tup (sa_cons se_str (sa_cons (se_var 3) (sa_cons (se_var 3) sa_nil)))) (sa_cons (se_call c_q_draw_tree hr (by omega) (fun _ _ => .nil) (sa_cons (se_var 1) (sa_cons se_int (sa_cons se_int (sa_cons se_int sa_nil))))) sa_nil)))) (se_call c_q_take hr (by omega) (fun _ _ => .nil) (sa_cons (se_var 1) (sa_cons se_int sa_nil)))) sa_nil))) (sg_name 5 (sc_law.nd))) (ss_cons (s_asg (sc1 (cm_eq hr.units) (se_lc (own := [("_law_a", 7)]) rfl (sc_law.nd) (si_rng1 T.range (sa_cons se_int sa_nil)) (blkOk_by (own := [("_law_a", 7)]) (show blkC n_law (C8.fnScope s_law) _ [("_law_a", 7)] = true by decide +kernel)) (sb_name 7 (by decide) fun _ _ _ _ _ => pg_name (i := 7) (sc_law.nd) rfl (Or.inl rfl)) (SF.of (fun _ _ _ _ _ => (tc1 (cm_ne hr.units) (se_call c_q_give hr (by omega) (fun _ _ => .nil) (sa_cons (se_ix (se_var 5) se_int) (sa_cons (se_var 7) sa_nil))) (se_call c_q_give hr (by omega) (fun _ _ => .nil) (sa_cons (se_ix (se_var 5) se_int) (sa_cons (se_var 7) sa_nil))))) sh H) (SX.of (fun _ _ _ _ _ => (se_var 7)) sh H)) (se_lst sa_nil)) (sg_name 6 (sc_law.nd))) (ss_cons (s_setLc 8 (own := [("_law_one", 9)]) rfl (sc_law.nd) (si_list (se_var 5)) (blkOk_by (own := [("_law_one", 9)]) (show blkC n_law (C8.fnScope s_law) _ [("_law_one", 9)] = true by decide +kernel)) (sb_name 9 (by decide) fun _ _ _ _ _ => pg_name (i := 9) (sc_law.nd) rfl (Or.inl rfl)) SF.yes (SX.of (fun _ _ _ _ _ => (se_makeF m_Rule hr (by omega) (fun _ _ => .nil) (sa_cons (se_var 9) sa_nil))) sh H) (sw_true rfl rfl rfl (by decide +kernel))) (ss_cons (s_setLc 10 (own := [("_law_one", 9)]) rfl (sc_law.nd) (si_list (se_var 5)) (blkOk_by (own := [("_law_one", 9)]) (show blkC n_law (C8.fnScope s_law) _ [("_law_one", 9)] = true by decide +kernel)) (sb_name 9 (by decide) fun _ _ _ _ _ => pg_name (i := 9) (sc_law.nd) rfl (Or.inl rfl)) SF.yes (SX.of (fun _ _ _ _ _ => (se_call c_q_threshold hr (by omega) (fun _ _ => .nil) (sa_cons (se_var 9) sa_nil))) sh H) (sw_true rfl rfl rfl (by decide +kernel))) (ss_cons (s_asg (se_call c_q_take hr (by omega) (fun _ _ => .nil) (sa_cons (se_var 1) (sa_cons (se_cb ((call_min2 rfl).or (cr_min rfl)) (fun _ => cb_min) T.min (by decide +kernel) (sa_cons (se_var 10) sa_nil)) sa_nil))) (sg_name 11 (sc_law.nd))) (ss_cons (s_asg (se_lst (sa_cons (se_lst (sa_cons (se_var 4) (sa_cons (se_call c_q_take hr (by omega) (fun _ _ => .nil) (sa_cons (se_var 1) (sa_cons se_int sa_nil))) (sa_cons (se_var 11) sa_nil)))) (sa_cons (se_lstM (sa_cons (se_var 4) (sa_cons se_int (sa_cons (se_var 11) sa_nil)))) sa_nil))) (sg_name 12 (sc_law.nd))) (ss_cons (s_asg (se_ix (se_lst (sa_cons (se_ix (se_ix (se_var 12) se_int) se_int) (sa_cons (se_call c_q_take hr (by omega) (fun _ _ => .nil) (sa_cons (se_var 1) (sa_cons se_int sa_nil))) sa_nil))) (se_call c_q_take hr (by omega) (fun _ _ => .nil) (sa_cons (se_var 1) (sa_cons se_int sa_nil)))) (sg_subL (se_ix (se_var 12) se_int) se_int)) (ss_cons (s_asg (se_add (se_var 4) (se_ix (se_lst (sa_cons se_int (sa_cons se_int (sa_cons se_int sa_nil)))) (se_call c_q_take hr (by omega) (fun _ _ => .nil) (sa_cons (se_var 1) (sa_cons se_int sa_nil))))) (sg_subL (se_ix (se_var 12) se_int) se_int)) (ss_cons (s_asg (se_ix (se_lst (sa_cons (se_var 11) (sa_cons (se_call c_q_take hr (by omega) (fun _ _ => .nil) (sa_cons (se_var 1) (sa_cons (se_cb ((call_min2 rfl).or (cr_min rfl)) (fun _ => cb_min) T.min (by decide +kernel) (sa_cons (se_var 10) sa_nil)) sa_nil))) sa_nil))) (se_call c_q_take hr (by omega) (fun _ _ => .nil) (sa_cons (se_var 1) (sa_cons se_int sa_nil)))) (sg_subL (se_ix (se_var 12) se_int) se_int)) (ss_cons (s_asg (se_lst (sa_cons (sc1 (cm_eq hr.units) (se_call c_q_take hr (by omega) (fun _ _ => .nil) (sa_cons (se_var 1) (sa_cons se_int sa_nil))) se_int) (sa_cons (sc1 (cm_eq hr.units) (se_call c_q_take hr (by omega) (fun _ _ => .nil) (sa_cons (se_var 1) (sa_cons se_int sa_nil))) se_int) sa_nil))) (sg_name 13 (sc_law.nd))) (ss_cons (s_asg (se_lstM sa_nil) (sg_name 14 (sc_law.nd))) (ss_cons (s_for PassesOwn.never rfl (si_rng1 T.range (sa_cons se_int sa_nil)) (sg_name 15 (sc_law.nd)) (ss_one (s_expr (se_app' (se_var 14) (se_call c_q_brought hr (by omega) (fun _ _ => .nil) (sa_cons (se_ix (se_ix (se_var 12) (se_var 15)) se_int) (sa_cons (se_ix (se_var 8) (se_var 15)) (sa_cons (se_ix (se_ix (se_var 12) (se_var 15)) se_int) (sa_cons (se_ix (se_ix (se_var 12) (se_var 15)) se_int) (sa_cons (se_ix (se_var 13) (se_var 15)) sa_nil)))))))))) (ss_cons (s_asg (se_and (se_var 6) (se_one (sc1 (cm_eq hr.units) (se_ix (se_var 12) se_int) (se_ix (se_var 12) se_int)))) (sg_name 16 (sc_law.nd))) (ss_cons (s_for PassesOwn.never rfl (si_rng1 T.range (sa_cons se_int sa_nil)) (sg_name 17 (sc_law.nd)) (ss_cons (s_asg (se_lst (sa_cons (sc1 (cm_eqOx o_Account_x_eq (List.forall_mem_cons.mpr ⟨T.ioy_Rule__Account, (fun _ h => nomatch h)⟩) hr (by omega)) (se_ix (se_var 14) se_int) (se_ix (se_var 14) se_int)) (sa_cons (sc1 (cm_eqOx o_Account_x_eq (List.forall_mem_cons.mpr ⟨T.ioy_Rule__Account, (fun _ h => nomatch h)⟩) hr (by omega)) (se_ix (se_var 14) se_int) (se_ix (se_var 14) se_int)) (sa_cons (se_not (sc1 (cm_neOx o_Account_x_eq (List.forall_mem_cons.mpr ⟨T.ioy_Rule__Account, (fun _ h => nomatch h)⟩) hr (by omega)) (se_ix (se_var 14) se_int) (se_ix (se_var 14) se_int))) (sa_cons (sc1 (cm_eqOx o_Account_x_eq (List.forall_mem_cons.mpr ⟨T.ioy_Rule__Account, (fun _ h => nomatch h)⟩) hr (by omega)) (se_ix (se_var 14) se_int) se_int) (sa_cons (sc1 (cm_eqOx o_Account_x_eq (List.forall_mem_cons.mpr ⟨T.ioy_Rule__Account, (fun _ h => nomatch h)⟩) hr (by omega)) (se_ix (se_var 14) se_int) (se_ix (se_var 8) se_int)) sa_nil)))))) (sg_name 18 (sc_law.nd))) (ss_one (s_if (tt_not (tt_val (se_callG c_q_alike hg hr (by omega) (fun _ _ => .nil) (sa_cons (se_var 18) (sa_cons (se_lst (sa_cons (se_var 16) (sa_cons (se_var 16) (sa_cons (se_var 16) (sa_cons se_bl (sa_cons se_bl sa_nil)))))) sa_nil))))) (ss_one (s_ret se_bl)) ss_nil)))) (ss_cons (s_asg (se_meth0 md_Account_copied hr (by omega) (fun _ _ => .nil) (se_ix (se_var 14) se_int)) (sg_name 19 (sc_law.nd))) (ss_cons (s_asg (se_lst (sa_cons (sc1 (cm_eqOx o_Account_x_eq (List.forall_mem_cons.mpr ⟨T.ioy_Rule__Account, (fun _ h => nomatch h)⟩) hr (by omega)) (se_var 19) (se_ix (se_var 14) se_int)) sa_nil)) (sg_name 18 (sc_law.nd))) (ss_cons (s_augO 19 (sc_law.nd) iox_Account_isub hr (by omega) takes_zero se_int) (ss_cons (s_asg (se_add (se_var 18) (se_lst (sa_cons (sc1 (cm_eqOx o_Account_x_eq (List.forall_mem_cons.mpr ⟨T.ioy_Rule__Account, (fun _ h => nomatch h)⟩) hr (by omega)) (se_var 19) (se_ix (se_var 14) se_int)) (sa_cons (se_prop p_Account_left hr (by omega) (se_var 19)) (sa_cons (se_prop p_Account_left hr (by omega) (se_ix (se_var 14) se_int)) sa_nil))))) (sg_name 18 (sc_law.nd))) (ss_cons (s_asg (se_sub (se_sub (se_var 4) (se_ix (se_ix (se_var 12) se_int) se_int)) (se_ix (se_ix (se_var 12) se_int) se_int)) (sg_name 20 (sc_law.nd))) (ss_cons (s_if (tt_not (tt_val (se_callG c_q_alike hg hr (by omega) (fun _ _ => .nil) (sa_cons (se_var 18) (sa_cons (se_lst (sa_cons se_bl (sa_cons se_bl (sa_cons (se_sub (se_var 20) se_int) (sa_cons (se_var 20) sa_nil))))) sa_nil))))) (ss_one (s_ret se_bl)) ss_nil) (ss_cons (s_asg (se_ix (se_lst (sa_cons (se_var 3) (sa_cons se_non (sa_cons se_int (sa_cons (se_glob T.g_at_least) sa_nil))))) (se_call c_q_take hr (by omega) (fun _ _ => .nil) (sa_cons (se_var 1) (sa_cons se_int sa_nil)))) (sg_name 21 (sc_law.nd))) (ss_cons (s_for PassesOwn.never rfl (si_tup (se_tup (sa_cons se_int (sa_cons (se_neg se_int) (sa_cons se_bl (sa_cons se_non (sa_cons se_str (sa_cons (se_tup (sa_cons se_int sa_nil)) sa_nil)))))))) (sg_name 22 (sc_law.nd)) (ss_one (s_if (tt_not (tt_val (se_callG c_q_alike hg hr (by omega) (fun _ _ => .nil) (sa_cons (se_lst (sa_cons (se_call c_q_refused hr (by omega) (fun _ _ => .nil) (sa_cons (se_var 22) (sa_cons (se_ix (se_var 8) se_int) sa_nil))) (sa_cons (se_call c_q_refused hr (by omega) (fun _ _ => .nil) (sa_cons (se_var 22) (sa_cons (se_var 21) sa_nil))) sa_nil))) (sa_cons (se_lst (sa_cons se_int (sa_cons se_int sa_nil))) sa_nil))))) (ss_one (s_ret se_bl)) ss_nil))) (ss_one (s_if (tt_not (tt_val (se_callG c_q_alike hg hr (by omega) (fun _ _ => .nil) (sa_cons (se_lst (sa_cons (se_call c_q_refused hr (by omega) (fun _ _ => .nil) (sa_cons (se_pow se_int se_int) (sa_cons (se_ix (se_var 8) se_int) sa_nil))) (sa_cons (se_call c_q_refused hr (by omega) (fun _ _ => .nil) (sa_cons se_int (sa_cons (se_var 21) sa_nil))) sa_nil))) (sa_cons (se_lst (sa_cons se_non (sa_cons se_int sa_nil))) sa_nil))))) (ss_one (s_ret se_bl)) ss_nil)))))))))))))))))))))))))) (ss_one (s_ret se_bl))))⟩
end
theorem end_law {l : PySem.W.OpenLaw} {q : Program} {loose : List Str} {XP : (Str → Option Value) → Heap → Prop} {YP : World → Heap → Prop} {d : DefRec} {K : Params → PySem.W.Frag} (hn : l.most = some 63) (hdf : d.params.defaults = []) (hx : d.name = "law") (hY : ∀ (w : World) (h : Heap), YP w h → (K w.params).In h)
    (F : ∀ (w : World) (mg : Str → Option Value) (h : Heap), (K w.params).In h → h.Ns mainGlobals mg → Txt l.prog (K w.params) mg) :
    PySem.W.WalkO q loose XP YP l.row.toRowW d [] (fun f vs => PySem.call f vs) :=
  end_walkP (T := Txt) hn (by decide) hdf hx ⟨rfl, by decide, by decide⟩ hY sc_law (fun _ _ _ t => t.d_law) (fun _ _ _ _ _ t => b_law t) law_law F
end Sq
theorem PySem.W.Fast.tw311465421911288231 : True := trivial
theorem PySem.W.Fast.tw5233226502971026191 : True := trivial
theorem PySem.W.Fast.tw1021869840066901968 : True := trivial
theorem PySem.W.Fast.tw5599700225044610713 : True := trivial
theorem PySem.W.Fast.tw244948936780743850 : True := trivial
theorem PySem.W.Fast.tw4520077032623244051 : True := trivial
theorem PySem.W.Fast.tw945490394180931637 : True := trivial
theorem PySem.W.Fast.tw17257747946401345939 : True := trivial
theorem PySem.W.Fast.tw15393304781215705150 : True := trivial
theorem PySem.W.Fast.tw8117248032293290188 : True := trivial
theorem PySem.W.Fast.tw18180251889038876699 : True := trivial
theorem PySem.W.Fast.tw10695179386938937619 : True := trivial
theorem PySem.W.Fast.tw10648271780369337279 : True := trivial
theorem PySem.W.Fast.tw6208545606625518823 : True := trivial
theorem PySem.W.Fast.tw9947858056885635677 : True := trivial
theorem PySem.W.Fast.tw6173870320363918031 : True := trivial
theorem PySem.W.Fast.tw17071389133140424323 : True := trivial
theorem PySem.W.Fast.tw6147678632434336155 : True := trivial
theorem PySem.W.Fast.tw14006222844447943406 : True := trivial
open PySem PySem.W PyProof.Rows in
set_option maxRecDepth 100000 in
set_option maxHeartbeats 0 in
theorem PySem.Challenge.cw_sharedpipe_k21_accounts_compared_holds : PySem.Challenge.rw_sharedpipe_k21_accounts_compared.Holds := by
  w_on; o_law; k_head; (case hw => w_witness2)
  k_fill
  refine Sq.end_law (l := PySem.Challenge.rw_sharedpipe_k21_accounts_compared) rfl rfl rfl (fun w h Y => PySem.W.kIn_of Y) ?F
  case F =>
    intro w mg h KX G
    refine' Sq.Txt.mk ?f_d_q_alike ?f_d_q_bag ?f_d_given_of ?f_d_Rule_call ?f_d_threshold_of ?f_d_Rule_threshold ?f_d_repeated ?f_d_Account_passes ?f_d_Account_iadd ?f_d_Account_left ?f_d_Account_isub ?f_d_is_integer ?f_d_is_number ?f_d_Account_init ?f_d_Account_lets_flow ?f_d_Account_flows ?f_d_q_brought ?f_d_q_take ?f_d_q_draw_size ?f_d_q_draw_tree ?f_d_q_give ?f_d_q_refused ?f_d_q_threshold ?f_d_atoms_of ?f_d_is_shape ?f_d_is_tree ?f_d_Rule_init ?f_d_Account_copied ?f_d_telling_amounts ?f_d_first_apart ?f_d_Rule_eq ?f_d_Account_x_eq ?f_d_law ?f_abs ?f_bool ?f_enumerate ?f_f_Account_its_credit ?f_f_Account_its_rule ?f_f_Account_its_unpassed ?f_f_Account_its_withheld ?f_f_Rule_its_tree ?f_g_JOINS ?f_g_MOST_ATOMS ?f_g_MOST_BY ?f_g_ROUND ?f_g_at_least ?f_ib_Rule_bool ?f_ib_Rule_int ?f_ib_Rule_str ?f_ib_Rule_tuple ?f_int ?f_io_Account ?f_io_Rule ?f_iof_at_least__Rule ?f_ioy_Rule__Account ?f_isinstance ?f_len ?f_list ?f_max ?f_min ?f_p_PipeError_Wrong ?f_p_Wrong_Wrong ?f_range ?f_repr ?f_s_NotPassed ?f_s_Overdrawn ?f_s_Wrong ?f_sorted ?f_str ?f_tuple ?f_v_PipeError ?f_v_Wrong ?f_x_Wrong_place ?f_xc_Wrong
    case f_d_q_alike =>
      refine' Sq.DD.of KX G ?a ?l ?c ?k (fun _ _ _ _ _ _ us hl => match us, hl with | [_, _], _ => rfl)
      (case a => k_is)
      (case l => k_is)
      (case c => k_is)
      (case k => k_is)
    case f_d_q_bag =>
      refine' Sq.DD.of KX G ?a ?l ?c ?k (fun _ _ _ _ _ _ us hl => match us, hl with | [_], _ => rfl)
      (case a => k_is)
      (case l => k_is)
      (case c => k_is)
      (case k => k_is)
    case f_d_given_of =>
      refine' Sq.DD.of KX G ?a ?l ?c ?k (fun _ _ _ _ _ _ us hl => match us, hl with | [_, _], _ => rfl)
      (case a => k_is)
      (case l => k_is)
      (case c => k_is)
      (case k => k_is)
    case f_d_Rule_call =>
      refine' Sq.DC.of KX G ?aC ?a ?i ?fi ?l ?c (fun _ _ _ _ _ _ us hl => match us, hl with | [_, _], _ => rfl)
      (case aC => k_is)
      (case a => k_is)
      (case i => k_is)
      (case fi => k_is)
      (case l => k_is)
      (case c => k_is)
    case f_d_threshold_of =>
      refine' Sq.DD.of KX G ?a ?l ?c ?k (fun _ _ _ _ _ _ us hl => match us, hl with | [_], _ => rfl)
      (case a => k_is)
      (case l => k_is)
      (case c => k_is)
      (case k => k_is)
    case f_d_Rule_threshold =>
      refine' Sq.DP.of KX G ?aC ⟨?pg, ?hd, ?po, ?sa⟩ ?a ?g ?t ?r ?l ?c (fun _ _ _ _ _ _ us hl => match us, hl with | [_], _ => rfl)
      (case aC => k_is)
      (case pg => k_is)
      (case hd => k_is)
      (case po => k_is)
      (case sa => k_is)
      (case a => k_is)
      (case g => k_is)
      (case t => k_is)
      (case r => k_is)
      (case l => k_is)
      (case c => k_is)
    case f_d_repeated =>
      refine' Sq.DD.of KX G ?a ?l ?c ?k (fun _ _ _ _ _ _ us hl => match us, hl with | [_, _, _, _], _ => rfl)
      (case a => k_is)
      (case l => k_is)
      (case c => k_is)
      (case k => k_is)
    case f_d_Account_passes =>
      refine' Sq.DM.of KX G ?aC ⟨?pg, ?hd, ?po, ?sa⟩ ?a ?i ?l ?c ?k (fun _ _ _ _ _ _ us hl => match us, hl with | [_, _, _], _ => rfl)
      (case aC => k_is)
      (case pg => k_is)
      (case hd => k_is)
      (case po => k_is)
      (case sa => k_is)
      (case a => k_is)
      (case i => k_is)
      (case l => k_is)
      (case c => k_is)
      (case k => k_is)
    case f_d_Account_iadd =>
      refine' Sq.DIO.of KX G ?aC ?sf ?a ?i ?l ?c (fun _ _ _ _ _ _ us hl => match us, hl with | [_, _], _ => rfl)
      (case aC => k_is)
      (case sf => k_is)
      (case a => k_is)
      (case i => k_is)
      (case l => k_is)
      (case c => k_is)
    case f_d_Account_left =>
      refine' Sq.DP.of KX G ?aC ⟨?pg, ?hd, ?po, ?sa⟩ ?a ?g ?t ?r ?l ?c (fun _ _ _ _ _ _ us hl => match us, hl with | [_], _ => rfl)
      (case aC => k_is)
      (case pg => k_is)
      (case hd => k_is)
      (case po => k_is)
      (case sa => k_is)
      (case a => k_is)
      (case g => k_is)
      (case t => k_is)
      (case r => k_is)
      (case l => k_is)
      (case c => k_is)
    case f_d_Account_isub =>
      refine' Sq.DIO.of KX G ?aC ?sf ?a ?i ?l ?c (fun _ _ _ _ _ _ us hl => match us, hl with | [_, _], _ => rfl)
      (case aC => k_is)
      (case sf => k_is)
      (case a => k_is)
      (case i => k_is)
      (case l => k_is)
      (case c => k_is)
    case f_d_is_integer =>
      refine' Sq.DD.of KX G ?a ?l ?c ?k (fun _ _ _ _ _ _ us hl => match us, hl with | [_], _ => rfl)
      (case a => k_is)
      (case l => k_is)
      (case c => k_is)
      (case k => k_is)
    case f_d_is_number =>
      refine' Sq.DD.of KX G ?a ?l ?c ?k (fun _ _ _ _ _ _ us hl => match us, hl with | [_, _], _ => rfl)
      (case a => k_is)
      (case l => k_is)
      (case c => k_is)
      (case k => k_is)
    case f_d_Account_init =>
      refine' Sq.DI.of KX G ?aC ?mk ?kc ?a ?i ?l ?c (fun _ _ _ _ _ _ us hl => match us, hl with | [_, _, _], _ => rfl)
      (case aC => k_is)
      (case mk => k_is)
      (case kc => k_is)
      (case a => k_is)
      (case i => k_is)
      (case l => k_is)
      (case c => k_is)
    case f_d_Account_lets_flow =>
      refine' Sq.DM.of KX G ?aC ⟨?pg, ?hd, ?po, ?sa⟩ ?a ?i ?l ?c ?k (fun _ _ _ _ _ _ us hl => match us, hl with | [_, _, _], _ => rfl)
      (case aC => k_is)
      (case pg => k_is)
      (case hd => k_is)
      (case po => k_is)
      (case sa => k_is)
      (case a => k_is)
      (case i => k_is)
      (case l => k_is)
      (case c => k_is)
      (case k => k_is)
    case f_d_Account_flows =>
      refine' Sq.DM.of KX G ?aC ⟨?pg, ?hd, ?po, ?sa⟩ ?a ?i ?l ?c ?k (fun _ _ _ _ _ _ us hl => match us, hl with | [_, _, _], _ => rfl)
      (case aC => k_is)
      (case pg => k_is)
      (case hd => k_is)
      (case po => k_is)
      (case sa => k_is)
      (case a => k_is)
      (case i => k_is)
      (case l => k_is)
      (case c => k_is)
      (case k => k_is)
    case f_d_q_brought =>
      refine' Sq.DD.of KX G ?a ?l ?c ?k (fun _ _ _ _ _ _ us hl => match us, hl with | [_, _, _, _, _], _ => rfl)
      (case a => k_is)
      (case l => k_is)
      (case c => k_is)
      (case k => k_is)
    case f_d_q_take =>
      refine' Sq.DD.of KX G ?a ?l ?c ?k (fun _ _ _ _ _ _ us hl => match us, hl with | [_, _], _ => rfl)
      (case a => k_is)
      (case l => k_is)
      (case c => k_is)
      (case k => k_is)
    case f_d_q_draw_size =>
      refine' Sq.DD.of KX G ?a ?l ?c ?k (fun _ _ _ _ _ _ us hl => match us, hl with | [_, _, _], _ => rfl)
      (case a => k_is)
      (case l => k_is)
      (case c => k_is)
      (case k => k_is)
    case f_d_q_draw_tree =>
      refine' Sq.DD.of KX G ?a ?l ?c ?k (fun _ _ _ _ _ _ us hl => match us, hl with | [_, _, _, _], _ => rfl)
      (case a => k_is)
      (case l => k_is)
      (case c => k_is)
      (case k => k_is)
    case f_d_q_give =>
      refine' Sq.DD.of KX G ?a ?l ?c ?k (fun _ _ _ _ _ _ us hl => match us, hl with | [_, _], _ => rfl)
      (case a => k_is)
      (case l => k_is)
      (case c => k_is)
      (case k => k_is)
    case f_d_q_refused =>
      refine' Sq.DD.of KX G ?a ?l ?c ?k (fun _ _ _ _ _ _ us hl => match us, hl with | [_, _], _ => rfl)
      (case a => k_is)
      (case l => k_is)
      (case c => k_is)
      (case k => k_is)
    case f_d_q_threshold =>
      refine' Sq.DD.of KX G ?a ?l ?c ?k (fun _ _ _ _ _ _ us hl => match us, hl with | [_], _ => rfl)
      (case a => k_is)
      (case l => k_is)
      (case c => k_is)
      (case k => k_is)
    case f_d_atoms_of =>
      refine' Sq.DD.of KX G ?a ?l ?c ?k (fun _ _ _ _ _ _ us hl => match us, hl with | [_], _ => rfl)
      (case a => k_is)
      (case l => k_is)
      (case c => k_is)
      (case k => k_is)
    case f_d_is_shape =>
      refine' Sq.DD.of KX G ?a ?l ?c ?k (fun _ _ _ _ _ _ us hl => match us, hl with | [_], _ => rfl)
      (case a => k_is)
      (case l => k_is)
      (case c => k_is)
      (case k => k_is)
    case f_d_is_tree =>
      refine' Sq.DD.of KX G ?a ?l ?c ?k (fun _ _ _ _ _ _ us hl => match us, hl with | [_], _ => rfl)
      (case a => k_is)
      (case l => k_is)
      (case c => k_is)
      (case k => k_is)
    case f_d_Rule_init =>
      refine' Sq.DI.of KX G ?aC ?mk ?kc ?a ?i ?l ?c (fun _ _ _ _ _ _ us hl => match us, hl with | [_, _], _ => rfl)
      (case aC => k_is)
      (case mk => k_is)
      (case kc => k_is)
      (case a => k_is)
      (case i => k_is)
      (case l => k_is)
      (case c => k_is)
    case f_d_Account_copied =>
      refine' Sq.DM.of KX G ?aC ⟨?pg, ?hd, ?po, ?sa⟩ ?a ?i ?l ?c ?k (fun _ _ _ _ _ _ us hl => match us, hl with | [_], _ => rfl)
      (case aC => k_is)
      (case pg => k_is)
      (case hd => k_is)
      (case po => k_is)
      (case sa => k_is)
      (case a => k_is)
      (case i => k_is)
      (case l => k_is)
      (case c => k_is)
      (case k => k_is)
    case f_d_telling_amounts =>
      refine' Sq.DD.of KX G ?a ?l ?c ?k (fun _ _ _ _ _ _ us hl => match us, hl with | [_, _], _ => rfl)
      (case a => k_is)
      (case l => k_is)
      (case c => k_is)
      (case k => k_is)
    case f_d_first_apart =>
      refine' Sq.DD.of KX G ?a ?l ?c ?k (fun _ _ _ _ _ _ us hl => match us, hl with | [_, _], _ => rfl)
      (case a => k_is)
      (case l => k_is)
      (case c => k_is)
      (case k => k_is)
    case f_d_Rule_eq =>
      refine' Sq.DE.of KX G ?aC ⟨⟨?pg, ?hd, ?po, ?sa⟩, ?ha, ?hn, ?ht, ?hm⟩ ?a ?i ?ne ?l ?c (fun _ _ _ _ _ _ us hl => match us, hl with | [_, _], _ => rfl)
      (case aC => k_is)
      (case pg => k_is)
      (case hd => k_is)
      (case po => k_is)
      (case sa => k_is)
      (case ha => k_is)
      (case hn => k_is)
      (case ht => k_is)
      (case hm => k_is)
      (case a => k_is)
      (case i => k_is)
      (case ne => k_is)
      (case l => k_is)
      (case c => k_is)
    case f_d_Account_x_eq =>
      refine' Sq.DE.of KX G ?aC ⟨⟨?pg, ?hd, ?po, ?sa⟩, ?ha, ?hn, ?ht, ?hm⟩ ?a ?i ?ne ?l ?c (fun _ _ _ _ _ _ us hl => match us, hl with | [_, _], _ => rfl)
      (case aC => k_is)
      (case pg => k_is)
      (case hd => k_is)
      (case po => k_is)
      (case sa => k_is)
      (case ha => k_is)
      (case hn => k_is)
      (case ht => k_is)
      (case hm => k_is)
      (case a => k_is)
      (case i => k_is)
      (case ne => k_is)
      (case l => k_is)
      (case c => k_is)
    case f_d_law =>
      refine' Sq.DL.of KX G ?a ?l ?c ?k (fun _ _ _ _ _ _ us hl => match us, hl with | [_], _ => rfl)
      (case a => k_is)
      (case l => k_is)
      (case c => k_is)
      (case k => k_is)
    case f_abs =>
      refine' PySem.W.mg_none_of KX G ?a
      (case a => k_is)
    case f_bool =>
      refine' PySem.W.mg_none_of KX G ?a
      (case a => k_is)
    case f_enumerate =>
      refine' PySem.W.mg_none_of KX G ?a
      (case a => k_is)
    case f_f_Account_its_credit =>
      refine' Sq.KF.of KX G ?aC ⟨?pg, ?hd, ?po, ?sa⟩ ?n
      (case aC => k_is)
      (case pg => k_is)
      (case hd => k_is)
      (case po => k_is)
      (case sa => k_is)
      (case n => k_is)
    case f_f_Account_its_rule =>
      refine' Sq.KF.of KX G ?aC ⟨?pg, ?hd, ?po, ?sa⟩ ?n
      (case aC => k_is)
      (case pg => k_is)
      (case hd => k_is)
      (case po => k_is)
      (case sa => k_is)
      (case n => k_is)
    case f_f_Account_its_unpassed =>
      refine' Sq.KF.of KX G ?aC ⟨?pg, ?hd, ?po, ?sa⟩ ?n
      (case aC => k_is)
      (case pg => k_is)
      (case hd => k_is)
      (case po => k_is)
      (case sa => k_is)
      (case n => k_is)
    case f_f_Account_its_withheld =>
      refine' Sq.KF.of KX G ?aC ⟨?pg, ?hd, ?po, ?sa⟩ ?n
      (case aC => k_is)
      (case pg => k_is)
      (case hd => k_is)
      (case po => k_is)
      (case sa => k_is)
      (case n => k_is)
    case f_f_Rule_its_tree =>
      refine' Sq.KF.of KX G ?aC ⟨?pg, ?hd, ?po, ?sa⟩ ?n
      (case aC => k_is)
      (case pg => k_is)
      (case hd => k_is)
      (case po => k_is)
      (case sa => k_is)
      (case n => k_is)
    case f_g_JOINS =>
      refine' Sq.GK.tup ["or", "and"] KX G ?a ?t ?oc ?ot ?hz ?r
      (case a => k_is)
      (case t => k_is)
      (case oc => rfl)
      (case ot => rfl)
      (case hz => decide)
      (case r => exact (.cons ⟨_, rfl⟩ (.cons ⟨_, rfl⟩ (.nil))))
    case f_g_MOST_ATOMS =>
      refine' Sq.GK.int KX G ?a
      (case a => k_is)
    case f_g_MOST_BY =>
      refine' Sq.GK.int KX G ?a
      (case a => k_is)
    case f_g_ROUND =>
      refine' Sq.GK.int KX G ?a
      (case a => k_is)
    case f_g_at_least =>
      refine' Sq.GK.fn KX G ?a
      (case a => k_is)
    case f_ib_Rule_bool =>
      refine' Sq.KIB.of KX G ?aC ⟨⟨?pg, ?hd, ?po, ?sa⟩, ?ha, ?hn, ?ht, ?hm⟩ ?n (by decide +kernel)
      (case aC => k_is)
      (case pg => k_is)
      (case hd => k_is)
      (case po => k_is)
      (case sa => k_is)
      (case ha => k_is)
      (case hn => k_is)
      (case ht => k_is)
      (case hm => k_is)
      (case n => k_is)
    case f_ib_Rule_int =>
      refine' Sq.KIB.of KX G ?aC ⟨⟨?pg, ?hd, ?po, ?sa⟩, ?ha, ?hn, ?ht, ?hm⟩ ?n (by decide +kernel)
      (case aC => k_is)
      (case pg => k_is)
      (case hd => k_is)
      (case po => k_is)
      (case sa => k_is)
      (case ha => k_is)
      (case hn => k_is)
      (case ht => k_is)
      (case hm => k_is)
      (case n => k_is)
    case f_ib_Rule_str =>
      refine' Sq.KIB.of KX G ?aC ⟨⟨?pg, ?hd, ?po, ?sa⟩, ?ha, ?hn, ?ht, ?hm⟩ ?n (by decide +kernel)
      (case aC => k_is)
      (case pg => k_is)
      (case hd => k_is)
      (case po => k_is)
      (case sa => k_is)
      (case ha => k_is)
      (case hn => k_is)
      (case ht => k_is)
      (case hm => k_is)
      (case n => k_is)
    case f_ib_Rule_tuple =>
      refine' Sq.KIB.of KX G ?aC ⟨⟨?pg, ?hd, ?po, ?sa⟩, ?ha, ?hn, ?ht, ?hm⟩ ?n (by decide +kernel)
      (case aC => k_is)
      (case pg => k_is)
      (case hd => k_is)
      (case po => k_is)
      (case sa => k_is)
      (case ha => k_is)
      (case hn => k_is)
      (case ht => k_is)
      (case hm => k_is)
      (case n => k_is)
    case f_int =>
      refine' PySem.W.mg_none_of KX G ?a
      (case a => k_is)
    case f_io_Account =>
      refine' Sq.KIO.of KX G ?aC ⟨⟨?pg, ?hd, ?po, ?sa⟩, ?ha, ?hn, ?ht, ?hm⟩ ?n ?t
      (case aC => k_is)
      (case pg => k_is)
      (case hd => k_is)
      (case po => k_is)
      (case sa => k_is)
      (case ha => k_is)
      (case hn => k_is)
      (case ht => k_is)
      (case hm => k_is)
      (case n => k_is)
      (case t => k_is)
    case f_io_Rule =>
      refine' Sq.KIO.of KX G ?aC ⟨⟨?pg, ?hd, ?po, ?sa⟩, ?ha, ?hn, ?ht, ?hm⟩ ?n ?t
      (case aC => k_is)
      (case pg => k_is)
      (case hd => k_is)
      (case po => k_is)
      (case sa => k_is)
      (case ha => k_is)
      (case hn => k_is)
      (case ht => k_is)
      (case hm => k_is)
      (case n => k_is)
      (case t => k_is)
    case f_iof_at_least__Rule =>
      refine' Sq.KIF.of KX G ?aF ?aC ?i ?n ?t
      (case aF => k_is)
      (case aC => k_is)
      (case i => k_is)
      (case n => k_is)
      (case t => k_is)
    case f_ioy_Rule__Account =>
      refine' Sq.KIO2.of KX G ?aD ?aC ⟨⟨?pg, ?hd, ?po, ?sa⟩, ?ha, ?hn, ?ht, ?hm⟩ ?n ?t ?ne ?m
      (case aD => k_is)
      (case aC => k_is)
      (case pg => k_is)
      (case hd => k_is)
      (case po => k_is)
      (case sa => k_is)
      (case ha => k_is)
      (case hn => k_is)
      (case ht => k_is)
      (case hm => k_is)
      (case n => k_is)
      (case t => k_is)
      (case ne => decide)
      (case m => k_is)
    case f_isinstance =>
      refine' PySem.W.mg_none_of KX G ?a
      (case a => k_is)
    case f_len =>
      refine' PySem.W.mg_none_of KX G ?a
      (case a => k_is)
    case f_list =>
      refine' PySem.W.mg_none_of KX G ?a
      (case a => k_is)
    case f_max =>
      refine' PySem.W.mg_none_of KX G ?a
      (case a => k_is)
    case f_min =>
      refine' PySem.W.mg_none_of KX G ?a
      (case a => k_is)
    case f_p_PipeError_Wrong =>
      refine' Sq.XP1.of KX G ?aV ?aC ?sV
      (case aV => k_is)
      (case aC => k_is)
      (case sV => k_is)
    case f_p_Wrong_Wrong =>
      refine' Sq.XP1.of KX G ?aV ?aC ?sV
      (case aV => k_is)
      (case aC => k_is)
      (case sV => k_is)
    case f_range =>
      refine' PySem.W.mg_none_of KX G ?a
      (case a => k_is)
    case f_repr =>
      refine' PySem.W.mg_none_of KX G ?a
      (case a => k_is)
    case f_s_NotPassed =>
      refine' Sq.SupD.of (s := Sq.s_NotPassed_init) (x := "many") (self := "self") KX G ?aC ?lC ?eC ?hbm "PipeError" ?aB ?lB ?eB ?mB ?fB ?sa ?no ?bex ?val ?own ?ty ?kp ?ini ?tyI ?opq ?sup ?lI ?eI ?cdI ?lD ?eD ?v2 ?pf ?ps ?lV ?eV Sq.sb_NotPassed Sq.sf_NotPassed
      (case aC => k_is)
      (case lC => k_is)
      (case eC => rfl)
      (case hbm => decide)
      (case aB => k_is)
      (case lB => k_is)
      (case eB => rfl)
      (case mB => rfl)
      (case fB => k_is)
      (case sa => k_is)
      (case no => k_is)
      (case bex => k_is)
      (case val => k_is)
      (case own => k_is)
      (case ty => k_is)
      (case kp => k_is)
      (case ini => k_is)
      (case tyI => k_is)
      (case opq => k_is)
      (case sup => k_is)
      (case lI => k_is)
      (case eI => rfl)
      (case cdI => k_is)
      (case lD => k_is)
      (case eD => rfl)
      (case v2 => rfl)
      (case pf => decide +kernel)
      (case ps => decide +kernel)
      (case lV => k_is)
      (case eV => rfl)
    case f_s_Overdrawn =>
      refine' Sq.SupD.of (s := Sq.s_Overdrawn_init) (x := "many") (self := "self") KX G ?aC ?lC ?eC ?hbm "PipeError" ?aB ?lB ?eB ?mB ?fB ?sa ?no ?bex ?val ?own ?ty ?kp ?ini ?tyI ?opq ?sup ?lI ?eI ?cdI ?lD ?eD ?v2 ?pf ?ps ?lV ?eV Sq.sb_Overdrawn Sq.sf_Overdrawn
      (case aC => k_is)
      (case lC => k_is)
      (case eC => rfl)
      (case hbm => decide)
      (case aB => k_is)
      (case lB => k_is)
      (case eB => rfl)
      (case mB => rfl)
      (case fB => k_is)
      (case sa => k_is)
      (case no => k_is)
      (case bex => k_is)
      (case val => k_is)
      (case own => k_is)
      (case ty => k_is)
      (case kp => k_is)
      (case ini => k_is)
      (case tyI => k_is)
      (case opq => k_is)
      (case sup => k_is)
      (case lI => k_is)
      (case eI => rfl)
      (case cdI => k_is)
      (case lD => k_is)
      (case eD => rfl)
      (case v2 => rfl)
      (case pf => decide +kernel)
      (case ps => decide +kernel)
      (case lV => k_is)
      (case eV => rfl)
    case f_s_Wrong =>
      refine' Sq.SupD.of (s := Sq.s_Wrong_init) (x := "place") (self := "self") KX G ?aC ?lC ?eC ?hbm "PipeError" ?aB ?lB ?eB ?mB ?fB ?sa ?no ?bex ?val ?own ?ty ?kp ?ini ?tyI ?opq ?sup ?lI ?eI ?cdI ?lD ?eD ?v2 ?pf ?ps ?lV ?eV Sq.sb_Wrong Sq.sf_Wrong
      (case aC => k_is)
      (case lC => k_is)
      (case eC => rfl)
      (case hbm => decide)
      (case aB => k_is)
      (case lB => k_is)
      (case eB => rfl)
      (case mB => rfl)
      (case fB => k_is)
      (case sa => k_is)
      (case no => k_is)
      (case bex => k_is)
      (case val => k_is)
      (case own => k_is)
      (case ty => k_is)
      (case kp => k_is)
      (case ini => k_is)
      (case tyI => k_is)
      (case opq => k_is)
      (case sup => k_is)
      (case lI => k_is)
      (case eI => rfl)
      (case cdI => k_is)
      (case lD => k_is)
      (case eD => rfl)
      (case v2 => rfl)
      (case pf => decide +kernel)
      (case ps => decide +kernel)
      (case lV => k_is)
      (case eV => rfl)
    case f_sorted =>
      refine' PySem.W.mg_none_of KX G ?a
      (case a => k_is)
    case f_str =>
      refine' PySem.W.mg_none_of KX G ?a
      (case a => k_is)
    case f_tuple =>
      refine' PySem.W.mg_none_of KX G ?a
      (case a => k_is)
    case f_v_PipeError =>
      refine' Sq.XV.of KX G ?aV ?sV ?iV ?tV
      (case aV => k_is)
      (case sV => k_is)
      (case iV => k_is)
      (case tV => k_is)
    case f_v_Wrong =>
      refine' Sq.XV.of KX G ?aV ?sV ?iV ?tV
      (case aV => k_is)
      (case sV => k_is)
      (case iV => k_is)
      (case tV => k_is)
    case f_x_Wrong_place =>
      refine' Sq.KXf.of KX G ?aC ⟨?icl, ?iga, ?igt, ?isb, ?iha, ?ihn, ?itk, ?imo⟩ ?hd ?no
      (case aC => k_is)
      (case icl => k_is)
      (case iga => k_is)
      (case igt => k_is)
      (case isb => k_is)
      (case iha => k_is)
      (case ihn => k_is)
      (case itk => k_is)
      (case imo => k_is)
      (case hd => k_is)
      (case no => k_is)
    case f_xc_Wrong =>
      refine' Sq.XC.of KX G ?aC ⟨?icl, ?iga, ?igt, ?isb, ?iha, ?ihn, ?itk, ?imo⟩ ?own
      (case aC => k_is)
      (case icl => k_is)
      (case iga => k_is)
      (case igt => k_is)
      (case isb => k_is)
      (case iha => k_is)
      (case ihn => k_is)
      (case itk => k_is)
      (case imo => k_is)
      (case own => k_is)
#print axioms PySem.Challenge.cw_sharedpipe_k21_accounts_compared_holds
