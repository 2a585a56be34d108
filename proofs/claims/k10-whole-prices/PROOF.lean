import PyProof.Rows.All
import Wide.All
import OpenK.AllK
import Wide.FinOn
import HandS.ForMost
import HandS.Walk
import HandS.Deep
import HandS.IsInst
import HandS.AnyAll
import HandS.TupAny
import HandS.TupMul
import HandS.TupLe
import HandS.Conv
import HandS.Flow
import HandS.Style
import HandS.EndTab
import HandS.GenList
import HandS.Strs
import KE.KDictKeyed
import KE.SortData
import KE.GoesEnum
import KE.GoesDict
import KE.SortLaws
import HandS.Small
import HandS.GenOver
import PyProof.SumAny
import HandS.SetFor
import HandS.DictComp
import KE.KDictPairs
import KE.GoesZip
import KE.GoesMore
import KE.KDictZip
import KE.KTurns
import PySem.Challenge.RW_groupdeeds_k10_whole_prices
set_option Elab.async false
set_option linter.all false
set_option maxRecDepth 100000
set_option maxHeartbeats 2000000
/-! GdA: plain data in the abstract heap. -/
namespace Gd
open PySem PySem.Spec PyProof.Rows L2

abbrev D := PyData
/-- the entries of a dict whose keys are tuples -/
abbrev Ent := NestedKey × Addr × Value
/-- a dict with such entries -/
def DN (P : Program) (w : World) (a : Addr) (ob : Obj) (xs : List Ent) : HO := .ext fun h => (a == sysModules) = false ∧ xs.length ≤ sizeLine ∧ (xs.map (·.1)).Nodup ∧ h.get? a = some ob ∧
  ∃ es ep, ob.ExactDict ∧ ob.data = .dict es ep ∧ es.toList = xs.map (entryOfKey (nestedKind P w))

mutual
def keyOf : D → Option NestedKey
  | .none => some .none
  | .int i => some (.num i)
  | .tuple ds => (keysOf ds).map .tup
  | _ => none
def keysOf : List D → Option (List NestedKey)
  | [] => some []
  | d :: ds => (keyOf d).bind fun k => (keysOf ds).map fun ks => k :: ks
end

mutual
inductive Rp (P : Program) (w : World) (S : Hp) : V → D → Prop
  | non : Rp P w S .non .none
  | bl (b : Bool) : Rp P w S (.bl b) (.bool b)
  | int (i : Int) : Rp P w S (.int i) (.int i)
  | lst {a : Addr} {vs : List V} {ds : List D} : S a = some (.lst vs) → RpL P w S vs ds → Rp P w S (.ref a) (.list ds)
  | tup {a : Addr} {vs : List V} {ds : List D} : S a = some (.tup vs) → RpL P w S vs ds → Rp P w S (.ref a) (.tuple ds)
  | dk {a : Addr} {ks : List (Key × V)} {kvs : List (D × D)} : S a = some (.dK ks) → KvL P w S ks kvs → Rp P w S (.ref a) (.dict kvs)
  | dn {a : Addr} {ob : Obj} {xs : List Ent} {kvs : List (D × D)} : S a = some (DN P w a ob xs) → EntL P w S xs kvs → Rp P w S (.ref a) (.dict kvs)
  | raw (z : Str) : Rp P w S (.ref z.cps.size) (.str z)
inductive RpL (P : Program) (w : World) (S : Hp) : List V → List D → Prop
  | nil : RpL P w S [] []
  | cons {v : V} {vs : List V} {d : D} {ds : List D} : Rp P w S v d → RpL P w S vs ds → RpL P w S (v :: vs) (d :: ds)
inductive KvL (P : Program) (w : World) (S : Hp) : List (Key × V) → List (D × D) → Prop
  | nil : KvL P w S [] []
  | cons {i : Int} {v : V} {ks : List (Key × V)} {d : D} {kvs : List (D × D)} : Rp P w S v d → KvL P w S ks kvs → KvL P w S ((Sum.inl i, v) :: ks) ((.int i, d) :: kvs)
inductive EntL (P : Program) (w : World) (S : Hp) : List Ent → List (D × D) → Prop
  | nil : EntL P w S [] []
  | cons {k : NestedKey} {b : Addr} {u : Value} {v : V} {xs : List Ent} {kd d : D} {kvs : List (D × D)} : keyOf kd = some k → k.depth ≤ 8 → Rp P w S (.ref b) kd → RelV v u → Rp P w S v d → EntL P w S xs kvs →
      EntL P w S ((k, b, u) :: xs) ((kd, d) :: kvs)
end
section
variable {P : Program} {w : World} {S S' : Hp}
mutual
theorem Rp.mono (h : Same S S') : ∀ {v : V} {d : D}, Rp P w S v d → Rp P w S' v d
  | _, _, .non => .non
  | _, _, .bl b => .bl b
  | _, _, .int i => .int i
  | _, _, .lst e r => .lst (h _ _ e) (RpL.mono h r)
  | _, _, .tup e r => .tup (h _ _ e) (RpL.mono h r)
  | _, _, .dk e r => .dk (h _ _ e) (KvL.mono h r)
  | _, _, .dn e r => .dn (h _ _ e) (EntL.mono h r)
  | _, _, .raw z => .raw z
theorem RpL.mono (h : Same S S') : ∀ {v : List V} {d : List D}, RpL P w S v d → RpL P w S' v d
  | _, _, .nil => .nil
  | _, _, .cons a b => .cons (Rp.mono h a) (RpL.mono h b)
theorem KvL.mono (h : Same S S') : ∀ {v : List (Key × V)} {d : List (D × D)}, KvL P w S v d → KvL P w S' v d
  | _, _, .nil => .nil
  | _, _, .cons a b => .cons (Rp.mono h a) (KvL.mono h b)
theorem EntL.mono (h : Same S S') : ∀ {v : List Ent} {d : List (D × D)}, EntL P w S v d → EntL P w S' v d
  | _, _, .nil => .nil
  | _, _, .cons e1 e2 a r b t => .cons e1 e2 (Rp.mono h a) r (Rp.mono h b) (EntL.mono h t)
end
theorem RpL.length : ∀ {vs : List V} {ds : List D}, RpL P w S vs ds → vs.length = ds.length
  | _, _, .nil => rfl
  | _, _, .cons _ t => by rw [List.length_cons, List.length_cons, RpL.length t]
theorem RpL.get : ∀ {vs : List V} {ds : List D} {i : Nat} {v : V}, RpL P w S vs ds → vs[i]? = some v → ∃ d, ds[i]? = some d ∧ Rp P w S v d
  | _, _, _, _, .nil, h => by simp at h
  | _, _, 0, _, .cons r _, h => by simp at h; subst h; exact ⟨_, rfl, r⟩
  | _, _, i + 1, _, .cons _ t, h => by
    obtain ⟨d, e, r⟩ := RpL.get (i := i) t (by simpa using h)
    exact ⟨d, by simpa using e, r⟩
theorem RpL.get' : ∀ {vs : List V} {ds : List D} {i : Nat} {d : D}, RpL P w S vs ds → ds[i]? = some d → ∃ v, vs[i]? = some v ∧ Rp P w S v d
  | _, _, _, _, .nil, h => by simp at h
  | _, _, 0, _, .cons r _, h => by simp at h; subst h; exact ⟨_, rfl, r⟩
  | _, _, i + 1, _, .cons _ t, h => by
    obtain ⟨d, e, r⟩ := RpL.get' (i := i) t (by simpa using h)
    exact ⟨d, by simpa using e, r⟩
theorem RpL.append : ∀ {vs ws : List V} {ds es : List D}, RpL P w S vs ds → RpL P w S ws es → RpL P w S (vs ++ ws) (ds ++ es)
  | _, _, _, _, .nil, t => t
  | _, _, _, _, .cons a b, t => .cons a (RpL.append b t)
theorem RpL.take : ∀ {vs : List V} {ds : List D} (n : Nat), RpL P w S vs ds → RpL P w S (vs.take n) (ds.take n)
  | _, _, 0, _ => .nil
  | _, _, _ + 1, .nil => .nil
  | _, _, n + 1, .cons a b => .cons a (RpL.take n b)
theorem RpL.drop : ∀ {vs : List V} {ds : List D} (n : Nat), RpL P w S vs ds → RpL P w S (vs.drop n) (ds.drop n)
  | _, _, 0, h => h
  | _, _, _ + 1, .nil => .nil
  | _, _, n + 1, .cons _ b => RpL.drop n b
theorem RpL.set : ∀ {vs : List V} {ds : List D} {v : V} {d : D} (i : Nat), RpL P w S vs ds → Rp P w S v d → RpL P w S (vs.set i v) (ds.set i d)
  | _, _, _, _, _, .nil, _ => .nil
  | _, _, _, _, 0, .cons _ b, r => .cons r b
  | _, _, _, _, i + 1, .cons a b, r => .cons a (RpL.set i b r)
theorem RpL.reverse {vs : List V} {ds : List D} (h : RpL P w S vs ds) : RpL P w S vs.reverse ds.reverse := by
  induction vs generalizing ds with
  | nil => cases h; exact .nil
  | cons v vs ih =>
    cases h with
    | cons a b =>
      rw [List.reverse_cons, List.reverse_cons]
      exact RpL.append (ih b) (.cons a .nil)
theorem RpL.replicate {v : V} {d : D} (r : Rp P w S v d) : ∀ n : Nat, RpL P w S (List.replicate n v) (List.replicate n d)
  | 0 => .nil
  | n + 1 => .cons r (RpL.replicate r n)
theorem RpL.ints : ∀ (ns : List Int), RpL P w S (ns.map V.int) (ns.map PyData.int)
  | [] => .nil
  | n :: ns => .cons (.int n) (RpL.ints ns)
/-! no dict in it -/
mutual
def nod : D → Bool
  | .dict _ => false
  | .str _ => false
  | .list ds => nods ds
  | .tuple ds => nods ds
  | _ => true
def nods : List D → Bool
  | [] => true
  | d :: ds => nod d && nods ds
end
mutual
theorem Rp.dp {K : PySem.W.Frag} {H : Hp} (h : Same S H) : ∀ {v : V} {d : D}, Rp P w S v d → nod d = true → Dp K H v d
  | _, _, .non, _ => .non
  | _, _, .bl b, _ => .bl b
  | _, _, .int i, _ => .int i
  | _, _, .lst e r, s => .lst (SqL.of (h _ _ e)) (RpL.dp h r (by rw [nod] at s; exact s))
  | _, _, .tup e r, s => .tup (SqT.of (h _ _ e)) (RpL.dp h r (by rw [nod] at s; exact s))
  | _, _, .dk _ _, s => by simp [nod] at s
  | _, _, .dn _ _, s => by simp [nod] at s
theorem RpL.dp {K : PySem.W.Frag} {H : Hp} (h : Same S H) : ∀ {v : List V} {d : List D}, RpL P w S v d → nods d = true → DpAll K H v d
  | _, _, .nil, _ => .nil
  | _, _, .cons a b, s => by
    rw [nods, Bool.and_eq_true] at s
    exact .cons (Rp.dp h a s.1) (RpL.dp h b s.2)
end
/-- data that the model's == takes -/
def okd (d : D) : Bool := nod d && SeqAt.shaped d

/-! ### a step of the heap: S the part that stands still, H the whole; T: tables of code objects -/
def TbOk (T : List Addr) (H : Hp) : Prop := ∀ p ∈ T, ∃ ps : Array Value, H p = some (.tbl ps) ∧ TriplesOk ps.toList
structure Step (T : List Addr) (S H S' H' : Hp) : Prop where
  ss : Same S S'
  sh : Same S' H'
  keep : ∀ a o, H a = some o → a ∉ T → H' a = some o
  only : ∀ a, H a ≠ none → S' a = S a
  tb : TbOk T H'
variable {T : List Addr} {H H' S1 H1 : Hp}
/-- what stands at S, H -/
structure Okk (T : List Addr) (S H : Hp) : Prop where
  sh : Same S H
  tb : TbOk T H
  no : ∀ p ∈ T, S p = none
theorem Okk.refl (h : Okk T S H) : Step T S H S H := ⟨Same.refl S, h.sh, fun _ _ e _ => e, fun _ _ => rfl, h.tb⟩
theorem Okk.nT (h : Okk T S H) {a : Addr} {o : HO} (e : H a = some o) (n : ∀ ps, o ≠ .tbl ps) : a ∉ T := fun z => by
  obtain ⟨ps, q, _⟩ := h.tb a z
  rw [e] at q
  exact n ps (Option.some.inj q)
theorem Okk.step (h : Okk T S H) (s : Step T S H S' H') : Okk T S' H' := ⟨s.sh, s.tb, fun p hp => by
  obtain ⟨ps, q, _⟩ := h.tb p hp
  rw [s.only p (by rw [q]; simp)]
  exact h.no p hp⟩
theorem Step.dom (s : Step T S H S1 H1) (k : Okk T S H) {a : Addr} (h : H a ≠ none) : H1 a ≠ none := by
  by_cases z : a ∈ T
  · obtain ⟨ps, q, _⟩ := s.tb a z
    rw [q]; simp
  · cases e : H a with
    | none => exact absurd e h
    | some o => rw [s.keep a o e z]; simp
theorem Step.trans (k : Okk T S H) (a : Step T S H S1 H1) (b : Step T S1 H1 S' H') : Step T S H S' H' :=
  ⟨a.ss.trans b.ss, b.sh, fun c o e n => b.keep c o (a.keep c o e n) n, fun c e => (b.only c (a.dom k e)).trans (a.only c e), b.tb⟩
/-- a new object, shared -/
theorem Okk.new (h : Okk T S H) {p : Addr} {o : HO} (n : H p = none) (no : ∀ ps, o ≠ .tbl ps) : Step T S H (upd S p o) (upd H p o) := by
  have nS : S p = none := h.sh.free n
  have nT : p ∉ T := fun z => by
    obtain ⟨ps, q, _⟩ := h.tb p z
    rw [n] at q; cases q
  refine ⟨fun b u e => ?_, fun b u e => ?_, fun b u e _ => ?_, fun b e => ?_, fun q hq => ?_⟩
  · rw [upd_ne (ne_of_none e nS)]; exact e
  · by_cases hb : b = p
    · subst hb; rw [upd_same] at e ⊢; exact e
    · rw [upd_ne hb] at e ⊢; exact h.sh b u e
  · rw [upd_ne (ne_of_none e n)]; exact e
  · have hb : b ≠ p := fun z => e (z ▸ n)
    rw [upd_ne hb]
  · have hb : q ≠ p := fun z => nT (z ▸ hq)
    rw [upd_ne hb]; exact h.tb q hq
/-- a new object of one's own: not in S -/
theorem Okk.newO (h : Okk T S H) {p : Addr} {o : HO} (n : H p = none) : Step T S H S (upd H p o) := by
  have nS : S p = none := h.sh.free n
  have nT : p ∉ T := fun z => by
    obtain ⟨ps, q, _⟩ := h.tb p z
    rw [n] at q; cases q
  refine ⟨fun b u e => e, fun b u e => ?_, fun b u e _ => ?_, fun b e => rfl, fun q hq => ?_⟩
  · rw [upd_ne (ne_of_none e nS)]; exact h.sh b u e
  · rw [upd_ne (ne_of_none e n)]; exact e
  · have hb : q ≠ p := fun z => nT (z ▸ hq)
    rw [upd_ne hb]; exact h.tb q hq
/-- an object of one's own becomes shared -/
theorem Okk.share (h : Okk T S H) {p : Addr} {o : HO} (e : H p = some o) (n : S p = none) (no : ∀ ps, o ≠ .tbl ps) : Okk T (upd S p o) H ∧ Same S (upd S p o) := by
  have nT := h.nT e no
  refine ⟨⟨fun b u q => ?_, h.tb, fun b hb => ?_⟩, fun b u q => ?_⟩
  · by_cases hb : b = p
    · subst hb; rw [upd_same] at q; cases q; exact e
    · rw [upd_ne hb] at q; exact h.sh b u q
  · have z : b ≠ p := fun z => nT (z ▸ hb)
    rw [upd_ne z]; exact h.no b hb
  · rw [upd_ne (ne_of_none q n)]; exact q
end

/-! ### slots -/
inductive SD where
  | sh (d : D)
  | owl (ds : List D)
  | own (kvs : List (D × D))
  | owk (kvs : List (D × D))
abbrev Sl := List (Option SD)
def SD.mine : SD → Bool
  | .sh _ => false
  | _ => true
/-- what stands at one's own address -/
inductive OwR (P : Program) (w : World) (S : Hp) (a : Addr) : SD → HO → Prop
  | owl {vs : List V} {ds : List D} : RpL P w S vs ds → OwR P w S a (.owl ds) (.lst vs)
  | own {ob : Obj} {xs : List Ent} {kvs : List (D × D)} : EntL P w S xs kvs → OwR P w S a (.own kvs) (DN P w a ob xs)
  | owk {ks : List (Key × V)} {kvs : List (D × D)} : KvL P w S ks kvs → OwR P w S a (.owk kvs) (.dK ks)
def SlotR (P : Program) (w : World) (S H : Hp) : SD → V → Prop
  | .sh d, v => Rp P w S v d
  | sd, v => ∃ a o, v = .ref a ∧ S a = none ∧ H a = some o ∧ OwR P w S a sd o
theorem OwR.mono {P : Program} {w : World} {S S' : Hp} {a : Addr} {sd : SD} {o : HO} (h : Same S S') (r : OwR P w S a sd o) : OwR P w S' a sd o := by
  cases r with
  | owl r => exact .owl (r.mono h)
  | own r => exact .own (r.mono h)
  | owk r => exact .owk (r.mono h)
theorem OwR.noT {P : Program} {w : World} {S : Hp} {a : Addr} {sd : SD} {o : HO} (r : OwR P w S a sd o) : ∀ ps, o ≠ .tbl ps := by
  cases r with
  | owl r => exact fun ps z => by cases z
  | own r => exact fun ps z => by unfold DN at z; cases z
  | owk r => exact fun ps z => by cases z
theorem OwR.is {P : Program} {w : World} {S : Hp} {a : Addr} {sd : SD} {o : HO} (r : OwR P w S a sd o) : sd.mine = true := by
  cases r <;> rfl
/-- the data as a value -/
def SD.val : SD → D
  | .sh d => d
  | .owl ds => .list ds
  | .own kvs => .dict kvs
  | .owk kvs => .dict kvs
theorem OwR.rp {P : Program} {w : World} {S : Hp} {a : Addr} {sd : SD} {o : HO} (r : OwR P w S a sd o) (e : S a = some o) : Rp P w S (.ref a) sd.val := by
  cases r with
  | owl r => exact .lst e r
  | own r => exact .dn e r
  | owk r => exact .dk e r
theorem SlotR.own {P : Program} {w : World} {S H : Hp} {sd : SD} {v : V} (m : sd.mine = true) (h : SlotR P w S H sd v) : ∃ a o, v = .ref a ∧ S a = none ∧ H a = some o ∧ OwR P w S a sd o := by
  cases sd with
  | sh d => cases m
  | _ => exact h
theorem SlotR.mk {P : Program} {w : World} {S H : Hp} {sd : SD} {a : Addr} {o : HO} (r : OwR P w S a sd o) (n : S a = none) (e : H a = some o) : SlotR P w S H sd (.ref a) := by
  cases r with
  | owl r => exact ⟨a, _, rfl, n, e, .owl r⟩
  | own r => exact ⟨a, _, rfl, n, e, .own r⟩
  | owk r => exact ⟨a, _, rfl, n, e, .owk r⟩

/-- the state of a body: B the heaps at the entry -/
structure SOk (P : Program) (w : World) (T : List Addr) (B : Hp × Hp) (S : Hp) (σ : L2.St) (H : Hp) (δ : Sl) : Prop where
  okB : Okk T B.1 B.2
  base : Step T B.1 B.2 S H
  len : σ.length = δ.length
  slot : ∀ (i : Nat) (sd : SD), δ[i]? = some (some sd) → ∃ v, σ[i]? = some (some v) ∧ SlotR P w S H sd v
  new : ∀ (i : Nat) (sd : SD) (a : Addr), δ[i]? = some (some sd) → sd.mine = true → σ[i]? = some (some (.ref a)) → B.2 a = none
  inj : ∀ (i j : Nat) (sd sd' : SD) (a : Addr), δ[i]? = some (some sd) → sd.mine = true → δ[j]? = some (some sd') → sd'.mine = true → σ[i]? = some (some (.ref a)) → σ[j]? = some (some (.ref a)) → i = j
section
variable {P : Program} {w : World} {T : List Addr} {B : Hp × Hp} {S S' H H' : Hp} {σ : L2.St} {δ : Sl}
theorem SOk.okk (h : SOk P w T B S σ H δ) : Okk T S H := h.okB.step h.base
/-- behind an expression -/
theorem SOk.step (h : SOk P w T B S σ H δ) (s : Step T S H S' H') : SOk P w T B S' σ H' δ := by
  refine ⟨h.okB, h.base.trans h.okB s, h.len, fun i sd e => ?_, h.new, h.inj⟩
  obtain ⟨v, e1, r⟩ := h.slot i sd e
  refine ⟨v, e1, ?_⟩
  cases hm : sd.mine with
  | false =>
    cases sd with
    | sh d => exact Rp.mono s.ss r
    | _ => cases hm
  | true =>
    obtain ⟨a, o, rfl, n, ea, q⟩ := SlotR.own hm r
    exact SlotR.mk (q.mono s.ss) (by rw [s.only a (by rw [ea]; simp)]; exact n) (s.keep a o ea (h.okk.nT ea q.noT))
/-- a shared value goes to a slot -/
theorem SOk.setS (h : SOk P w T B S σ H δ) (i : Nat) {v : V} {d : D} (r : Rp P w S v d) : SOk P w T B S (σ.set i (some v)) H (δ.set i (some (.sh d))) := by
  have old : ∀ (j : Nat) (sd : SD), (δ.set i (some (.sh d)))[j]? = some (some sd) → sd.mine = true → j ≠ i ∧ δ[j]? = some (some sd) := fun j sd e m => by
    by_cases z : j = i
    · subst z
      by_cases hl : j < δ.length
      · rw [List.getElem?_set_self hl] at e
        cases e
        cases m
      · rw [List.getElem?_eq_none (by simpa using hl)] at e; cases e
    · rw [List.getElem?_set_ne (Ne.symm z)] at e
      exact ⟨z, e⟩
  refine ⟨h.okB, h.base, by rw [List.length_set, List.length_set]; exact h.len, fun j sd e => ?_, fun j sd a e m q => ?_, fun j k sd sd' a e1 m1 e2 m2 q1 q2 => ?_⟩
  · by_cases z : j = i
    · subst z
      by_cases hl : j < δ.length
      · rw [List.getElem?_set_self hl] at e
        cases e
        exact ⟨v, by rw [List.getElem?_set_self (by rw [h.len]; exact hl)], r⟩
      · rw [List.getElem?_eq_none (by simpa using hl)] at e; cases e
    · rw [List.getElem?_set_ne (Ne.symm z)] at e
      rw [List.getElem?_set_ne (Ne.symm z)]
      exact h.slot j sd e
  · obtain ⟨z, e⟩ := old j sd e m
    rw [List.getElem?_set_ne (Ne.symm z)] at q
    exact h.new j sd a e m q
  · obtain ⟨z1, e1⟩ := old j sd e1 m1
    obtain ⟨z2, e2⟩ := old k sd' e2 m2
    rw [List.getElem?_set_ne (Ne.symm z1)] at q1
    rw [List.getElem?_set_ne (Ne.symm z2)] at q2
    exact h.inj j k sd sd' a e1 m1 e2 m2 q1 q2
/-- one's own new object goes to a slot; it is new to the state H0 ahead of it -/
theorem SOk.setO {S0 H0 : Hp} (h0 : SOk P w T B S0 σ H0 δ) (h : SOk P w T B S σ H δ) (i : Nat) {a : Addr} {sd : SD} (m : sd.mine = true) (n : H0 a = none) (r : SlotR P w S H sd (.ref a)) :
    SOk P w T B S (σ.set i (some (.ref a))) H (δ.set i (some sd)) := by
  have fresh : ∀ (j : Nat) (sd : SD), δ[j]? = some (some sd) → sd.mine = true → σ[j]? ≠ some (some (.ref a)) := fun j sd e m q => by
    obtain ⟨v, e1, r⟩ := h0.slot j sd e
    obtain ⟨b, o, rfl, _, eb, _⟩ := SlotR.own m r
    rw [q] at e1
    cases e1
    rw [n] at eb; cases eb
  have nB : B.2 a = none := by
    cases e : B.2 a with
    | none => rfl
    | some o => exact absurd n (h0.base.dom h0.okB (by rw [e]; simp))
  refine ⟨h.okB, h.base, by rw [List.length_set, List.length_set]; exact h.len, fun j sd' e => ?_, fun j sd' b e m' q => ?_, fun j k sd1 sd2 b e1 m1 e2 m2 q1 q2 => ?_⟩
  · by_cases z : j = i
    · subst z
      by_cases hl : j < δ.length
      · rw [List.getElem?_set_self hl] at e
        cases e
        exact ⟨.ref a, by rw [List.getElem?_set_self (by rw [h.len]; exact hl)], r⟩
      · rw [List.getElem?_eq_none (by simpa using hl)] at e; cases e
    · rw [List.getElem?_set_ne (Ne.symm z)] at e
      rw [List.getElem?_set_ne (Ne.symm z)]
      exact h.slot j sd' e
  · by_cases z : j = i
    · subst z
      by_cases hl : j < σ.length
      · rw [List.getElem?_set_self hl] at q
        cases q
        exact nB
      · rw [List.getElem?_eq_none (by simpa using hl)] at q; cases q
    · rw [List.getElem?_set_ne (Ne.symm z)] at e q
      exact h.new j sd' b e m' q
  · have at_ : ∀ (l : Nat) (c : Addr), (σ.set i (some (.ref a)))[l]? = some (some (.ref c)) → l = i → c = a := fun l c q z => by
      subst z
      by_cases hl : l < σ.length
      · rw [List.getElem?_set_self hl] at q; cases q; rfl
      · rw [List.getElem?_eq_none (by simpa using hl)] at q; cases q
    by_cases z1 : j = i
    · by_cases z2 : k = i
      · rw [z1, z2]
      · exfalso
        have eb := at_ j b q1 z1
        subst eb
        rw [List.getElem?_set_ne (Ne.symm z2)] at e2 q2
        exact fresh k sd2 e2 m2 q2
    · by_cases z2 : k = i
      · exfalso
        have eb := at_ k b q2 z2
        subst eb
        rw [List.getElem?_set_ne (Ne.symm z1)] at e1 q1
        exact fresh j sd1 e1 m1 q1
      · rw [List.getElem?_set_ne (Ne.symm z1)] at e1 q1
        rw [List.getElem?_set_ne (Ne.symm z2)] at e2 q2
        exact h.inj j k sd1 sd2 b e1 m1 e2 m2 q1 q2
/-- one's own object is written -/
theorem SOk.write (h : SOk P w T B S σ H δ) {i : Nat} {a : Addr} {sd sd' : SD} {o' : HO} (e : δ[i]? = some (some sd)) (m : sd.mine = true) (q : σ[i]? = some (some (.ref a))) (r : OwR P w S a sd' o') :
    SOk P w T B S σ (upd H a o') (δ.set i (some sd')) := by
  obtain ⟨v, e1, r1⟩ := h.slot i sd e
  obtain ⟨b, o, rfl, nS, ea, r2⟩ := SlotR.own m r1
  rw [q] at e1
  cases e1
  have nB := h.new i sd a e m q
  have nT : a ∉ T := h.okk.nT ea r2.noT
  have hil : i < δ.length := (List.getElem?_eq_some_iff.mp e).1
  have hs : Same S (upd H a o') := fun b u z => by rw [upd_ne (ne_of_none z nS)]; exact h.base.sh b u z
  refine ⟨h.okB, ⟨h.base.ss, hs, fun b u z n => ?_, h.base.only, fun p hp => ?_⟩, by rw [List.length_set]; exact h.len, fun j sd1 e1 => ?_, fun j sd1 b e1 m1 q1 => ?_, fun j k sd1 sd2 b e1 m1 e2 m2 q1 q2 => ?_⟩
  · rw [upd_ne (ne_of_none z nB)]; exact h.base.keep b u z n
  · have hb : p ≠ a := fun z => nT (z ▸ hp)
    rw [upd_ne hb]; exact h.base.tb p hp
  · by_cases z : j = i
    · subst z
      rw [List.getElem?_set_self hil] at e1
      cases e1
      exact ⟨.ref a, q, SlotR.mk r nS upd_same⟩
    · rw [List.getElem?_set_ne (Ne.symm z)] at e1
      obtain ⟨v, e2, r3⟩ := h.slot j sd1 e1
      refine ⟨v, e2, ?_⟩
      cases hm : sd1.mine with
      | false =>
        cases sd1 with
        | sh d => exact r3
        | _ => cases hm
      | true =>
        obtain ⟨c, u, rfl, n3, ec, r4⟩ := SlotR.own hm r3
        have hc : c ≠ a := fun z' => by
          subst z'
          exact z (h.inj j i sd1 sd c e1 hm e m e2 q)
        exact SlotR.mk r4 n3 (by rw [upd_ne hc]; exact ec)
  · by_cases z : j = i
    · subst z
      rw [q] at q1; cases q1; exact nB
    · rw [List.getElem?_set_ne (Ne.symm z)] at e1
      exact h.new j sd1 b e1 m1 q1
  · have back : ∀ (l : Nat) (sd3 : SD), (δ.set i (some sd'))[l]? = some (some sd3) → sd3.mine = true → ∃ sd4, δ[l]? = some (some sd4) ∧ sd4.mine = true := fun l sd3 e3 m3 => by
      by_cases z : l = i
      · subst z; exact ⟨sd, e, m⟩
      · rw [List.getElem?_set_ne (Ne.symm z)] at e3; exact ⟨sd3, e3, m3⟩
    obtain ⟨_, f1, g1⟩ := back j sd1 e1 m1
    obtain ⟨_, f2, g2⟩ := back k sd2 e2 m2
    exact h.inj j k _ _ b f1 g1 f2 g2 q1 q2
/-- one's own object becomes shared -/
theorem SOk.freeze (h : SOk P w T B S σ H δ) {i : Nat} {sd : SD} (e : δ[i]? = some (some sd)) (m : sd.mine = true) :
    ∃ S', Same S S' ∧ SOk P w T B S' σ H (δ.set i (some (.sh sd.val))) := by
  obtain ⟨v, e1, r1⟩ := h.slot i sd e
  obtain ⟨a, o, rfl, nS, ea, r2⟩ := SlotR.own m r1
  have nB := h.new i sd a e m e1
  obtain ⟨k, ss⟩ := h.okk.share ea nS r2.noT
  have hil : i < δ.length := (List.getElem?_eq_some_iff.mp e).1
  refine ⟨upd S a o, ss, h.okB, ⟨h.base.ss.trans ss, k.sh, h.base.keep, fun b z => ?_, h.base.tb⟩, by rw [List.length_set]; exact h.len, fun j sd1 e2 => ?_, fun j sd1 b e2 m1 q1 => ?_, fun j k sd1 sd2 b f1 m1 f2 m2 q1 q2 => ?_⟩
  · have hb : b ≠ a := fun z' => z (z' ▸ nB)
    rw [upd_ne hb]; exact h.base.only b z
  · by_cases z : j = i
    · subst z
      rw [List.getElem?_set_self hil] at e2
      cases e2
      exact ⟨.ref a, e1, (r2.mono ss).rp upd_same⟩
    · rw [List.getElem?_set_ne (Ne.symm z)] at e2
      obtain ⟨v, e3, r3⟩ := h.slot j sd1 e2
      refine ⟨v, e3, ?_⟩
      cases hm : sd1.mine with
      | false =>
        cases sd1 with
        | sh d => exact Rp.mono ss r3
        | _ => cases hm
      | true =>
        obtain ⟨c, u, rfl, n3, ec, r4⟩ := SlotR.own hm r3
        have hc : c ≠ a := fun z' => by
          subst z'
          exact z (h.inj j i sd1 sd c e2 hm e m e3 e1)
        exact SlotR.mk (r4.mono ss) (by rw [upd_ne hc]; exact n3) ec
  · by_cases z : j = i
    · subst z
      rw [List.getElem?_set_self hil] at e2; cases e2; cases m1
    · rw [List.getElem?_set_ne (Ne.symm z)] at e2
      exact h.new j sd1 b e2 m1 q1
  · have ne : ∀ (l : Nat) (sd3 : SD), (δ.set i (some (.sh sd.val)))[l]? = some (some sd3) → sd3.mine = true → δ[l]? = some (some sd3) := fun l sd3 e3 m3 => by
      by_cases z : l = i
      · subst z; rw [List.getElem?_set_self hil] at e3; cases e3; cases m3
      · rw [List.getElem?_set_ne (Ne.symm z)] at e3; exact e3
    exact h.inj j k sd1 sd2 b (ne j sd1 f1 m1) m1 (ne k sd2 f2 m2) m2 q1 q2
/-- slots forgotten -/
theorem SOk.forget (h : SOk P w T B S σ H δ) {σ' : L2.St} {δ' : Sl} (hl : σ'.length = δ'.length) (hs : ∀ (i : Nat) (sd : SD), δ'[i]? = some (some sd) → δ[i]? = some (some sd) ∧ σ'[i]? = σ[i]?) : SOk P w T B S σ' H δ' := by
  refine ⟨h.okB, h.base, hl, fun i sd e => ?_, fun i sd a e m q => ?_, fun i j sd sd' a e m e' m' q q' => ?_⟩
  · obtain ⟨e1, e2⟩ := hs i sd e
    obtain ⟨v, e3, r⟩ := h.slot i sd e1
    exact ⟨v, e2.trans e3, r⟩
  · obtain ⟨e1, e2⟩ := hs i sd e
    exact h.new i sd a e1 m (e2.symm.trans q)
  · obtain ⟨e1, e2⟩ := hs i sd e
    obtain ⟨e3, e4⟩ := hs j sd' e'
    exact h.inj i j sd sd' a e1 m e3 m' (e2.symm.trans q) (e4.symm.trans q')
end
end Gd

set_option maxHeartbeats 2000000
/-! GdB: expressions over plain data. -/
namespace Gd
open PySem PySem.Spec PyProof.Rows L2

theorem PE_imp {X : Cx} {e : Expr} {t t' : TE} (h : PE X e t) (i : ∀ σ H Q, t' σ H Q → t σ H Q) : PE X e t' := ⟨fun pins s σ H Q I q => h.run pins s σ H Q I (i σ H Q q)⟩
theorem PT_imp {X : Cx} {e : Expr} {t t' : TT} (h : PT X e t) (i : ∀ σ H Q, t' σ H Q → t σ H Q) : PT X e t' := ⟨fun pins s σ H Q I q => h.run pins s σ H Q I (i σ H Q q)⟩
theorem PW_imp {X : Cx} {e : Expr} {t t' : TT} (h : PW X e t) (i : ∀ σ H Q, t' σ H Q → t σ H Q) : PW X e t' := ⟨fun wh pins s σ H Q I q => h.run wh pins s σ H Q I (i σ H Q q)⟩
theorem PA_imp {X : Cx} {es : List Expr} {t t' : TA} (h : PA X es t) (i : ∀ σ H Q, t' σ H Q → t σ H Q) : PA X es t' := ⟨fun pos pins s σ H Q I q => h.run pos pins s σ H Q I (i σ H Q q)⟩
theorem PS_imp {X : Cx} {e : Stmt} {t t' : TS} (h : PS X e t) (i : ∀ D σ H, t' D σ H → t D σ H) : PS X e t' := ⟨fun pins s σ H D I q => h.run pins s σ H D I (i D σ H q)⟩
theorem PSs_imp {X : Cx} {e : List Stmt} {t t' : TS} (h : PSs X e t) (i : ∀ D σ H, t' D σ H → t D σ H) : PSs X e t' := ⟨fun pins s σ H D I q => h.run pins s σ H D I (i D σ H q)⟩

/-! ### readings -/
def tD (P : Program) (w : World) (T : List Addr) (f : Sl → Option D) : TE := fun σ H Q => ∃ (B : Hp × Hp) (S : Hp) (δ : Sl) (d : D), SOk P w T B S σ H δ ∧ f δ = some d ∧ ∀ v S' H', Step T S H S' H' → Rp P w S' v d → Q v H'
def tDT (P : Program) (w : World) (T : List Addr) (f : Sl → Option Bool) : TT := fun σ H Q => ∃ (B : Hp × Hp) (S : Hp) (δ : Sl) (d : Bool), SOk P w T B S σ H δ ∧ f δ = some d ∧ ∀ S' H', Step T S H S' H' → Q d H'
def tDA (P : Program) (w : World) (T : List Addr) (f : Sl → Option (List D)) : TA := fun σ H Q => ∃ (B : Hp × Hp) (S : Hp) (δ : Sl) (d : List D), SOk P w T B S σ H δ ∧ f δ = some d ∧ ∀ v S' H', Step T S H S' H' → RpL P w S' v d → Q v H'
/-- a new object of one's own -/
def tF (P : Program) (w : World) (T : List Addr) (f : Sl → Option SD) : TE := fun σ H Q => ∃ (B : Hp × Hp) (S : Hp) (δ : Sl) (sd : SD), SOk P w T B S σ H δ ∧ f δ = some sd ∧
  ∀ a o S' H', Step T S H S' H' → H a = none → S' a = none → H' a = some o → OwR P w S' a sd o → Q (.ref a) H'
abbrev PD (T : List Addr) (X : Cx) (e : Expr) (f : Sl → Option D) : Prop := PE X e (tD X.prog X.w T f)
abbrev PTd (T : List Addr) (X : Cx) (e : Expr) (f : Sl → Option Bool) : Prop := PT X e (tDT X.prog X.w T f)
abbrev PWd (T : List Addr) (X : Cx) (e : Expr) (f : Sl → Option Bool) : Prop := PW X e (tDT X.prog X.w T f)
abbrev PAd (T : List Addr) (X : Cx) (es : List Expr) (f : Sl → Option (List D)) : Prop := PA X es (tDA X.prog X.w T f)
abbrev PF (T : List Addr) (X : Cx) (e : Expr) (f : Sl → Option SD) : Prop := PE X e (tF X.prog X.w T f)

/-! ### combinators -/
def dv (i : Nat) : Sl → Option D := fun δ => match δ[i]? with
  | some (some (.sh d)) => some d
  | _ => none
def dc (d : D) : Sl → Option D := fun _ => some d
def d1 (g : D → Option D) (a : Sl → Option D) : Sl → Option D := fun δ => (a δ).bind g
def d2 (g : D → D → Option D) (a b : Sl → Option D) : Sl → Option D := fun δ => (a δ).bind fun x => (b δ).bind fun y => g x y
def dl (g : List D → Option D) (a : Sl → Option (List D)) : Sl → Option D := fun δ => (a δ).bind g
def an : Sl → Option (List D) := fun _ => some []
def ac (a : Sl → Option D) (r : Sl → Option (List D)) : Sl → Option (List D) := fun δ => (a δ).bind fun x => (r δ).map fun xs => x :: xs
def seqOf : D → Option (List D)
  | .list ds => some ds
  | .tuple ds => some ds
  | _ => none
/-- *a, .. -/
def as (a : Sl → Option D) (r : Sl → Option (List D)) : Sl → Option (List D) := fun δ => (a δ).bind fun x => (seqOf x).bind fun ys => (r δ).map fun xs => ys ++ xs
/-- a test of a value -/
def boolD : D → Option Bool
  | .bool b => some b
  | _ => none
def tb (a : Sl → Option D) : Sl → Option Bool := fun δ => (a δ).bind boolD
def bt (a : Sl → Option Bool) : Sl → Option D := fun δ => (a δ).map .bool
def truthD : D → Option Bool
  | .none => some false
  | .bool b => some b
  | .int i => some (i != 0)
  | .list ds => some (!ds.isEmpty)
  | .tuple ds => some (!ds.isEmpty)
  | _ => none
def tt1 (a : Sl → Option D) : Sl → Option Bool := fun δ => (a δ).bind truthD
def tand (a b : Sl → Option Bool) : Sl → Option Bool := fun δ => (a δ).bind fun x => if x = true then b δ else some false
def tor (a b : Sl → Option Bool) : Sl → Option Bool := fun δ => (a δ).bind fun x => if x = true then some true else b δ
def tnot (a : Sl → Option Bool) : Sl → Option Bool := fun δ => (a δ).map fun x => !x
def dif (c : Sl → Option Bool) (a b : Sl → Option D) : Sl → Option D := fun δ => (c δ).bind fun x => if x = true then a δ else b δ

section
variable {T : List Addr} {X : Cx} {e a b c : Expr} {es : List Expr} {pos : Pos}

theorem pd_of_pf {f : Sl → Option SD} (h : PF T X e f) : PD T X e (fun δ => (f δ).map SD.val) := by
  refine PE_imp h fun σ H Q q => ?_
  obtain ⟨B, S, δ, d, k, ed, q⟩ := q
  obtain ⟨sd, e1, e2⟩ := Option.map_eq_some_iff.mp ed
  refine ⟨B, S, δ, sd, k, e1, fun a o S' H' s n nS ea r => ?_⟩
  obtain ⟨k', ss⟩ := (k.step s).okk.share ea nS r.noT
  have s2 : Step T S H (upd S' a o) H' := ⟨s.ss.trans ss, k'.sh, s.keep, fun b hb => by
    have hb' : b ≠ a := fun z => hb (z ▸ n)
    rw [upd_ne hb']; exact s.only b hb, s.tb⟩
  exact q _ _ _ s2 (e2 ▸ (r.mono ss).rp upd_same)

/-! names, constants -/
theorem pd_v (i : Nat) {x : Str} (h : PE X (.Name x pos) (tVar i)) : PD T X (.Name x pos) (dv i) := by
  refine PE_imp h fun σ H Q q => ?_
  obtain ⟨B, S, δ, d, k, ed, q⟩ := q
  unfold dv at ed
  split at ed
  · rename_i d' hd
    cases ed
    obtain ⟨v, e1, r⟩ := k.slot i _ hd
    exact ⟨v, e1, q v S H k.okk.refl r⟩
  · cases ed
theorem pd_c {v : V} {d : D} (h : PE X e (tC v)) (r : ∀ S, Rp X.prog X.w S v d) : PD T X e (dc d) := by
  refine PE_imp h fun σ H Q q => ?_
  obtain ⟨B, S, δ, d', k, ed, q⟩ := q
  cases ed
  exact q v S H k.okk.refl (r S)
theorem pd_int {i : Int} {j : Nat} : PD T X (.Constant (.int i) j pos) (dc (.int i)) := pd_c pe_int fun _ => .int i
theorem pd_bl {i : Bool} {j : Nat} : PD T X (.Constant (.bool i) j pos) (dc (.bool i)) := pd_c pe_bl fun _ => .bl i
theorem pd_non {j : Nat} : PD T X (.Constant .none j pos) (dc .none) := pd_c pe_non fun _ => .non
/-- a module's constant -/
theorem pd_gint {x : Str} {i : Int} {t : Tok} (hg : Gl X x) (hm : X.mg x = some (.int i t)) (hd : (x == ("__debug__" : Str)) = false := by decide) : PD T X (.Name x pos) (dc (.int i)) := pd_c (pe_glob (v := .int i) hg hm ⟨t, rfl⟩ hd) fun _ => .int i

/-! arguments -/
theorem pa_n : PAd T X [] an := by
  refine PA_imp pa_nil fun σ H Q q => ?_
  obtain ⟨B, S, δ, d, k, ed, q⟩ := q
  cases ed
  exact q [] S H k.okk.refl .nil
theorem pa_c {f : Sl → Option D} {r : Sl → Option (List D)} (ha : PD T X e f) (hr : PAd T X es r) (hs : starEach (e :: es) X.env = (false, eval e X.env) :: starEach es X.env := by rfl) : PAd T X (e :: es) (ac f r) := by
  refine PA_imp (pa_cons ha hr hs) fun σ H Q q => ?_
  obtain ⟨B, S, δ, d, k, ed, q⟩ := q
  obtain ⟨x, e1, ed⟩ := Option.bind_eq_some_iff.mp ed
  obtain ⟨xs, e2, ed⟩ := Option.map_eq_some_iff.mp ed
  subst ed
  refine ⟨B, S, δ, x, k, e1, fun v S1 H1 s1 r1 => ⟨B, S1, δ, xs, k.step s1, e2, fun vs S2 H2 s2 r2 => ?_⟩⟩
  exact q _ S2 H2 (Step.trans k.okk s1 s2) (.cons (r1.mono s2.ss) r2)
theorem star_ok {pins : List (Addr × Obj)} {σ : L2.St} {H S : Hp} {s : Shared} {v : V} {u : Value} {d : D} {ds : List D} {E : Value → Shared → Prop} {Q : List Value → Shared → Prop} (I : Inv X pins σ H s) (sh : Same S H) (r : Rp X.prog X.w S v d) (rv : RelV v u) (hd : seqOf d = some ds)
    (h : ∀ us vs s', Inv X pins σ H s' → Vals vs us → RpL X.prog X.w S vs ds → Q us s') : PySem.W.StarOf (model X.prog X.w) X.A E u Q s := by
  have fin : ∀ (a : Addr) (o : Obj) (TT : String) (its : List Value) (n : Nat) (vs : List V), s.heap.get? a = some o → o.cls = .type TT → o.data = .seq its.toArray n → TT = "list" ∨ TT = "tuple" → Vals vs its → RpL X.prog X.w S vs ds → vs.length ≤ sizeLine →
      PySem.W.StarOf (model X.prog X.w) X.A E (.ref a) Q s := by
    intro a o TT its n vs ho hc hdt hT rvs rds hz
    have hT' : s.TypeIs (.ref a) TT := ⟨o, ho, hc⟩
    have z : wpAny (model X.prog X.w) X.A (collect (.ref a)) Q E s := by
      refine wpAny_collect_seq a hT ho hc hdt (fun h' hk => ?_) (by rw [List.size_toArray, ← rvs.length]; exact hz)
      exact h _ vs _ (I.kept (t' := s.toks) hk) (by simpa using rvs) rds
    unfold PySem.W.StarOf notIterableAtAll
    rcases hT with rfl | rfl
    · exact wpAny_bind (wpAny_specialOf hT' PySem.F.slot_list_iter.lookup (wpAny_pure ⟨rfl, z⟩))
    · exact wpAny_bind (wpAny_specialOf hT' PySem.F.slot_tuple_iter.lookup (wpAny_pure ⟨rfl, z⟩))
  cases r with
  | @lst a vs ds' e r =>
    cases hd
    cases rv
    obtain ⟨hz, its, n, rvs, ho⟩ : vs.length ≤ sizeLine ∧ ∃ (its : List Value) (n : Nat), Vals vs its ∧ s.heap.get? a = some { cls := .type "list", data := .seq its.toArray n } := I.hok a _ (sh _ _ e)
    exact fin a _ "list" its n vs ho rfl rfl (.inl rfl) rvs r hz
  | @tup a vs ds' e r =>
    cases hd
    cases rv
    obtain ⟨hz, its, rvs, o, ho, hc, n, hdt⟩ : vs.length ≤ sizeLine ∧ ∃ its : List Value, Vals vs its ∧ IsTup s.heap a its.toArray := I.hok a _ (sh _ _ e)
    exact fin a o "tuple" its n vs ho hc hdt (.inr rfl) rvs r hz
  | _ => cases hd
theorem pa_s {f : Sl → Option D} {r : Sl → Option (List D)} {p : Pos} (ha : PD T X e f) (hr : PAd T X es r) (hs : starEach (.Starred e p :: es) X.env = (true, eval e X.env) :: starEach es X.env := by rfl) : PAd T X (.Starred e p :: es) (as f r) := by
  refine ⟨fun pos pins s σ H Q I q => ?_⟩
  obtain ⟨B, S, δ, d, k, ed, q⟩ := q
  obtain ⟨x, e1, ed⟩ := Option.bind_eq_some_iff.mp ed
  obtain ⟨ys, e3, ed⟩ := Option.bind_eq_some_iff.mp ed
  obtain ⟨xs, e2, ed⟩ := Option.map_eq_some_iff.mp ed
  subst ed
  refine PySem.W.items_star (thn (ha.run pins s σ H (fun v H1 => ∃ S1, Step T S H S1 H1 ∧ Rp X.prog X.w S1 v x) I ⟨B, S, δ, x, k, e1, fun v S1 H1 s1 r1 => ⟨S1, s1, r1⟩⟩) fun u s1 ⟨v, H1, I1, rv, S1, st1, r1⟩ => ?_) hs
  refine star_ok I1 st1.sh r1 rv e3 fun us vs s2 I2 rvs rds => ?_
  refine thn (hr.run pos pins s2 σ H1 (fun ws H2 => ∃ S2, Step T S1 H1 S2 H2 ∧ RpL X.prog X.w S2 ws xs) I2 ⟨B, S1, δ, xs, k.step st1, e2, fun ws S2 H2 s2 r2 => ⟨S2, s2, r2⟩⟩) fun us2 s3 ⟨ws, H2, I3, rws, S2, st2, r2⟩ => ?_
  exact ⟨vs ++ ws, H2, I3, rvs.append rws, q _ S2 H2 (Step.trans k.okk st1 st2) ((rds.mono st2.ss).append r2)⟩

/-! displays -/
def mkT (ds : List D) : Option D := if ds.length ≤ 1000000 then some (.tuple ds) else none
def mkL (ds : List D) : Option D := if ds.length ≤ 1000000 then some (.list ds) else none
theorem line_big {n : Nat} (h : n ≤ 1000000) : n < sizeLine := by rw [sizeLine_eq]; omega
theorem Okk.tup {P : Program} {w : World} {S H : Hp} {p : Addr} {vs : List V} {ds : List D} (k : Okk T S H) (n : H p = none) (r : RpL P w S vs ds) : Step T S H (upd S p (.tup vs)) (upd H p (.tup vs)) ∧ Rp P w (upd S p (.tup vs)) (.ref p) (.tuple ds) := by
  have s := k.new n (o := .tup vs) (fun ps z => by cases z)
  exact ⟨s, .tup upd_same (r.mono s.ss)⟩
theorem Okk.lst {P : Program} {w : World} {S H : Hp} {p : Addr} {vs : List V} {ds : List D} (k : Okk T S H) (n : H p = none) (r : RpL P w S vs ds) : Step T S H (upd S p (.lst vs)) (upd H p (.lst vs)) ∧ Rp P w (upd S p (.lst vs)) (.ref p) (.list ds) := by
  have s := k.new n (o := .lst vs) (fun ps z => by cases z)
  exact ⟨s, .lst upd_same (r.mono s.ss)⟩
theorem pd_tup {f : Sl → Option (List D)} {x1} (h : PAd T X es f) : PD T X (.Tuple es x1 pos) (dl mkT f) := by
  refine PE_imp (pe_tup h) fun σ H Q q => ?_
  obtain ⟨B, S, δ, d, k, ed, q⟩ := q
  obtain ⟨ds, e1, ed⟩ := Option.bind_eq_some_iff.mp ed
  unfold mkT at ed
  split at ed
  · rename_i hl
    cases ed
    refine ⟨B, S, δ, ds, k, e1, fun vs S1 H1 s1 r1 => ⟨by rw [r1.length]; exact Nat.le_of_lt (line_big hl), fun p np => ?_⟩⟩
    obtain ⟨s2, r2⟩ := (k.step s1).okk.tup np r1
    exact q _ _ _ (Step.trans k.okk s1 s2) r2
  · cases ed
/-- a list display, one's own -/
def fl (f : Sl → Option (List D)) : Sl → Option SD := fun δ => (f δ).bind fun ds => if ds.length ≤ 1000000 then some (.owl ds) else none
theorem pf_lst {f : Sl → Option (List D)} (h : PAd T X es f) : PF T X (.List es pos) (fl f) := by
  refine PE_imp (pe_lst h) fun σ H Q q => ?_
  obtain ⟨B, S, δ, d, k, ed, q⟩ := q
  obtain ⟨ds, e1, ed⟩ := Option.bind_eq_some_iff.mp ed
  split at ed
  · rename_i hl
    cases ed
    refine ⟨B, S, δ, ds, k, e1, fun vs S1 H1 s1 r1 => ⟨by rw [r1.length]; exact Nat.le_of_lt (line_big hl), fun p np => ?_⟩⟩
    have s2 := (k.step s1).okk.newO np (o := .lst vs)
    exact q _ _ _ _ (Step.trans k.okk s1 s2) (by
      cases e : H p with
      | none => rfl
      | some u => exact absurd np (s1.dom k.okk (by rw [e]; simp))) ((k.step s1).okk.sh.free np) upd_same (.owl r1)
  · cases ed
theorem pd_lst {f : Sl → Option (List D)} (h : PAd T X es f) : PD T X (.List es pos) (dl mkL f) := by
  refine PE_imp (pd_of_pf (pf_lst h)) fun σ H Q q => ?_
  obtain ⟨B, S, δ, d, k, ed, q⟩ := q
  refine ⟨B, S, δ, d, k, ?_, q⟩
  show (fl f δ).map SD.val = some d
  obtain ⟨ds, e1, ed⟩ := Option.bind_eq_some_iff.mp ed
  unfold mkL at ed
  unfold fl
  rw [e1]
  show ((if ds.length ≤ 1000000 then some (SD.owl ds) else none).map SD.val) = some d
  split at ed
  · rename_i hl
    rw [if_pos hl]; exact ed
  · cases ed
theorem dn_ok {P : Program} {w : World} {H : Hp} {h : Heap} {a : Addr} {ob : Obj} {xs : List Ent} (h1 : (a == sysModules) = false) (h2 : xs.length ≤ sizeLine) (h3 : (xs.map (·.1)).Nodup) (h5 : h.get? a = some ob)
    (h4 : ∃ es ep, ob.ExactDict ∧ ob.data = .dict es ep ∧ es.toList = xs.map (entryOfKey (nestedKind P w))) : ObjOk P w H h a (DN P w a ob xs) := by
  refine ⟨⟨h1, h2, h3, h5, h4⟩, ⟨ob, h5⟩, fun g1 g2 q k => ?_⟩
  obtain ⟨q1, q2, q3, e, r⟩ := q
  exact ⟨q1, q2, q3, k ob e, r⟩
/-- {}: a dict of one's own, keys tuples -/
theorem pf_dn : PF T X (.Dict [] [] pos) (fun _ => some (.own [])) := by
  refine ⟨fun pins s σ H Q I q => ?_⟩
  obtain ⟨B, S, δ, d, k, ed, q⟩ := q
  cases ed
  have nH : H s.heap.objs.size = none := I.hok.fresh (Nat.le_refl _)
  refine wpAny_Dict_empty ⟨.ref s.heap.objs.size, _, I.laid (a := s.heap.objs.size) (o := DN X.prog X.w s.heap.objs.size { cls := .type "dict", data := .dict #[] } []) (t' := s.toks) (fun _ _ q => Heap.get?_push_of_some _ q) (Nat.le_refl _) ?_, rfl, q _ _ _ _ (k.okk.newO nH) nH (k.okk.sh.free nH) upd_same (.own .nil)⟩
  exact dn_ok (beq_eq_false_iff_ne.mpr (Ne.symm (Nat.ne_of_lt I.big))) (Nat.zero_le _) List.nodup_nil (Heap.get?_push_size _ rfl) ⟨#[], 0, ⟨rfl, rfl, rfl⟩, rfl, rfl⟩
/-- {}: a dict of one's own, keys ints -/
theorem pf_dk : PF T X (.Dict [] [] pos) (fun _ => some (.owk [])) := by
  refine PE_imp pe_dnewK fun σ H Q q => ?_
  obtain ⟨B, S, δ, d, k, ed, q⟩ := q
  cases ed
  intro p np
  exact q _ _ _ _ (k.okk.newO np) np (k.okk.sh.free np) upd_same (.owk .nil)

/-! tests -/
theorem pt_b {f : Sl → Option D} (h : PD T X e f) (he : ∀ whole, isTrue e X.env whole = (do let v ← whole; standAt e.pos; holding [v] (truthy v)) := by intro _; rfl) : PTd T X e (tb f) := by
  refine PT_imp (pt_val h he) fun σ H Q q => ?_
  obtain ⟨B, S, δ, d, k, ed, q⟩ := q
  obtain ⟨x, e1, ed⟩ := Option.bind_eq_some_iff.mp ed
  refine ⟨B, S, δ, x, k, e1, fun v S' H' s r => ?_⟩
  cases r with
  | bl c => cases ed; exact ⟨d, rfl, q S' H' s⟩
  | _ => cases ed
theorem pt_t {f : Sl → Option D} (h : PD T X e f) (he : ∀ whole, isTrue e X.env whole = (do let v ← whole; standAt e.pos; holding [v] (truthy v)) := by intro _; rfl) : PTd T X e (tt1 f) := by
  refine PT_imp (pt_truth h he) fun σ H Q q => ?_
  obtain ⟨B, S, δ, d, k, ed, q⟩ := q
  obtain ⟨x, e1, ed⟩ := Option.bind_eq_some_iff.mp ed
  refine ⟨B, S, δ, x, k, e1, fun v S' H' s r => ?_⟩
  cases r with
  | non => cases ed; exact ⟨_, rfl, q S' H' s⟩
  | bl b => cases ed; exact ⟨_, rfl, q S' H' s⟩
  | int b => cases ed; exact ⟨_, rfl, q S' H' s⟩
  | @lst a vs ds e r =>
    cases ed
    refine ⟨_, .inl ⟨vs, SqL.of (s.sh _ _ e), rfl⟩, ?_⟩
    have : vs.isEmpty = ds.isEmpty := by cases r <;> rfl
    rw [this]
    exact q S' H' s
  | @tup a vs ds e r =>
    cases ed
    refine ⟨_, .inr (.inl ⟨vs, SqT.of (s.sh _ _ e), rfl⟩), ?_⟩
    have : vs.isEmpty = ds.isEmpty := by cases r <;> rfl
    rw [this]
    exact q S' H' s
  | _ => cases ed
variable {rest : List Expr} {fa fb fc : Sl → Option Bool}
theorem ptd_w (h : PWd T X e fa) : PTd T X e fa := h.pt
theorem pw_a1 (ha : PTd T X a fa) : PWd T X (.BoolOp .And [a] pos) fa := pw_and1 ha
theorem pw_o1 (ha : PTd T X a fa) : PWd T X (.BoolOp .Or [a] pos) fa := pw_or1 ha
theorem pw_a (ha : PTd T X a fa) (hb : PWd T X (.BoolOp .And (b :: rest) pos) fb) : PWd T X (.BoolOp .And (a :: b :: rest) pos) (tand fa fb) := by
  refine PW_imp (pw_and ha hb) fun σ H Q q => ?_
  obtain ⟨B, S, δ, d, k, ed, q⟩ := q
  obtain ⟨x, e1, ed⟩ := Option.bind_eq_some_iff.mp ed
  refine ⟨B, S, δ, x, k, e1, fun S' H' s => ?_⟩
  cases x with
  | true => exact ⟨B, S', δ, d, k.step s, ed, fun S2 H2 s2 => q S2 H2 (Step.trans k.okk s s2)⟩
  | false => cases ed; exact q S' H' s
theorem pw_o (ha : PTd T X a fa) (hb : PWd T X (.BoolOp .Or (b :: rest) pos) fb) : PWd T X (.BoolOp .Or (a :: b :: rest) pos) (tor fa fb) := by
  refine PW_imp (pw_or ha hb) fun σ H Q q => ?_
  obtain ⟨B, S, δ, d, k, ed, q⟩ := q
  obtain ⟨x, e1, ed⟩ := Option.bind_eq_some_iff.mp ed
  refine ⟨B, S, δ, x, k, e1, fun S' H' s => ?_⟩
  cases x with
  | false => exact ⟨B, S', δ, d, k.step s, ed, fun S2 H2 s2 => q S2 H2 (Step.trans k.okk s s2)⟩
  | true => cases ed; exact q S' H' s
theorem pt_n (ha : PTd T X a fa) : PTd T X (.UnaryOp .Not a pos) (tnot fa) := by
  refine PT_imp (pt_not ha) fun σ H Q q => ?_
  obtain ⟨B, S, δ, d, k, ed, q⟩ := q
  obtain ⟨x, e1, ed⟩ := Option.map_eq_some_iff.mp ed
  subst ed
  exact ⟨B, S, δ, x, k, e1, q⟩
/-! .. as values, all of them bools -/
def dand (a b : Sl → Option D) : Sl → Option D := fun δ => (tb a δ).bind fun x => if x = true then b δ else some (.bool false)
def dor (a b : Sl → Option D) : Sl → Option D := fun δ => (tb a δ).bind fun x => if x = true then some (.bool true) else b δ
variable {ga gb gc : Sl → Option D}
theorem tb_rp {S : Hp} {v : V} {x : D} {c : Bool} (r : Rp X.prog X.w S v x) (h : boolD x = some c) : v = .bl c ∧ x = .bool c := by
  cases r with
  | bl b => cases h; exact ⟨rfl, rfl⟩
  | _ => cases h
theorem pd_b1 {op} (h : PD T X a ga) : PD T X (.BoolOp op [a] pos) ga := pe_one h
theorem pd_and (ha : PD T X a ga) (hb : PD T X (.BoolOp .And (b :: rest) pos) gb) : PD T X (.BoolOp .And (a :: b :: rest) pos) (dand ga gb) := by
  refine PE_imp (pe_and ha hb) fun σ H Q q => ?_
  obtain ⟨B, S, δ, d, k, ed, q⟩ := q
  obtain ⟨c, e1, ed⟩ := Option.bind_eq_some_iff.mp ed
  obtain ⟨x, e2, e3⟩ := Option.bind_eq_some_iff.mp e1
  refine ⟨B, S, δ, x, k, e2, fun v S' H' s r => ?_⟩
  obtain ⟨ev, _⟩ := tb_rp r e3
  refine ⟨c, ev, ?_⟩
  cases c with
  | true => exact ⟨B, S', δ, d, k.step s, ed, fun v2 S2 H2 s2 r2 => q v2 S2 H2 (Step.trans k.okk s s2) r2⟩
  | false => cases ed; exact q _ S' H' s (.bl false)
theorem pd_or (ha : PD T X a ga) (hb : PD T X (.BoolOp .Or (b :: rest) pos) gb) : PD T X (.BoolOp .Or (a :: b :: rest) pos) (dor ga gb) := by
  refine PE_imp (pe_or ha hb) fun σ H Q q => ?_
  obtain ⟨B, S, δ, d, k, ed, q⟩ := q
  obtain ⟨c, e1, ed⟩ := Option.bind_eq_some_iff.mp ed
  obtain ⟨x, e2, e3⟩ := Option.bind_eq_some_iff.mp e1
  refine ⟨B, S, δ, x, k, e2, fun v S' H' s r => ?_⟩
  obtain ⟨ev, _⟩ := tb_rp r e3
  refine ⟨c, ev, ?_⟩
  cases c with
  | false => exact ⟨B, S', δ, d, k.step s, ed, fun v2 S2 H2 s2 r2 => q v2 S2 H2 (Step.trans k.okk s s2) r2⟩
  | true => cases ed; exact q _ S' H' s (.bl true)
def notD : D → Option D
  | .bool b => some (.bool (!b))
  | _ => none
theorem pd_not (ha : PD T X a ga) : PD T X (.UnaryOp .Not a pos) (d1 notD ga) := by
  refine PE_imp (pe_not ha) fun σ H Q q => ?_
  obtain ⟨B, S, δ, d, k, ed, q⟩ := q
  obtain ⟨x, e1, ed⟩ := Option.bind_eq_some_iff.mp ed
  refine ⟨B, S, δ, x, k, e1, fun v S' H' s r => ?_⟩
  cases r with
  | bl c => cases ed; exact ⟨c, rfl, q _ S' H' s (.bl _)⟩
  | _ => cases ed
theorem pd_if (hc : PTd T X c fc) (ha : PD T X a ga) (hb : PD T X b gb) : PD T X (.IfExp c a b pos) (dif fc ga gb) := by
  refine PE_imp (pe_ifExp hc ha hb) fun σ H Q q => ?_
  obtain ⟨B, S, δ, d, k, ed, q⟩ := q
  obtain ⟨x, e1, ed⟩ := Option.bind_eq_some_iff.mp ed
  refine ⟨B, S, δ, x, k, e1, fun S' H' s => ?_⟩
  cases x with
  | true => exact ⟨B, S', δ, d, k.step s, ed, fun v2 S2 H2 s2 r2 => q v2 S2 H2 (Step.trans k.okk s s2) r2⟩
  | false => exact ⟨B, S', δ, d, k.step s, ed, fun v2 S2 H2 s2 r2 => q v2 S2 H2 (Step.trans k.okk s s2) r2⟩

/-! ### operations by values -/
def rD (P : Program) (w : World) (T : List Addr) (g : D → D → Option D) : R2 := fun x y H Q => ∃ S dx dy d, Okk T S H ∧ Rp P w S x dx ∧ Rp P w S y dy ∧ g dx dy = some d ∧ ∀ v S' H', Step T S H S' H' → Rp P w S' v d → Q v H'
theorem t2_of {g : D → D → Option D} {σ : L2.St} {H : Hp} {Q : VK} (q : tD X.prog X.w T (d2 g ga gb) σ H Q) : tOp (rD X.prog X.w T g) (tD X.prog X.w T ga) (tD X.prog X.w T gb) σ H Q := by
  obtain ⟨B, S, δ, d, k, ed, q⟩ := q
  obtain ⟨x, e1, ed⟩ := Option.bind_eq_some_iff.mp ed
  obtain ⟨y, e2, ed⟩ := Option.bind_eq_some_iff.mp ed
  refine ⟨B, S, δ, x, k, e1, fun v S1 H1 s1 r1 => ⟨B, S1, δ, y, k.step s1, e2, fun u S2 H2 s2 r2 => ?_⟩⟩
  exact ⟨S2, x, y, d, ((k.step s1).step s2).okk, r1.mono s2.ss, r2, ed, fun v' S3 H3 s3 r3 => q v' S3 H3 (Step.trans k.okk s1 (Step.trans (k.step s1).okk s2 s3)) r3⟩
theorem pd_op {op : Operator} {g : D → D → Option D} (ho : OpR X (binaryOp op) (rD X.prog X.w T g)) (ha : PD T X a ga) (hb : PD T X b gb) : PD T X (.BinOp a op b pos) (d2 g ga gb) := PE_imp (pe_op ho ha hb) fun _ _ _ q => t2_of q
theorem pd_cmp {op : CmpOp} {g : D → D → Option D} (ho : OpR X (compareOp op) (rD X.prog X.w T g)) (ha : PD T X a ga) (hb : PD T X b gb) (hm : behindInMarks op b = false := by rfl) : PD T X (.Compare a [op] [b] pos) (d2 g ga gb) := PE_imp (pe_cmpR ho ha hb hm) fun _ _ _ q => t2_of q
theorem pt_cmp' {op : CmpOp} {g : D → D → Option D} (ho : OpR X (compareOp op) (rD X.prog X.w T g)) (ha : PD T X a ga) (hb : PD T X b gb) (hm : behindInMarks op b = false := by rfl) : PTd T X (.Compare a [op] [b] pos) (tb (d2 g ga gb)) := by
  refine PT_imp (pt_cmpR ho ha hb hm) fun σ H Q q => ?_
  obtain ⟨B, S, δ, d, k, ed, q⟩ := q
  obtain ⟨x, e1, ed⟩ := Option.bind_eq_some_iff.mp ed
  refine t2_of ⟨B, S, δ, x, k, e1, fun v S' H' s r => ?_⟩
  obtain ⟨ev, _⟩ := tb_rp r ed
  exact ⟨d, ev, q S' H' s⟩
def dch (g h : D → D → Option D) (a b c : Sl → Option D) : Sl → Option D := fun δ => (a δ).bind fun x => (b δ).bind fun y => (g x y).bind fun
  | .bool true => (c δ).bind fun z => h y z
  | .bool false => some (.bool false)
  | _ => none
theorem pd_chain {op op' : CmpOp} {g h : D → D → Option D} (ho : OpR X (compareOp op) (rD X.prog X.w T g)) (ho' : OpR X (compareOp op') (rD X.prog X.w T h)) (ha : PD T X a ga) (hb : PD T X b gb) (hc : PD T X c gc)
    (hm : lastMarks [op, op'] [b, c] = false := by with_unfolding_all rfl) : PD T X (.Compare a [op, op'] [b, c] pos) (dch g h ga gb gc) := by
  refine PE_imp (pe_chain ho ho' ha hb hc hm) fun σ H Q q => ?_
  obtain ⟨B, S, δ, d, k, ed, q⟩ := q
  obtain ⟨x, e1, ed⟩ := Option.bind_eq_some_iff.mp ed
  obtain ⟨y, e2, ed⟩ := Option.bind_eq_some_iff.mp ed
  obtain ⟨z, e3, ed⟩ := Option.bind_eq_some_iff.mp ed
  refine ⟨B, S, δ, x, k, e1, fun v S1 H1 s1 r1 => ⟨B, S1, δ, y, k.step s1, e2, fun u S2 H2 s2 r2 => ?_⟩⟩
  have k2 := (k.step s1).step s2
  refine ⟨S2, x, y, z, k2.okk, r1.mono s2.ss, r2, e3, fun v' S3 H3 s3 r3 => ?_⟩
  have s03 := Step.trans k.okk s1 (Step.trans (k.step s1).okk s2 s3)
  cases r3 with
  | bl cc =>
    refine ⟨cc, rfl, ?_⟩
    cases cc with
    | true =>
      obtain ⟨zz, e4, ed⟩ := Option.bind_eq_some_iff.mp ed
      refine iteT ⟨B, S3, δ, zz, k2.step s3, e4, fun v4 S4 H4 s4 r4 => ?_⟩
      exact ⟨S4, y, zz, d, ((k2.step s3).step s4).okk, (r2.mono s3.ss).mono s4.ss, r4, ed, fun v5 S5 H5 s5 r5 => q v5 S5 H5 (Step.trans k.okk s03 (Step.trans (k2.step s3).okk s4 s5)) r5⟩
    | false =>
      cases ed
      exact iteF (q _ S3 H3 s03 (.bl false))
  | _ => cases ed
def rU1 (P : Program) (w : World) (T : List Addr) (g : D → Option D) : V → Hp → VK → Prop := fun x H Q => ∃ S dx d, Okk T S H ∧ Rp P w S x dx ∧ g dx = some d ∧ ∀ v S' H', Step T S H S' H' → Rp P w S' v d → Q v H'
theorem t1_of {g : D → Option D} {σ : L2.St} {H : Hp} {Q : VK} (q : tD X.prog X.w T (d1 g ga) σ H Q) : tUn (rU1 X.prog X.w T g) (tD X.prog X.w T ga) σ H Q := by
  obtain ⟨B, S, δ, d, k, ed, q⟩ := q
  obtain ⟨x, e1, ed⟩ := Option.bind_eq_some_iff.mp ed
  exact ⟨B, S, δ, x, k, e1, fun v S1 H1 s1 r1 => ⟨S1, x, d, (k.step s1).okk, r1, ed, fun v' S3 H3 s3 r3 => q v' S3 H3 (Step.trans k.okk s1 s3) r3⟩⟩
/-! calls by values -/
def rC (P : Program) (w : World) (T : List Addr) (g : List D → Option D) : List V → Hp → VK → Prop := fun vs H Q => ∃ S ds d, Okk T S H ∧ RpL P w S vs ds ∧ g ds = some d ∧ ∀ v S' H', Step T S H S' H' → Rp P w S' v d → Q v H'
theorem tc_of {g : List D → Option D} {f : Sl → Option (List D)} {σ : L2.St} {H : Hp} {Q : VK} (q : tD X.prog X.w T (dl g f) σ H Q) : tCB (rC X.prog X.w T g) (tDA X.prog X.w T f) σ H Q := by
  obtain ⟨B, S, δ, d, k, ed, q⟩ := q
  obtain ⟨x, e1, ed⟩ := Option.bind_eq_some_iff.mp ed
  exact ⟨B, S, δ, x, k, e1, fun v S1 H1 s1 r1 => ⟨S1, x, d, (k.step s1).okk, r1, ed, fun v' S3 H3 s3 r3 => q v' S3 H3 (Step.trans k.okk s1 s3) r3⟩⟩
theorem pd_callB {x : Str} {p : Pos} {id : String} {g : List D → Option D} {f : Sl → Option (List D)} (hc : CallR X (.builtin id) (rC X.prog X.w T g)) (hg : Gl X x) (hm : X.mg x = none) (hv : bootBuiltins x = some (.builtin id)) (ha : PAd T X (e :: es) f)
    (hn : x ≠ "__name__" := by decide) (hdb : (x == ("__debug__" : Str)) = false := by decide)
    (he : starEach (e :: es) X.env = (false, eval e X.env) :: starEach es X.env := by rfl) (hpl : (backTo pos (starEach es X.env)).any (·.1) = false := by rfl) : PD T X (.Call (.Name x p) (e :: es) [] pos) (dl g f) :=
  PE_imp (pe_callB hc hg hm hv ha hn hdb he hpl) fun _ _ _ q => tc_of q
theorem pd_callTy {x : Str} {p : Pos} {id : String} {g : List D → Option D} {f : Sl → Option (List D)} (hc : CallR X (.type id) (rC X.prog X.w T g)) (hg : Gl X x) (hm : X.mg x = none) (hv : bootBuiltins x = some (.type id)) (ha : PAd T X (e :: es) f)
    (hn : x ≠ "__name__" := by decide) (hdb : (x == ("__debug__" : Str)) = false := by decide)
    (he : starEach (e :: es) X.env = (false, eval e X.env) :: starEach es X.env := by rfl) (hpl : (backTo pos (starEach es X.env)).any (·.1) = false := by rfl) : PD T X (.Call (.Name x p) (e :: es) [] pos) (dl g f) :=
  PE_imp (pe_callTy hc hg hm hv ha hn hdb he hpl) fun _ _ _ q => tc_of q
end
end Gd

set_option maxHeartbeats 2000000
/-! GdC: operations over plain data. -/
namespace Gd
open PySem PySem.Spec PyProof.Rows L2

/-! ### arithmetic -/
def addD : D → D → Option D
  | .int i, .int j => some (.int (i + j))
  | .list xs, .list ys => if xs.length + ys.length ≤ 1000000 then some (.list (xs ++ ys)) else none
  | .tuple xs, .tuple ys => if xs.length + ys.length ≤ 1000000 then some (.tuple (xs ++ ys)) else none
  | _, _ => none
def subD : D → D → Option D
  | .int i, .int j => some (.int (i - j))
  | _, _ => none
def mulD : D → D → Option D
  | .int i, .int j => if -1000000 < i ∧ i < 1000000 then some (.int (i * j)) else none
  | .tuple [x], .int k => if 1 ≤ k ∧ k ≤ 1000 then some (.tuple (List.replicate k.toNat x)) else none
  | _, _ => none
def fdivD : D → D → Option D
  | .int i, .int j => if 0 < j ∧ j < 1073741824 then some (.int (i / j)) else none
  | _, _ => none
def modD : D → D → Option D
  | .int i, .int j => if 0 < j then some (.int (i % j)) else none
  | _, _ => none
section
variable {T : List Addr} {X : Cx}
theorem line_le {n : Nat} (h : n ≤ 1000000) : n ≤ sizeLine := Nat.le_of_lt (line_big h)
theorem rpl_nil {P : Program} {w : World} {S : Hp} {vs : List V} {ds : List D} (r : RpL P w S vs ds) : vs = [] ↔ ds = [] := by cases r <;> simp
theorem or_add : OpR X (binaryOp .Add) (rD X.prog X.w T addD) := by
  intro pins s σ H x y v u Q I rx ry h
  obtain ⟨S, dx, dy, d, k, hx, hy, hg, q⟩ := h
  cases hx with
  | int i =>
    cases hy with
    | int j =>
      cases hg
      exact op_add pins s σ H _ _ v u Q I rx ry ⟨i, j, rfl, rfl, q _ S H k.refl (.int _)⟩
    | _ => cases hg
  | @lst a xs ds ea r =>
    cases hy with
    | @lst b ys es eb r' =>
      have hg : (if ds.length + es.length ≤ 1000000 then some (PyData.list (ds ++ es)) else none) = some d := hg
      split at hg
      · rename_i hz
        cases hg
        refine op_cat pins s σ H _ _ v u Q I rx ry ⟨a, b, xs, ys, rfl, rfl, k.sh _ _ ea, k.sh _ _ eb, by rw [r.length, r'.length]; exact line_le hz, fun p np => ?_⟩
        obtain ⟨s2, r2⟩ := k.lst np (r.append r')
        exact q _ _ _ s2 r2
      · cases hg
    | _ => cases hg
  | @tup a xs ds ea r =>
    cases hy with
    | @tup b ys es eb r' =>
      have hg : (if ds.length + es.length ≤ 1000000 then some (PyData.tuple (ds ++ es)) else none) = some d := hg
      split at hg
      · rename_i hz
        cases hg
        refine op_catA pins s σ H _ _ v u Q I rx ry ⟨a, b, xs, ys, rfl, rfl, SqT.of (k.sh _ _ ea), SqT.of (k.sh _ _ eb), by rw [r.length, r'.length]; exact line_le hz, fun z => ?_, fun _ z => ?_, fun _ _ p np => ?_⟩
        · have z' := (rpl_nil r).mp z
          subst z'
          exact q _ S H k.refl (.tup eb r')
        · have z' := (rpl_nil r').mp z
          subst z'
          rw [List.append_nil] at q
          exact q _ S H k.refl (.tup ea r)
        · obtain ⟨s2, r2⟩ := k.tup np (r.append r')
          exact q _ _ _ s2 r2
      · cases hg
    | _ => cases hg
  | _ => cases hg
theorem or_sub : OpR X (binaryOp .Sub) (rD X.prog X.w T subD) := by
  intro pins s σ H x y v u Q I rx ry h
  obtain ⟨S, dx, dy, d, k, hx, hy, hg, q⟩ := h
  cases hx with
  | int i =>
    cases hy with
    | int j =>
      cases hg
      exact op_sub pins s σ H _ _ v u Q I rx ry ⟨i, j, rfl, rfl, q _ S H k.refl (.int _)⟩
    | _ => cases hg
  | _ => cases hy <;> cases hg
theorem or_fdiv : OpR X (binaryOp .FloorDiv) (rD X.prog X.w T fdivD) := by
  intro pins s σ H x y v u Q I rx ry h
  obtain ⟨S, dx, dy, d, k, hx, hy, hg, q⟩ := h
  cases hx with
  | int i =>
    cases hy with
    | int j =>
      have hg : (if 0 < j ∧ j < 1073741824 then some (PyData.int (i / j)) else none) = some d := hg
      split at hg
      · rename_i hz
        cases hg
        exact op_fdiv pins s σ H _ _ v u Q I rx ry ⟨i, j, rfl, rfl, hz, q _ S H k.refl (.int _)⟩
      · cases hg
    | _ => cases hg
  | _ => cases hy <;> cases hg
theorem or_mod : OpR X (binaryOp .Mod) (rD X.prog X.w T modD) := by
  intro pins s σ H x y v u Q I rx ry h
  obtain ⟨S, dx, dy, d, k, hx, hy, hg, q⟩ := h
  cases hx with
  | int i =>
    cases hy with
    | int j =>
      have hg : (if 0 < j then some (PyData.int (i % j)) else none) = some d := hg
      split at hg
      · rename_i hz
        cases hg
        exact op_mod pins s σ H _ _ v u Q I rx ry ⟨i, j, rfl, rfl, hz, q _ S H k.refl (.int _)⟩
      · cases hg
    | _ => cases hg
  | _ => cases hy <;> cases hg
theorem tup_mul1m (l : Addr) (items : Array Value) (n : Nat) (dd : Option Addr) (sl : Array (Option Value)) (u : Tok) :
    Meets (Builtin.«tuple.__mul__» ⟨[.ref l, .int 1 u], []⟩) (fun _ R s => s.heap.get? l = some { cls := .type "tuple", dict := dd, data := .seq items n, slots := sl } ∧ R (.ok (.ret (Value.ref l))) s) :=
  .of_wp fun prog w A R s h => by
    obtain ⟨hp, g, d, tk, os⟩ := s
    obtain ⟨hl, h⟩ := h
    have f1 := AutoSeq1.idx_int
    wp_walk using wpAny_loadPart' hl
    exact ⟨_, rfl, h⟩
theorem tup_mul1 {prog : Program} {w : World} {A : Around} {E : Value → Shared → Prop} {s : Shared} {l : Addr} {its : Array Value} {u : Tok} {Q : Value → Shared → Prop} (h : IsTup s.heap l its) (q : Q (.ref l) s) :
    wpAny (model prog w) A (binaryOp .Mult (.ref l) (.int 1 u)) Q E s := by
  obtain ⟨⟨cls, dd, data, sl⟩, ho, hc, n, hd⟩ := h
  simp only at hc hd
  subst hc hd
  refine wpAny_binaryOp_repeat_ref (T := "tuple") (U := "int") (by decide) ⟨_, ho, rfl⟩ (fun s' => typeIs_int s' 1 u) noFill_tuple_mul F.fills_int_mul F.slot_int_rmul repeat_tuple F.slot_int_index.lookup
    (call_meets F.slot_int_rmul (typeIs_int s 1 u) F.entry_int_rmul (F.args_int_rmul_2 _ _) (int_rmul_tuple 1 u l its n dd sl)
      ⟨ho, rfl, ⟨_, ho, rfl⟩, call_meets F.slot_tuple_mul ⟨_, ho, rfl⟩ F.entry_tuple_mul (F.args_tuple_mul_2 _ _) (tup_mul1m l its n dd sl u) ⟨ho, q⟩⟩)
theorem or_mul : OpR X (binaryOp .Mult) (rD X.prog X.w T mulD) := by
  intro pins s σ H x y v u Q I rx ry h
  obtain ⟨S, dx, dy, d, k, hx, hy, hg, q⟩ := h
  cases hx with
  | int i =>
    cases hy with
    | int j =>
      have hg : (if -1000000 < i ∧ i < 1000000 then some (PyData.int (i * j)) else none) = some d := hg
      split at hg
      · rename_i hz
        cases hg
        exact op_mul pins s σ H _ _ v u Q I rx ry ⟨i, j, rfl, rfl, .inl ⟨by omega, by omega⟩, q _ S H k.refl (.int _)⟩
      · cases hg
    | _ => cases hg
  | @tup a xs ds ea r =>
    cases r with
    | nil => cases hy <;> cases hg
    | @cons v0 vs x0 xs0 r0 r1 =>
      cases r1 with
      | cons _ _ => cases hy <;> cases hg
      | nil =>
        cases hy with
        | int j =>
          have hg : (if 1 ≤ j ∧ j ≤ 1000 then some (PyData.tuple (List.replicate j.toNat x0)) else none) = some d := hg
          split at hg
          · rename_i hz
            cases hg
            by_cases h1 : j = 1
            · subst h1
              cases rx
              obtain ⟨t, rfl⟩ := ry
              obtain ⟨its, r2, p2, _⟩ := I.tuple (SqT.of (k.sh _ _ ea))
              exact tup_mul1 p2 ⟨.ref a, H, I, rfl, q _ S H k.refl (.tup ea (.cons r0 .nil))⟩
            · refine op_repT pins s σ H _ _ v u Q I rx ry ⟨a, j, [v0], rfl, rfl, SqT.of (k.sh _ _ ea), by simp, by omega, by omega, by simp, fun p np => ?_⟩
              have e : (List.replicate j.toNat [v0]).flatten = List.replicate j.toNat v0 := by
                induction j.toNat with
                | zero => rfl
                | succ n ih => rw [List.replicate_succ, List.flatten_cons, ih]; rfl
              rw [e]
              obtain ⟨s2, r2⟩ := k.tup np (RpL.replicate r0 j.toNat)
              exact q _ _ _ s2 r2
          · cases hg
        | _ => cases hg
  | _ => cases hy <;> cases hg
def negD : D → Option D
  | .int i => some (.int (-i))
  | _ => none
theorem pd_neg {a : Expr} {ga : Sl → Option D} {pos : Pos} (ha : PD T X a ga) : PD T X (.UnaryOp .USub a pos) (d1 negD ga) := by
  refine PE_imp (pe_un (r := rU1 X.prog X.w T negD) (fun pins s σ H x v Q I rx h => ?_) ha) fun _ _ _ q => t1_of q
  obtain ⟨S, dx, d, k, hx, hg, q⟩ := h
  cases hx with
  | int i => cases hg; exact un_neg pins s σ H _ v Q I rx ⟨i, rfl, q _ S H k.refl (.int _)⟩
  | _ => cases hg

/-! ### comparisons -/
def eqD (x y : D) : Option D := if okd x && okd y then some (.bool (PyData.eqv x y)) else none
def neD (x y : D) : Option D := if okd x && okd y then some (.bool (!PyData.eqv x y)) else none
theorem okd_and {x y : D} (h : (okd x && okd y) = true) : (nod x = true ∧ SeqAt.shaped x = true) ∧ nod y = true ∧ SeqAt.shaped y = true := by
  unfold okd at h
  simpa [Bool.and_eq_true, and_assoc] using h
theorem or_eq {k : Nat} (hr : Room k X.A) : OpR X (compareOp .Eq) (rD X.prog X.w T eqD) := by
  intro pins s σ H x y v u Q I rx ry h
  obtain ⟨S, dx, dy, d, kk, hx, hy, hg, q⟩ := h
  unfold eqD at hg
  split at hg
  · rename_i hz
    cases hg
    obtain ⟨⟨n1, s1⟩, n2, s2⟩ := okd_and hz
    exact op_eqD hr.units pins s σ H _ _ v u Q I rx ry ⟨dx, dy, hx.dp kk.sh n1, hy.dp kk.sh n2, s1, s2, q _ S H kk.refl (.bl _)⟩
  · cases hg
theorem or_ne {k : Nat} (hr : Room k X.A) : OpR X (compareOp .NotEq) (rD X.prog X.w T neD) := by
  intro pins s σ H x y v u Q I rx ry h
  obtain ⟨S, dx, dy, d, kk, hx, hy, hg, q⟩ := h
  unfold neD at hg
  split at hg
  · rename_i hz
    cases hg
    obtain ⟨⟨n1, s1⟩, n2, s2⟩ := okd_and hz
    exact op_neD hr.units pins s σ H _ _ v u Q I rx ry ⟨dx, dy, hx.dp kk.sh n1, hy.dp kk.sh n2, s1, s2, q _ S H kk.refl (.bl _)⟩
  · cases hg
def intsOf : List D → Option (List Int)
  | [] => some []
  | .int i :: r => (intsOf r).map fun is => i :: is
  | _ => none
theorem intsOf_map : ∀ {ds : List D} {ns : List Int}, intsOf ds = some ns → ds = ns.map PyData.int
  | [], ns, h => by cases h; rfl
  | .int i :: r, ns, h => by
    obtain ⟨is, e, rfl⟩ := Option.map_eq_some_iff.mp (show (intsOf r).map (fun is => i :: is) = some ns from h)
    rw [intsOf_map e]; rfl
  | .none :: _, ns, h => by cases h
  | .bool _ :: _, ns, h => by cases h
  | .str _ :: _, ns, h => by cases h
  | .list _ :: _, ns, h => by cases h
  | .tuple _ :: _, ns, h => by cases h
  | .dict _ :: _, ns, h => by cases h
theorem rpl_ints {P : Program} {w : World} {S : Hp} : ∀ {vs : List V} {ns : List Int}, RpL P w S vs (ns.map PyData.int) → vs = ns.map V.int
  | _, [], .nil => rfl
  | _, n :: ns, .cons r t => by
    cases r
    rw [rpl_ints t]; rfl
theorem rpl_ints' {P : Program} {w : World} {S : Hp} {vs : List V} {ds : List D} {ns : List Int} (r : RpL P w S vs ds) (h : intsOf ds = some ns) : vs = ns.map V.int := by
  rw [intsOf_map h] at r
  exact rpl_ints r
def ltD : D → D → Option D
  | .int i, .int j => some (.bool (decide (i < j)))
  | .tuple xs, .tuple ys => (intsOf xs).bind fun ns => (intsOf ys).map fun ms => .bool (HT.lexLt ns ms)
  | _, _ => none
theorem or_lt {k : Nat} (hr : Room k X.A) : OpR X (compareOp .Lt) (rD X.prog X.w T ltD) := by
  intro pins s σ H x y v u Q I rx ry h
  obtain ⟨S, dx, dy, d, kk, hx, hy, hg, q⟩ := h
  cases hx with
  | int i =>
    cases hy with
    | int j =>
      cases hg
      exact op_lt pins s σ H _ _ v u Q I rx ry ⟨i, j, rfl, rfl, q _ S H kk.refl (.bl _)⟩
    | _ => cases hg
  | @tup a xs ds ea r =>
    cases hy with
    | @tup b ys es eb r' =>
      obtain ⟨ns, e1, hg⟩ := Option.bind_eq_some_iff.mp (show ((intsOf ds).bind fun ns => (intsOf es).map fun ms => PyData.bool (HT.lexLt ns ms)) = some d from hg)
      obtain ⟨ms, e2, hg⟩ := Option.map_eq_some_iff.mp hg
      subst hg
      have z1 := rpl_ints' r e1
      have z2 := rpl_ints' r' e2
      subst z1 z2
      exact op_ltT hr.units0 pins s σ H _ _ v u Q I rx ry ⟨a, b, ns, ms, rfl, rfl, SqT.of (kk.sh _ _ ea), SqT.of (kk.sh _ _ eb), q _ S H kk.refl (.bl _)⟩
    | _ => cases hg
  | _ => cases hy <;> cases hg
def iiD (p : Int → Int → Bool) : D → D → Option D
  | .int i, .int j => some (.bool (p i j))
  | _, _ => none
theorem or_ii {op : CmpOp} {p : Int → Int → Bool} (ho : OpR X (compareOp op) (rI0 fun i j => .bl (p i j))) : OpR X (compareOp op) (rD X.prog X.w T (iiD p)) := by
  intro pins s σ H x y v u Q I rx ry h
  obtain ⟨S, dx, dy, d, kk, hx, hy, hg, q⟩ := h
  cases hx with
  | int i =>
    cases hy with
    | int j =>
      cases hg
      exact ho pins s σ H _ _ v u Q I rx ry ⟨i, j, rfl, rfl, q _ S H kk.refl (.bl _)⟩
    | _ => cases hg
  | _ => cases hy <;> cases hg
abbrev leD : D → D → Option D := iiD fun i j => decide (i ≤ j)
abbrev gtD : D → D → Option D := iiD fun i j => decide (j < i)
abbrev geD : D → D → Option D := iiD fun i j => decide (j ≤ i)
theorem or_le : OpR X (compareOp .LtE) (rD X.prog X.w T leD) := or_ii op_le
theorem or_gt : OpR X (compareOp .Gt) (rD X.prog X.w T gtD) := or_ii op_gt
theorem or_ge : OpR X (compareOp .GtE) (rD X.prog X.w T geD) := or_ii op_ge
def isntD : D → D → Option D
  | .bool a, .bool b => some (.bool (!decide (a = b)))
  | _, _ => none
theorem or_isnt : OpR X (compareOp .IsNot) (rD X.prog X.w T isntD) := by
  intro pins s σ H x y v u Q I rx ry h
  obtain ⟨S, dx, dy, d, kk, hx, hy, hg, q⟩ := h
  cases hx with
  | bl i =>
    cases hy with
    | bl j =>
      cases hg
      exact op_notBl pins s σ H _ _ v u Q I rx ry ⟨i, j, rfl, rfl, q _ S H kk.refl (.bl _)⟩
    | _ => cases hg
  | _ => cases hy <;> cases hg
/-- x is None -/
def isNoneD (x : D) : Bool := match x with
  | .none => true
  | _ => false
def isD : D → D → Option D
  | x, .none => some (.bool (isNoneD x))
  | _, _ => none
theorem or_is : OpR X (compareOp .Is) (rD X.prog X.w T isD) := by
  intro pins s σ H x y v u Q I rx ry h
  obtain ⟨S, dx, dy, d, kk, hx, hy, hg, q⟩ := h
  cases hy with
  | non =>
    have hg : some (PyData.bool (isNoneD dx)) = some d := by cases dx <;> exact hg
    cases hg
    refine op_isN pins s σ H _ _ v u Q I rx ry ⟨rfl, ?_⟩
    have e : decide (x = V.non) = isNoneD dx := by cases hx <;> rfl
    rw [e]
    exact q _ S H kk.refl (.bl _)
  | _ => cases dx <;> cases hg
end

/-! ### keys, dicts -/
mutual
theorem keyOf_nod : ∀ {d : D} {k : NestedKey}, keyOf d = some k → nod d = true
  | .none, _, _ => rfl
  | .int _, _, _ => rfl
  | .tuple ds, _, h => by
    obtain ⟨ks, e, _⟩ := Option.map_eq_some_iff.mp (show (keysOf ds).map NestedKey.tup = some _ from (by rw [keyOf] at h; exact h))
    rw [nod]; exact keysOf_nod e
  | .bool _, _, h => by simp [keyOf] at h
  | .str _, _, h => by simp [keyOf] at h
  | .list _, _, h => by simp [keyOf] at h
  | .dict _, _, h => by simp [keyOf] at h
theorem keysOf_nod : ∀ {ds : List D} {ks : List NestedKey}, keysOf ds = some ks → nods ds = true
  | [], _, _ => rfl
  | d :: ds, _, h => by
    rw [keysOf] at h
    obtain ⟨k, e1, h⟩ := Option.bind_eq_some_iff.mp h
    obtain ⟨ks, e2, _⟩ := Option.map_eq_some_iff.mp h
    rw [nods, keyOf_nod e1, keysOf_nod e2]; rfl
end
mutual
theorem key_eqv : ∀ {a b : D} {j k : NestedKey}, keyOf a = some j → keyOf b = some k → PyData.eqv a b = NestedKey.beq j k
  | .none, b, j, k, ha, hb => by
    cases ha
    cases b with
    | none => cases hb; simp [PyData.eqv, NestedKey.beq]
    | int i => cases hb; simp [PyData.eqv, NestedKey.beq]
    | tuple ds =>
      rw [keyOf] at hb
      obtain ⟨ks, _, rfl⟩ := Option.map_eq_some_iff.mp hb
      simp [PyData.eqv, NestedKey.beq]
    | _ => simp [keyOf] at hb
  | .int i, b, j, k, ha, hb => by
    cases ha
    cases b with
    | none => cases hb; simp [PyData.eqv, NestedKey.beq]
    | int i => cases hb; simp [PyData.eqv, NestedKey.beq]; rfl
    | tuple ds =>
      rw [keyOf] at hb
      obtain ⟨ks, _, rfl⟩ := Option.map_eq_some_iff.mp hb
      simp [PyData.eqv, NestedKey.beq]
    | _ => simp [keyOf] at hb
  | .tuple as, b, j, k, ha, hb => by
    rw [keyOf] at ha
    obtain ⟨js, ea, rfl⟩ := Option.map_eq_some_iff.mp ha
    cases b with
    | none => cases hb; simp [PyData.eqv, NestedKey.beq]
    | int i => cases hb; simp [PyData.eqv, NestedKey.beq]
    | tuple ds =>
      rw [keyOf] at hb
      obtain ⟨ks, eb, rfl⟩ := Option.map_eq_some_iff.mp hb
      rw [PyData.eqv, NestedKey.beq]
      exact keys_eqv ea eb
    | _ => simp [keyOf] at hb
  | .bool _, _, _, _, h, _ => by simp [keyOf] at h
  | .str _, _, _, _, h, _ => by simp [keyOf] at h
  | .list _, _, _, _, h, _ => by simp [keyOf] at h
  | .dict _, _, _, _, h, _ => by simp [keyOf] at h
theorem keys_eqv : ∀ {as bs : List D} {js ks : List NestedKey}, keysOf as = some js → keysOf bs = some ks → PyData.eqvAll as bs = NestedKey.beqAll js ks
  | [], [], _, _, ha, hb => by cases ha; cases hb; simp [PyData.eqvAll, NestedKey.beqAll]
  | [], b :: bs, _, _, ha, hb => by
    cases ha
    rw [keysOf] at hb
    obtain ⟨k, _, hb⟩ := Option.bind_eq_some_iff.mp hb
    obtain ⟨ks, _, rfl⟩ := Option.map_eq_some_iff.mp hb
    simp [PyData.eqvAll, NestedKey.beqAll]
  | a :: as, [], _, _, ha, hb => by
    cases hb
    rw [keysOf] at ha
    obtain ⟨k, _, ha⟩ := Option.bind_eq_some_iff.mp ha
    obtain ⟨ks, _, rfl⟩ := Option.map_eq_some_iff.mp ha
    simp [PyData.eqvAll, NestedKey.beqAll]
  | a :: as, b :: bs, _, _, ha, hb => by
    rw [keysOf] at ha hb
    obtain ⟨j, e1, ha⟩ := Option.bind_eq_some_iff.mp ha
    obtain ⟨js, e2, rfl⟩ := Option.map_eq_some_iff.mp ha
    obtain ⟨k, e3, hb⟩ := Option.bind_eq_some_iff.mp hb
    obtain ⟨ks, e4, rfl⟩ := Option.map_eq_some_iff.mp hb
    rw [PyData.eqvAll, NestedKey.beqAll, key_eqv e1 e3, keys_eqv e2 e4]
end
theorem key_dec {a b : D} {j k : NestedKey} (h1 : keyOf a = some j) (h2 : keyOf b = some k) : decide (j = k) = PyData.eqv a b := by
  rw [NestedKey.decide_eq, key_eqv h1 h2]
def dget (kvs : List (D × D)) (k : D) : Option D := (kvs.find? fun p => PyData.eqv p.1 k).map (·.2)
def dput (kvs : List (D × D)) (k v : D) : List (D × D) := if (kvs.any fun p => PyData.eqv p.1 k) = true then kvs.map (fun p => if PyData.eqv p.1 k = true then (p.1, v) else p) else kvs ++ [(k, v)]
/-- the key of a tuple -/
def tkey : D → Option NestedKey
  | .tuple ds => (keyOf (.tuple ds)).bind fun k => if k.depth ≤ 8 then some k else none
  | _ => none
theorem tkey_of {d : D} {k : NestedKey} (h : tkey d = some k) : (∃ ds, d = .tuple ds) ∧ keyOf d = some k ∧ k.depth ≤ 8 := by
  cases d with
  | tuple ds =>
    obtain ⟨k', e, h⟩ := Option.bind_eq_some_iff.mp (show ((keyOf (.tuple ds)).bind fun k => if k.depth ≤ 8 then some k else none) = some k from h)
    split at h
    · rename_i hz
      cases h
      exact ⟨⟨ds, rfl⟩, e, hz⟩
    · cases h
  | _ => cases h
section
variable {P : Program} {w : World} {S : Hp}
theorem ent_get : ∀ {xs : List Ent} {kvs : List (D × D)} {kd : D} {k : NestedKey}, EntL P w S xs kvs → keyOf kd = some k →
    (∀ d, dget kvs kd = some d → ∃ b u v, atKey xs k = some (b, u) ∧ RelV v u ∧ Rp P w S v d) ∧ (dget kvs kd = none → atKey xs k = none)
  | _, _, kd, k, .nil, _ => ⟨fun d h => (by cases h), fun _ => rfl⟩
  | _, _, kd, k, .cons (k := k0) (b := b0) (u := u0) (v := v0) (kd := kd0) (d := d0) (xs := xs) (kvs := kvs) e1 e2 r ru rv t, h => by
    have ih := ent_get t h
    have ek := key_dec e1 h
    by_cases z : k0 = k
    · have ez : PyData.eqv kd0 kd = true := by rw [← ek]; exact decide_eq_true z
      refine ⟨fun d hd => ?_, fun hd => ?_⟩
      · have hd' : some d0 = some d := by
          rw [← hd]; simp [dget, List.find?_cons, ez]
        cases hd'
        exact ⟨b0, u0, v0, by simp [atKey, List.find?_cons, z], ru, rv⟩
      · exfalso
        have : dget ((kd0, d0) :: kvs) kd = some d0 := by simp [dget, List.find?_cons, ez]
        rw [this] at hd; cases hd
    · have ez : PyData.eqv kd0 kd = false := by rw [← ek]; exact decide_eq_false z
      have e3 : dget ((kd0, d0) :: kvs) kd = dget kvs kd := by simp [dget, List.find?_cons, ez]
      have e4 : atKey ((k0, b0, u0) :: xs) k = atKey xs k := by simp [atKey, List.find?_cons, z]
      rw [e3, e4]
      exact ih
theorem ent_some {xs : List Ent} {kvs : List (D × D)} {kd : D} {k : NestedKey} (h : EntL P w S xs kvs) (e : keyOf kd = some k) : (atKey xs k).isSome = (dget kvs kd).isSome := by
  obtain ⟨h1, h2⟩ := ent_get h e
  cases hd : dget kvs kd with
  | none => rw [h2 hd]; rfl
  | some d =>
    obtain ⟨b, u, v, q, _⟩ := h1 d hd
    rw [q]; rfl
theorem dget_any (kvs : List (D × D)) (k : D) : (kvs.any fun p => PyData.eqv p.1 k) = (dget kvs k).isSome := by
  induction kvs with
  | nil => rfl
  | cons p r ih =>
    rw [List.any_cons, ih]
    cases h : PyData.eqv p.1 k <;> simp [dget, List.find?_cons, h]
theorem ent_map {kd : D} {k : NestedKey} {d : D} {v : V} {u : Value} (e : keyOf kd = some k) (ru : RelV v u) (rv : Rp P w S v d) : ∀ {xs : List Ent} {kvs : List (D × D)}, EntL P w S xs kvs →
    EntL P w S (xs.map (putAt k u)) (kvs.map fun p => if PyData.eqv p.1 kd = true then (p.1, d) else p)
  | _, _, .nil => .nil
  | _, _, .cons (k := k0) (b := b0) (u := u0) (v := v0) (kd := kd0) (d := d0) e1 e2 r ru0 rv0 t => by
    have ih := ent_map e ru rv t
    have ek := key_dec e1 e
    rw [List.map_cons, List.map_cons]
    by_cases z : k0 = k
    · have ez : PyData.eqv kd0 kd = true := by rw [← ek]; exact decide_eq_true z
      have q1 : putAt k u (k0, b0, u0) = (k0, b0, u) := by simp [putAt, z]
      rw [q1, if_pos ez]
      exact .cons e1 e2 r ru rv ih
    · have ez : ¬ PyData.eqv kd0 kd = true := by rw [← ek]; simpa using z
      have q1 : putAt k u (k0, b0, u0) = (k0, b0, u0) := by simp [putAt, z]
      rw [q1, if_neg ez]
      exact .cons e1 e2 r ru0 rv0 ih
theorem ent_app : ∀ {xs ys : List Ent} {kvs lvs : List (D × D)}, EntL P w S xs kvs → EntL P w S ys lvs → EntL P w S (xs ++ ys) (kvs ++ lvs)
  | _, _, _, _, .nil, h => h
  | _, _, _, _, .cons e1 e2 r ru rv t, h => .cons e1 e2 r ru rv (ent_app t h)
theorem ent_put {xs : List Ent} {kvs : List (D × D)} {kd d : D} {k : NestedKey} {b : Addr} {v : V} {u : Value} (h : EntL P w S xs kvs) (e : keyOf kd = some k) (hk : k.depth ≤ 8) (rb : Rp P w S (.ref b) kd) (ru : RelV v u) (rv : Rp P w S v d) :
    EntL P w S (storedH xs k b u) (dput kvs kd d) := by
  unfold storedH dput
  rw [dget_any, ent_some h e]
  by_cases z : (dget kvs kd).isSome = true
  · rw [if_pos z, if_pos z]
    exact ent_map e ru rv h
  · rw [if_neg z, if_neg z]
    exact ent_app h (.cons e hk rb ru rv .nil)
theorem ent_len : ∀ {xs : List Ent} {kvs : List (D × D)}, EntL P w S xs kvs → xs.length = kvs.length
  | _, _, .nil => rfl
  | _, _, .cons _ _ _ _ _ t => by rw [List.length_cons, List.length_cons, ent_len t]
theorem len_dput (kvs : List (D × D)) (k v : D) : (dput kvs k v).length ≤ kvs.length + 1 := by
  unfold dput
  split
  · rw [List.length_map]; omega
  · simp
end
/-! what stands in the real heap -/
section
variable {X : Cx} {pins : List (Addr × Obj)} {σ : L2.St} {H S : Hp} {s : Shared}
mutual
theorem rp_nest (I : Inv X pins σ H s) (sh : Same S H) : ∀ {d : D} {v : V} {u : Value} {k : NestedKey}, Rp X.prog X.w S v d → RelV v u → keyOf d = some k → NestedIs s.heap k u
  | .none, _, _, _, .non, r, h => by cases h; cases r; exact .none
  | .int i, _, _, _, .int _, r, h => by cases h; obtain ⟨t, rfl⟩ := r; exact .int _ _
  | .tuple ds, _, _, _, .tup (a := a) (vs := vs) e t, r, h => by
    rw [keyOf] at h
    obtain ⟨ks, e1, rfl⟩ := Option.map_eq_some_iff.mp h
    cases r
    obtain ⟨_, its, rvs, o, ho, hc, n, hd⟩ : vs.length ≤ sizeLine ∧ ∃ its : List Value, Vals vs its ∧ IsTup s.heap a its.toArray := I.hok a _ (sh _ _ e)
    exact .tup ho hc hd (by simpa using rpl_nest I sh t rvs e1)
  | .bool _, _, _, _, _, _, h => by simp [keyOf] at h
  | .str _, _, _, _, _, _, h => by simp [keyOf] at h
  | .list _, _, _, _, _, _, h => by simp [keyOf] at h
  | .dict _, _, _, _, _, _, h => by simp [keyOf] at h
theorem rpl_nest (I : Inv X pins σ H s) (sh : Same S H) : ∀ {ds : List D} {vs : List V} {us : List Value} {ks : List NestedKey}, RpL X.prog X.w S vs ds → Vals vs us → keysOf ds = some ks → NestedAll s.heap ks us
  | [], _, _, _, .nil, .nil, h => by cases h; exact .nil
  | d :: ds, _, _, _, .cons a b, .cons r t, h => by
    rw [keysOf] at h
    obtain ⟨k, e1, h⟩ := Option.bind_eq_some_iff.mp h
    obtain ⟨ks, e2, rfl⟩ := Option.map_eq_some_iff.mp h
    exact .cons (rp_nest I sh a r e1) (rpl_nest I sh b t e2)
end
theorem ent_is (I : Inv X pins σ H s) (sh : Same S H) : ∀ {xs : List Ent} {kvs : List (D × D)}, EntL X.prog X.w S xs kvs → ∀ x ∈ xs, (nestedKind X.prog X.w).is s.heap x.1 x.2.1
  | _, _, .nil, x, hx => by cases hx
  | _, _, .cons e1 e2 r ru rv t, x, hx => by
    rcases List.mem_cons.mp hx with z | z
    · subst z
      exact ⟨rp_nest I sh r rfl e1, e2⟩
    · exact ent_is I sh t x z
/-- a dict with tuple keys, as the library tells it -/
theorem dn_at (I : Inv X pins σ H s) (sh : Same S H) {a : Addr} {ob : Obj} {xs : List Ent} {kvs : List (D × D)} (e : H a = some (DN X.prog X.w a ob xs)) (r : EntL X.prog X.w S xs kvs) :
    (a == sysModules) = false ∧ xs.length ≤ sizeLine ∧ s.heap.DictOfH (nestedKind X.prog X.w) a xs := by
  obtain ⟨h1, h2, h3, h4, es, ep, h5, h6, h7⟩ := (show ((a == sysModules) = false ∧ xs.length ≤ sizeLine ∧ (xs.map (·.1)).Nodup ∧ s.heap.get? a = some ob ∧ ∃ es ep, ob.ExactDict ∧ ob.data = .dict es ep ∧ es.toList = xs.map (entryOfKey (nestedKind X.prog X.w))) ∧ _ from I.hok a _ e).1
  exact ⟨h1, h2, ob, es, ep, h4, h5, h6, h7, ent_is I sh r, h3⟩
theorem dn_ob (I : Inv X pins σ H s) {a : Addr} {ob : Obj} {xs : List Ent} (e : H a = some (DN X.prog X.w a ob xs)) : s.heap.get? a = some ob ∧ ∃ es ep, ob.ExactDict ∧ ob.data = .dict es ep ∧ es.toList = xs.map (entryOfKey (nestedKind X.prog X.w)) := by
  obtain ⟨h1, h2, h3, h4, h5⟩ := (show ((a == sysModules) = false ∧ xs.length ≤ sizeLine ∧ (xs.map (·.1)).Nodup ∧ s.heap.get? a = some ob ∧ ∃ es ep, ob.ExactDict ∧ ob.data = .dict es ep ∧ es.toList = xs.map (entryOfKey (nestedKind X.prog X.w))) ∧ _ from I.hok a _ e).1
  exact ⟨h4, h5⟩
theorem tkey_is (I : Inv X pins σ H s) (sh : Same S H) {d : D} {v : V} {u : Value} {k : NestedKey} (r : Rp X.prog X.w S v d) (rv : RelV v u) (h : tkey d = some k) : ∃ b, v = .ref b ∧ u = .ref b ∧ (nestedKind X.prog X.w).is s.heap k b := by
  obtain ⟨⟨ds, rfl⟩, e1, e2⟩ := tkey_of h
  cases r with
  | tup e t =>
    cases rv
    exact ⟨_, rfl, rfl, rp_nest I sh (.tup e t) rfl e1, e2⟩
end
end Gd

set_option maxHeartbeats 2000000
/-! GdD: in, subscripts, slices, built-in calls over plain data. -/
namespace Gd
open PySem PySem.Spec PyProof.Rows L2
section
variable {T : List Addr} {X : Cx}

/-! ### in -/
def inB : D → D → Option Bool
  | x, .list ds => if okd x && okd (.list ds) then some (ds.any fun z => PyData.eqv z x) else none
  | x, .tuple ds => if okd x && okd (.tuple ds) then some (ds.any fun z => PyData.eqv z x) else none
  | _, _ => none
def inD (x y : D) : Option D := (inB x y).map .bool
def notinD (x y : D) : Option D := (inB x y).map fun b => .bool (!b)
theorem room65 {k : Nat} {A : Around} (hr : Room k A) : A.units + 65 < cLine := by have := hr.un; omega
theorem in_core {k : Nat} (hr : Room k X.A) {op : CmpOp} {g : Bool → Bool} (hop : (op = .In ∧ g = id) ∨ (op = .NotIn ∧ g = not)) {pins : List (Addr × Obj)} {s : Shared} {σ : L2.St} {H S : Hp} {x y : V} {v u : Value} {dx dy : D} {b : Bool} {Q : VK}
    (I : Inv X pins σ H s) (rx : RelV x v) (ry : RelV y u) (kk : Okk T S H) (hx : Rp X.prog X.w S x dx) (hy : Rp X.prog X.w S y dy) (hb : inB dx dy = some b) (q : Q (.bl (g b)) H) : wpAny (model X.prog X.w) X.A (compareOp op v u) (EP X pins σ Q) X.xe s := by
  have fin : ∀ tk, EP X pins σ Q (.bool (g b)) { s with toks := tk } := fun tk => ⟨.bl _, H, I.tok tk, rfl, q⟩
  cases hy with
  | @lst a vs ds e r =>
    have hb : (if okd dx && okd (.list ds) then some (ds.any fun z => PyData.eqv z dx) else none) = some b := by cases dx <;> exact hb
    split at hb
    · rename_i hz
      cases hb
      obtain ⟨⟨n1, s1⟩, n2, s2⟩ := okd_and hz
      have hy2 : Dp X.K H (.ref a) (.list ds) := Rp.dp kk.sh (.lst e r) n2
      rcases hop with ⟨rfl, rfl⟩ | ⟨rfl, rfl⟩
      · exact op_inD (room65 hr) pins s σ H _ _ v u Q I rx ry ⟨dx, ds, hx.dp kk.sh n1, hy2, s1, s2, q⟩
      · exact op_notInD (room65 hr) pins s σ H _ _ v u Q I rx ry ⟨dx, ds, hx.dp kk.sh n1, hy2, s1, s2, q⟩
    · cases hb
  | @tup a vs ds e r =>
    have hb : (if okd dx && okd (.tuple ds) then some (ds.any fun z => PyData.eqv z dx) else none) = some b := by cases dx <;> exact hb
    split at hb
    · rename_i hz
      cases hb
      obtain ⟨⟨n1, s1⟩, n2, s2⟩ := okd_and hz
      obtain ⟨as, r1⟩ := Dp.reads I dx x v (hx.dp kk.sh n1) rx
      obtain ⟨bs, r2⟩ := Dp.reads I (.tuple ds) (.ref a) u (Rp.dp kk.sh (.tup e r) n2) ry
      rcases hop with ⟨rfl, rfl⟩ | ⟨rfl, rfl⟩
      · exact SeqAt.in_tuple_reads r2 r1 (SeqAt.canLay_of_shaped s2) (SeqAt.canLay_of_shaped s1) (room_in_shaped s1 (room65 hr)) (fin s.toks)
      · exact SeqAt.notIn_tuple_reads r2 r1 (SeqAt.canLay_of_shaped s2) (SeqAt.canLay_of_shaped s1) (room_in_shaped s1 (room65 hr)) (fin s.toks)
    · cases hb
  | _ => cases dx <;> cases hb
theorem or_in {k : Nat} (hr : Room k X.A) : OpR X (compareOp .In) (rD X.prog X.w T inD) := by
  intro pins s σ H x y v u Q I rx ry h
  obtain ⟨S, dx, dy, d, kk, hx, hy, hg, q⟩ := h
  obtain ⟨b, e, rfl⟩ := Option.map_eq_some_iff.mp hg
  exact in_core hr (.inl ⟨rfl, rfl⟩) I rx ry kk hx hy e (q _ S H kk.refl (.bl _))
theorem or_notin {k : Nat} (hr : Room k X.A) : OpR X (compareOp .NotIn) (rD X.prog X.w T notinD) := by
  intro pins s σ H x y v u Q I rx ry h
  obtain ⟨S, dx, dy, d, kk, hx, hy, hg, q⟩ := h
  obtain ⟨b, e, rfl⟩ := Option.map_eq_some_iff.mp hg
  exact in_core hr (.inr ⟨rfl, rfl⟩) I rx ry kk hx hy e (q _ S H kk.refl (.bl _))

/-! ### subscripts -/
def ixD : D → D → Option D
  | .list ds, .int i => atI ds i
  | .tuple ds, .int i => atI ds i
  | .dict kvs, x => match x with
    | .tuple _ => (tkey x).bind fun _ => dget kvs x
    | .int _ => dget kvs x
    | _ => none
  | _, _ => none
theorem rpl_atI {P : Program} {w : World} {S : Hp} {vs : List V} {ds : List D} {i : Int} {d : D} (r : RpL P w S vs ds) (h : atI ds i = some d) : ∃ v, atI vs i = some v ∧ Rp P w S v d := by
  unfold atI at h ⊢
  rw [r.length]
  obtain ⟨j, e, h⟩ := Option.bind_eq_some_iff.mp h
  rw [e]
  obtain ⟨v, e2, r2⟩ := r.get' h
  exact ⟨v, e2, r2⟩
/-- an int dict -/
theorem kv_get {P : Program} {w : World} {S : Hp} : ∀ {ks : List (Key × V)} {kvs : List (D × D)} {i : Int} {d : D}, KvL P w S ks kvs → dget kvs (.int i) = some d → ∃ v, valV ks (Sum.inl i) = some v ∧ Rp P w S v d
  | _, _, i, d, .nil, h => by cases h
  | _, _, i, d, .cons (i := j) (v := v) (d := d0) (kvs := kvs) r t, h => by
    by_cases z : j = i
    · have : dget ((PyData.int j, d0) :: kvs) (.int i) = some d0 := by simp [dget, List.find?_cons, PyData.eqv, z]
      rw [this] at h
      cases h
      exact ⟨v, valV_pos (by rw [z]), r⟩
    · have : dget ((PyData.int j, d0) :: kvs) (.int i) = dget kvs (.int i) := by simp [dget, List.find?_cons, PyData.eqv, z]
      rw [this] at h
      obtain ⟨v', e, r'⟩ := kv_get t h
      exact ⟨v', by rw [valV_neg (by intro q; exact z (Sum.inl.inj q))]; exact e, r'⟩
theorem kv_none {P : Program} {w : World} {S : Hp} : ∀ {ks : List (Key × V)} {kvs : List (D × D)} {i : Int}, KvL P w S ks kvs → dget kvs (.int i) = none → valV ks (Sum.inl i) = none
  | _, _, i, .nil, h => rfl
  | _, _, i, .cons (i := j) (v := v) (d := d0) (kvs := kvs) r t, h => by
    by_cases z : j = i
    · exfalso
      have : dget ((PyData.int j, d0) :: kvs) (.int i) = some d0 := by simp [dget, List.find?_cons, PyData.eqv, z]
      rw [this] at h; cases h
    · have : dget ((PyData.int j, d0) :: kvs) (.int i) = dget kvs (.int i) := by simp [dget, List.find?_cons, PyData.eqv, z]
      rw [this] at h
      rw [valV_neg (by intro q; exact z (Sum.inl.inj q))]
      exact kv_none t h
theorem ent_noint {P : Program} {w : World} {S : Hp} {i : Int} : ∀ {xs : List Ent} {kvs : List (D × D)}, EntL P w S xs kvs → dget kvs (.int i) = none
  | _, _, .nil => rfl
  | _, _, .cons (kd := kd) (d := d0) (kvs := kvs) e1 e2 r ru rv t => by
    have z : PyData.eqv kd (.int i) = false := by
      cases r with
      | lst e q => simp [PyData.eqv]
      | tup e q => simp [PyData.eqv]
      | dk e q => simp [PyData.eqv]
      | dn e q => simp [PyData.eqv]
      | raw z => simp [PyData.eqv]
    have : dget ((kd, d0) :: kvs) (.int i) = dget kvs (.int i) := by simp [dget, List.find?_cons, z]
    rw [this]
    exact ent_noint t
theorem kv_notup {P : Program} {w : World} {S : Hp} {ds : List D} : ∀ {ks : List (Key × V)} {kvs : List (D × D)}, KvL P w S ks kvs → dget kvs (.tuple ds) = none
  | _, _, .nil => rfl
  | _, _, .cons (i := i) (d := d0) (kvs := kvs) r t => by
    have : dget ((PyData.int i, d0) :: kvs) (.tuple ds) = dget kvs (.tuple ds) := by simp [dget, List.find?_cons, PyData.eqv]
    rw [this]
    exact kv_notup t
theorem ix_core {k : Nat} (hr : Room k X.A) {pins : List (Addr × Obj)} {s : Shared} {σ : L2.St} {H S : Hp} {x y : V} {v u : Value} {dx dy d : D} {Q : VK} {value slice : Expr}
    (I : Inv X pins σ H s) (rx : RelV x v) (ry : RelV y u) (kk : Okk T S H) (hx : Rp X.prog X.w S x dx) (hy : Rp X.prog X.w S y dy) (hg : ixD dx dy = some d) (q : ∀ v', Rp X.prog X.w S v' d → Q v' H)
    (hs : subscripted slice false v u = operate [v, u] (getItem v u)) : wpAny (model X.prog X.w) X.A (subscriptTail value slice v u) (EP X pins σ Q) X.xe s := by
  cases hx with
  | @lst a vs ds e r =>
    cases hy with
    | int i =>
      obtain ⟨z, e1, r1⟩ := rpl_atI r hg
      exact ix_list value slice pins s σ H _ _ v u Q I rx ry ⟨a, vs, i, z, rfl, rfl, SqL.of (kk.sh _ _ e), e1, q z r1⟩ hs
    | _ => cases hg
  | @tup a vs ds e r =>
    cases hy with
    | int i =>
      obtain ⟨z, e1, r1⟩ := rpl_atI r hg
      exact ix_tup value slice pins s σ H _ _ v u Q I rx ry ⟨a, vs, i, z, rfl, rfl, SqT.of (kk.sh _ _ e), e1, q z r1⟩ hs
    | _ => cases hg
  | @dn a ob xs kvs e r =>
    cases rx
    cases hy with
    | @tup b vs2 ds2 e2 r2 =>
      obtain ⟨key, ek, hg⟩ := Option.bind_eq_some_iff.mp (show ((tkey (.tuple ds2)).bind fun _ => dget kvs (.tuple ds2)) = some d from hg)
      obtain ⟨_, ek', _⟩ := tkey_of ek
      obtain ⟨h1, h2, h3⟩ := dn_at I kk.sh (kk.sh _ _ e) r
      obtain ⟨bb, _, rfl, hk⟩ := tkey_is I kk.sh (.tup e2 r2) ry ek
      obtain ⟨c, u1, v1, q1, ru, rv⟩ := (ent_get r ek').1 d hg
      have hroom : (nestedKind X.prog X.w).room X.A.in1 := by
        show X.A.units + 1 + 8 < cLine
        have := hr.un; omega
      refine tail_any (ops := [.ref a, .ref bb]) h3.typeIs PySem.F.slot_dict_getitem.lookup (wpAny_getItem_heap hroom hk h3 q1 ⟨v1, H, I.tok _, ru, q v1 rv⟩) hs
    | @int i =>
      have hg : dget kvs (.int i) = some d := hg
      rw [ent_noint r] at hg; cases hg
    | _ => cases hg
  | @dk a ks kvs e r =>
    cases rx
    cases hy with
    | int i =>
      have hg : dget kvs (.int i) = some d := hg
      obtain ⟨v1, e1, r1⟩ := kv_get r hg
      obtain ⟨z1, z2, vs, rel, dd⟩ := dk_of I.hok (kk.sh _ _ e)
      have hu : X.A.units + 1 < cLine := hu_of hr
      have gt : DGet H a (.int i) (some v1) := by
        rw [← e1]
        exact DGet.k (k := Sum.inl i) (kk.sh _ _ e)
      exact tail_any (ops := [.ref a, u]) dd.typeIs PySem.F.slot_dict_getitem.lookup (d_getItem hu I gt ry fun w' s3 I3 rw' => ⟨v1, H, I3, rw', q v1 r1⟩) hs
    | @tup b vs2 ds2 e2 r2 =>
      obtain ⟨_, _, hg⟩ := Option.bind_eq_some_iff.mp (show ((tkey (.tuple ds2)).bind fun _ => dget kvs (.tuple ds2)) = some d from hg)
      rw [kv_notup r] at hg; cases hg
    | _ => cases hg
  | _ => cases dy <;> cases hg
theorem pd_ix {k : Nat} (hr : Room k X.A) {a b : Expr} {ga gb : Sl → Option D} {pos : Pos} (ha : PD T X a ga) (hb : PD T X b gb) (hs : PlainIx b := by exact fun _ _ => rfl) : PD T X (.Subscript a b pos) (d2 ixD ga gb) := by
  refine PE_imp (pe_ix (r := rD X.prog X.w T ixD) (fun value slice pins s σ H x y v u Q I rx ry h hs => ?_) ha hb hs) fun _ _ _ q => t2_of q
  obtain ⟨S, dx, dy, d, kk, hx, hy, hg, q⟩ := h
  exact ix_core hr I rx ry kk hx hy hg (fun v' r' => q v' S H kk.refl r') hs
end
end Gd

set_option maxHeartbeats 2000000
/-! GdE: slices, built-in calls over plain data. -/
namespace Gd
open PySem PySem.Spec PyProof.Rows L2
section
variable {T : List Addr} {X : Cx}
/-! ### slices -/
def tPO (P : Program) (w : World) (T : List Addr) (f : Sl → Option (Option Int)) : TO := fun σ H Q => ∃ (B : Hp × Hp) (S : Hp) (δ : Sl) (o : Option Int), SOk P w T B S σ H δ ∧ f δ = some o ∧ ∀ S' H', Step T S H S' H' → Q o H'
abbrev POd (T : List Addr) (X : Cx) (e : Option Expr) (f : Sl → Option (Option Int)) : Prop := PO X e (tPO X.prog X.w T f)
theorem PO_imp {e : Option Expr} {t t' : TO} (h : PO X e t) (i : ∀ σ H Q, t' σ H Q → t σ H Q) : PO X e t' := ⟨fun pins s σ H Q I q => h.run pins s σ H Q I (i σ H Q q)⟩
def pn : Sl → Option (Option Int) := fun _ => some none
def intD : D → Option Int
  | .int i => some i
  | _ => none
def ps1 (a : Sl → Option D) : Sl → Option (Option Int) := fun δ => (a δ).bind fun x => (intD x).map some
theorem po_n : POd T X none pn := by
  refine PO_imp po_none fun σ H Q q => ?_
  obtain ⟨B, S, δ, o, k, e, q⟩ := q
  cases e
  exact q S H k.okk.refl
theorem po_s {a : Expr} {ga : Sl → Option D} (h : PD T X a ga) : POd T X (some a) (ps1 ga) := by
  refine PO_imp (po_some h) fun σ H Q q => ?_
  obtain ⟨B, S, δ, o, k, e, q⟩ := q
  obtain ⟨x, e1, e⟩ := Option.bind_eq_some_iff.mp e
  obtain ⟨i, e2, rfl⟩ := Option.map_eq_some_iff.mp e
  refine ⟨B, S, δ, x, k, e1, fun v S' H' s r => ?_⟩
  cases r with
  | int j => cases e2; exact ⟨i, rfl, q S' H' s⟩
  | _ => cases e2
def cutD (xs : List D) (lo hi : Option Int) : List D := (xs.drop (HT.sIx xs.length 0 lo)).take (HT.sIx xs.length xs.length hi - HT.sIx xs.length 0 lo)
def slD (x : D) (lo hi : Option Int) : Option D := match x with
  | .list ds => some (.list (cutD ds lo hi))
  | .tuple ds => some (.tuple (cutD ds lo hi))
  | _ => none
def dsl (a : Sl → Option D) (lo hi : Sl → Option (Option Int)) : Sl → Option D := fun δ => (a δ).bind fun x => (lo δ).bind fun l => (hi δ).bind fun h => slD x l h
theorem rpl_cut {P : Program} {w : World} {S : Hp} {vs : List V} {ds : List D} (r : RpL P w S vs ds) (lo hi : Option Int) : RpL P w S (cutV vs lo hi) (cutD ds lo hi) := by
  unfold cutV cutD
  rw [r.length]
  exact (r.drop _).take _
theorem cut_whole {xs : List D} {lo hi : Option Int} (h : HT.sIx xs.length 0 lo = 0 ∧ HT.sIx xs.length xs.length hi = xs.length) : cutD xs lo hi = xs := by
  unfold cutD
  rw [h.1, h.2]
  simp
def rS (P : Program) (w : World) (T : List Addr) : V → Option Int → Option Int → Hp → VK → Prop := fun x lo hi H Q => ∃ S dx d, Okk T S H ∧ Rp P w S x dx ∧ slD dx lo hi = some d ∧ ∀ v S' H', Step T S H S' H' → Rp P w S' v d → Q v H'
theorem sl_d : SlR X (rS X.prog X.w T) := by
  intro pins s σ H x v vl vu lo hi sl Q I rx hs pl pu h
  obtain ⟨S, dx, d, k, hx, hg, q⟩ := h
  cases hx with
  | @lst a vs ds e r =>
    cases hg
    refine sl_list pins s σ H _ v vl vu lo hi sl Q I rx hs pl pu ⟨a, vs, rfl, SqL.of (k.sh _ _ e), fun p np => ?_⟩
    obtain ⟨s2, r2⟩ := k.lst np (rpl_cut r lo hi)
    exact q _ _ _ s2 r2
  | @tup a vs ds e r =>
    cases hg
    refine sl_tupA pins s σ H _ v vl vu lo hi sl Q I rx hs pl pu ⟨a, vs, rfl, SqT.of (k.sh _ _ e), fun z => ?_, fun _ p np => ?_⟩
    · rw [r.length] at z
      rw [cut_whole z] at q
      exact q _ S H k.refl (.tup e r)
    · obtain ⟨s2, r2⟩ := k.tup np (rpl_cut r lo hi)
      exact q _ _ _ s2 r2
  | _ => cases hg
theorem pd_slice {a : Expr} {lo hi : Option Expr} {ga : Sl → Option D} {gl gh : Sl → Option (Option Int)} {p2 pos : Pos} (ha : PD T X a ga) (hl : POd T X lo gl) (hh : POd T X hi gh) : PD T X (.Subscript a (.Slice lo hi none p2) pos) (dsl ga gl gh) := by
  refine PE_imp (pe_slice (sl_d (T := T)) ha hl hh) fun σ H Q q => ?_
  obtain ⟨B, S, δ, d, k, e, q⟩ := q
  obtain ⟨x, e1, e⟩ := Option.bind_eq_some_iff.mp e
  obtain ⟨l, e2, e⟩ := Option.bind_eq_some_iff.mp e
  obtain ⟨h, e3, e⟩ := Option.bind_eq_some_iff.mp e
  refine ⟨B, S, δ, x, k, e1, fun v S1 H1 s1 r1 => ⟨B, S1, δ, l, k.step s1, e2, fun S2 H2 s2 => ⟨B, S2, δ, h, (k.step s1).step s2, e3, fun S3 H3 s3 => ?_⟩⟩⟩
  have k3 := ((k.step s1).step s2).step s3
  exact ⟨S3, x, d, k3.okk, (r1.mono s2.ss).mono s3.ss, e, fun v' S4 H4 s4 r4 => q v' S4 H4 (Step.trans k.okk s1 (Step.trans (k.step s1).okk s2 (Step.trans ((k.step s1).step s2).okk s3 s4))) r4⟩

theorem fm_map {α β : Type} {f : α → Option β} {g : α → β} : ∀ {l : List α}, (∀ a ∈ l, f a = some (g a)) → l.filterMap f = l.map g
  | [], _ => rfl
  | a :: l, h => by
    rw [List.filterMap_cons, h a (List.mem_cons_self ..), List.map_cons, fm_map (fun b hb => h b (List.mem_cons_of_mem _ hb))]
/-! x[::-1] of a tuple -/
theorem getItem_tuple_rev {prog : Program} {w : World} {A : Around} {E : Value → Shared → Prop} {s : Shared} {t sl : Addr} {its : List Value} {vs : Value} {Q : Value → Shared → Prop} (ht : IsTup s.heap t its.toArray) (hs : s.heap.IsSliceOf sl .none .none vs) (ps : IsPart vs (some (-1)))
    (h : Q (.ref s.heap.objs.size) { s with heap := s.heap.push { cls := .type "tuple", data := .seq its.reverse.toArray } }) (hsz : its.length ≤ sizeLine) : wpAny (model prog w) A (getItem (.ref t) (.ref sl)) Q E s := by
  have hz : sizeOk (.seq its.reverse.toArray) := by
    show its.reverse.toArray.size ≤ sizeLine
    rw [List.size_toArray, List.length_reverse]; exact hsz
  obtain ⟨os, hos, hcs, hds⟩ := id hs
  have hTs : s.TypeIs (.ref sl) "slice" := ⟨os, hos, hcs⟩
  unfold getItem
  try with_reducible refine wpAny_holding ?_
  first | refine wpAny_bind (wpAny_pure ?_) | skip
  refine wpAny_bind (wpAny_sequenceKey ht.typeIs (by decide) ?_)
  refine wpAny_bind (wpAny_callSpecial?_slot (name := Str.ofString "__getitem__") ht.typeIs PyProof.Rows.slot_tuple_getitem
    (wpAny_call_entry PyProof.Rows.slot_tuple_getitem ht.typeIs PyProof.Rows.entry_tuple_getitem ?_ (PyProof.Rows.args_tuple_getitem _ _)))
  show wpAny _ _ (Builtin.Tuple.tupleItemsOf (.ref t) >>= _) _ _ s
  refine wpAny_bind (tupleItemsOf_ ht ?_)
  refine wpAny_bind (wpAny_typeOf hTs ?_)
  rw [if_pos (by decide)]
  have happ : ∀ Q' : Int × Int × Nat → Shared → Prop, Q' ((its.length : Int) - 1, -1, its.length) s → wpAny (model prog w) A.in1 (Builtin.Slice.sliceApplied (.ref sl) (pure ((its.toArray.size : Nat) : Int))) Q' E s := by
    intro Q' hq
    unfold Builtin.Slice.sliceApplied Builtin.Slice.sliceFields
    refine wpAny_bind (wpAny_bind (wpAny_field hos hds (x := .none) rfl (wpAny_bind (wpAny_field hos hds (x := .none) rfl (wpAny_bind (wpAny_field hos hds (x := vs) rfl (wpAny_pure ?_)))))))
    refine wpAny_bind (HT.slicePart_ ps ?_)
    show wpAny _ _ (if ((-1 : Int) == 0) = true then _ else _) _ _ s
    rw [if_neg (by decide)]
    refine wpAny_bind (HT.slicePart_ .none (wpAny_bind (HT.slicePart_ .none (wpAny_bind (wpAny_pure ?_)))))
    show wpAny _ _ (match Builtin.Slice.sliceAdjust none none (-1) ((its.toArray.size : Nat) : Int) with | (lo, hi) => pure (lo, (-1 : Int), Builtin.Slice.slicePlaces lo hi (-1))) _ _ s
    have e1 : Builtin.Slice.sliceAdjust none none (-1) ((its.toArray.size : Nat) : Int) = ((its.length : Int) - 1, -1) := by
      rw [List.size_toArray]; rfl
    rw [e1]
    have e2 : Builtin.Slice.slicePlaces ((its.length : Int) - 1) (-1) (-1) = its.length := by
      unfold Builtin.Slice.slicePlaces
      have h1 : ¬ ((-1 : Int) > 0) := by omega
      rw [if_neg h1]
      have h2 : (-(-1 : Int)) = 1 := by decide
      rw [h2, Int.ediv_one]
      split <;> omega
    show wpAny _ _ (pure ((its.length : Int) - 1, (-1 : Int), Builtin.Slice.slicePlaces ((its.length : Int) - 1) (-1) (-1))) _ _ s
    rw [e2]
    exact wpAny_pure hq
  refine wpAny_bind (happ _ ?_)
  have hno : ¬ ((((its.length : Int) - 1) == 0 && (-1 : Int) == 1 && its.length == its.toArray.size) = true) := by
    intro q
    rw [Bool.and_eq_true, Bool.and_eq_true] at q
    exact absurd q.1.2 (by decide)
  show wpAny _ _ (if (((its.length : Int) - 1) == 0 && (-1 : Int) == 1 && its.length == its.toArray.size) = true then _ else _) _ _ s
  rw [if_neg hno]
  have e3 : ((List.range its.length).filterMap fun (k : Nat) => its.toArray[(((its.length : Int) - 1) + (k : Int) * (-1)).toNat]?) = its.reverse := by
    have q := PySem.W.krv_pick its.toArray
    refine List.ext_getElem? fun i => ?_
    have e4 : ((List.range its.length).filterMap fun (k : Nat) => its.toArray[(((its.length : Int) - 1) + (k : Int) * (-1)).toNat]?) = (List.range its.length).map fun k => its.toArray.getD (its.length - 1 - k) .none := by
      refine fm_map fun k hk => ?_
      have hk' := List.mem_range.mp hk
      have e5 : (((its.length : Int) - 1) + (k : Int) * (-1)).toNat = its.length - 1 - k := by omega
      rw [e5]
      have hl : its.length - 1 - k < its.length := by omega
      simp [hl]
    rw [e4]
    by_cases hi : i < its.length
    · rw [List.getElem?_map, List.getElem?_range hi, List.getElem?_reverse hi]
      have hl : its.length - 1 - i < its.length := by omega
      simp [hl]
    · rw [List.getElem?_eq_none (by simpa using hi), List.getElem?_eq_none (by simpa using hi)]
  rw [e3]
  first
    | exact wpAny_bind (m := Builtin.Tuple.tupleExact _) (wpAny_newObj_type (wpAny_pure ⟨_, rfl, wpAny_pure h⟩) hz)
    | exact wpAny_bind (m := Builtin.Tuple.tupleExact _) (wpAny_newObj_type (wpAny_bind (wpAny_pure (wpAny_pure ⟨_, rfl, wpAny_pure h⟩))) hz)
    | exact wpAny_bind (wpAny_bind (m := Builtin.Tuple.tupleExact _) (wpAny_newObj_type (wpAny_pure (wpAny_pure ⟨_, rfl, wpAny_pure h⟩)) hz))
    | exact wpAny_bind (wpAny_bind (m := Builtin.Tuple.tupleExact _) (wpAny_newObj_type (wpAny_pure ⟨_, rfl, wpAny_pure h⟩) hz))
def revD : D → Option D
  | .tuple ds => some (.tuple ds.reverse)
  | _ => none
theorem pd_rev {e : Expr} {ga : Sl → Option D} {k : Nat} {p1 p2 p3 pos : Pos} (he : PD T X e ga) : PD T X (.Subscript e (.Slice none none (some (.UnaryOp .USub (.Constant (.int 1) k p1) p2)) p3) pos) (d1 revD ga) := by
  refine ⟨fun pins s σ H Q I h => ?_⟩
  obtain ⟨B, S, δ, d, kk, ed, q⟩ := h
  obtain ⟨x, e1, ed⟩ := Option.bind_eq_some_iff.mp ed
  refine Subscript_ (thn (he.run pins s σ H (fun v H1 => ∃ S1, Step T S H S1 H1 ∧ Rp X.prog X.w S1 v x) I ⟨B, S, δ, x, kk, e1, fun v S1 H1 s1 r1 => ⟨S1, s1, r1⟩⟩) fun v s1 ⟨x', H1, I1, r1, S1, st1, rp⟩ => ?_)
  cases rp with
  | @tup a vs ds e r =>
    cases ed
    cases r1
    have hst : PO X (some (.UnaryOp .USub (.Constant (.int 1) k p1) p2)) (tPart (tUn (rU fun i => .int (-i)) (tC (.int 1)))) := po_some (pe_un un_neg pe_int)
    refine wpAny_Slice (thn (po_none.run pins s1 σ H1 (fun o H2 => o = none ∧ H2 = H1) I1 ⟨rfl, rfl⟩) fun vl s2 ⟨l, H2, I2, pl, el, e2⟩ => ?_)
    subst el e2
    refine thn (po_none.run pins s2 σ H2 (fun o H3 => o = none ∧ H3 = H2) I2 ⟨rfl, rfl⟩) fun vu s3 ⟨u, H3, I3, pu, eu, e3⟩ => ?_
    subst eu e3
    refine thn (hst.run pins s3 σ H3 (fun o H4 => o = some (-1) ∧ H4 = H3) I3 ⟨1, rfl, -1, rfl, rfl, rfl⟩) fun vst s4 ⟨o, H4, I4, ps, eo, e4⟩ => ?_
    subst eo e4
    cases pl
    cases pu
    have I5 : Inv X pins σ H4 { s4 with heap := s4.heap.push { cls := .type "slice", data := .fields #[.none, .none, vst] } } := I4.kept (t' := s4.toks) fun b ob q => Heap.get?_push_of_some _ q
    obtain ⟨its, r2, ht, hz⟩ := I5.tuple (SqT.of (st1.sh _ _ e))
    have hlen := r2.length
    show wpAny (model X.prog X.w) X.A (subscriptTail _ (.Slice none none (some (.UnaryOp .USub (.Constant (.int 1) k p1) p2)) p3) (.ref a) (.ref s4.heap.objs.size)) (EP X pins σ Q) X.xe { s4 with heap := s4.heap.push { cls := .type "slice", data := .fields #[.none, .none, vst] } }
    refine tail_any (ops := [.ref a, .ref s4.heap.objs.size]) ht.typeIs PyProof.Rows.slot_tuple_getitem.lookup ?_ (by with_unfolding_all rfl)
    refine getItem_tuple_rev ht (Heap.IsSliceOf.new _ _ _ vst) ps ?_ (by omega)
    obtain ⟨s6, r6⟩ := (kk.step st1).okk.tup (I5.hok.fresh (Nat.le_refl _)) r.reverse
    refine ⟨.ref _, _, I5.laid (t' := s4.toks) (o := .tup vs.reverse) (fun b ob q => Heap.get?_push_of_some _ q) (Nat.le_refl _) ?_, rfl, q _ _ _ (Step.trans kk.okk st1 s6) r6⟩
    exact ⟨by rw [List.length_reverse]; exact hz, _, r2.reverse, IsTup.new _ _⟩
  | _ => cases ed
end
end Gd

set_option maxHeartbeats 2000000
/-! GdF: built-in calls over plain data. -/
namespace Gd
open PySem PySem.Spec PyProof.Rows L2
/-! ### sorting, by insertion -/
def ins {α : Type} (le : α → α → Bool) (x : α) : List α → List α
  | [] => [x]
  | y :: ys => if le x y = true then x :: y :: ys else y :: ins le x ys
def isort {α : Type} (le : α → α → Bool) : List α → List α
  | [] => []
  | x :: xs => ins le x (isort le xs)
section
variable {α : Type} {le : α → α → Bool}
theorem mem_ins {x y : α} : ∀ {l : List α}, y ∈ ins le x l → y = x ∨ y ∈ l
  | [], h => by
    rcases List.mem_cons.mp h with z | z
    · exact .inl z
    · cases z
  | a :: l, h => by
    unfold ins at h
    split at h
    · rcases List.mem_cons.mp h with z | z
      · exact .inl z
      · exact .inr z
    · rcases List.mem_cons.mp h with z | z
      · exact .inr (z ▸ List.mem_cons_self ..)
      · rcases mem_ins z with z | z
        · exact .inl z
        · exact .inr (List.mem_cons_of_mem _ z)
theorem ins_pair (h : PySem.W.TotalLe le) {x : α} : ∀ {l : List α}, l.Pairwise (fun a b => le a b = true) → (ins le x l).Pairwise (fun a b => le a b = true)
  | [], _ => List.pairwise_singleton ..
  | a :: l, p => by
    unfold ins
    split
    · rename_i q
      refine List.pairwise_cons.mpr ⟨fun b hb => ?_, p⟩
      rcases List.mem_cons.mp hb with z | z
      · rw [z]; exact q
      · exact h.trans _ _ _ q ((List.pairwise_cons.mp p).1 b z)
    · rename_i q
      refine List.pairwise_cons.mpr ⟨fun b hb => ?_, ins_pair h (List.pairwise_cons.mp p).2⟩
      rcases mem_ins hb with z | z
      · rw [z]; exact (h.total x a).resolve_left q
      · exact (List.pairwise_cons.mp p).1 b z
theorem ins_filter (h : PySem.W.TotalLe le) {x c : α} : ∀ {l : List α}, (ins le x l).filter (PySem.W.sameRank le c) = (x :: l).filter (PySem.W.sameRank le c)
  | [] => rfl
  | a :: l => by
    unfold ins
    split
    · rfl
    · rename_i q
      rw [List.filter_cons, ins_filter h, List.filter_cons, List.filter_cons (x := x), List.filter_cons (x := a)]
      by_cases h1 : PySem.W.sameRank le c x = true
      · by_cases h2 : PySem.W.sameRank le c a = true
        · exfalso
          unfold PySem.W.sameRank at h1 h2
          rw [Bool.and_eq_true] at h1 h2
          exact q (h.trans _ _ _ h1.2 h2.1)
        · simp [h1, h2]
      · simp [h1]
theorem isort_eq (h : PySem.W.TotalLe le) (l : List α) : isort le l = l.mergeSort le := by
  have p : ∀ l : List α, (isort le l).Pairwise (fun a b => le a b = true) := fun l => by
    induction l with
    | nil => exact List.Pairwise.nil
    | cons x xs ih => exact ins_pair h ih
  have f : ∀ (l : List α) c, (isort le l).filter (PySem.W.sameRank le c) = l.filter (PySem.W.sameRank le c) := fun l c => by
    induction l with
    | nil => rfl
    | cons x xs ih =>
      show (ins le x (isort le xs)).filter _ = _
      rw [ins_filter h, List.filter_cons, List.filter_cons, ih]
  exact PySem.W.sort_unique h (p l) (f l)
theorem mem_isort {x : α} : ∀ {l : List α}, x ∈ isort le l → x ∈ l
  | [], h => h
  | a :: l, h => by
    rcases mem_ins h with z | z
    · exact z ▸ List.mem_cons_self ..
    · exact List.mem_cons_of_mem _ (mem_isort z)
theorem len_ins {x : α} : ∀ {l : List α}, (ins le x l).length = l.length + 1
  | [] => rfl
  | a :: l => by
    unfold ins
    split
    · rfl
    · rw [List.length_cons, len_ins, List.length_cons]
theorem len_isort : ∀ {l : List α}, (isort le l).length = l.length
  | [] => rfl
  | a :: l => by
    show (ins le a (isort le l)).length = _
    rw [len_ins, len_isort, List.length_cons]
end
def leD' (x y : D) : Bool := !PySem.W.dataLt y x
def isTupC : D → Bool
  | .tuple (_ :: _) => true
  | _ => false
def noTup : D → Bool
  | .none => false
  | .tuple _ => false
  | _ => true
def sortOk (ds : List D) : Bool := decide (ds.length ≤ 1000000) && nods ds && (ds.all fun d => ds.all fun e => PySem.W.alike d e) && (ds.all isTupC || ds.all noTup) && ds.all fun d => decide (d.depth ≤ 60)
def sortL (ds : List D) : Option (List D) := if sortOk ds = true then some (isort leD' ds) else none
section
variable {T : List Addr} {X : Cx}
theorem nods_mem : ∀ {ds : List D} {d : D}, nods ds = true → d ∈ ds → nod d = true
  | [], _, _, h => by cases h
  | x :: xs, d, n, h => by
    rw [nods, Bool.and_eq_true] at n
    rcases List.mem_cons.mp h with z | z
    · rw [z]; exact n.1
    · exact nods_mem n.2 z
theorem rpl_each {P : Program} {w : World} {S : Hp} : ∀ {vs : List V} {ds : List D} {us : List Value}, RpL P w S vs ds → Vals vs us → PySem.W.EachIs (fun u d => ∃ v, RelV v u ∧ Rp P w S v d) us ds
  | _, _, _, .nil, .nil => .nil
  | _, _, _, .cons r t, .cons q k => .cons ⟨_, q, r⟩ (rpl_each t k)
theorem each_rpl {P : Program} {w : World} {S : Hp} : ∀ {ds : List D} {us : List Value}, PySem.W.EachIs (fun u d => ∃ v, RelV v u ∧ Rp P w S v d) us ds → ∃ vs, RpL P w S vs ds ∧ Vals vs us
  | _, _, .nil => ⟨[], .nil, .nil⟩
  | _, _, .cons ⟨v, q, r⟩ t => by
    obtain ⟨vs, r2, q2⟩ := each_rpl t
    exact ⟨v :: vs, .cons r r2, .cons q q2⟩
theorem rpl_reads {pins : List (Addr × Obj)} {σ : L2.St} {H S : Hp} {s : Shared} (I : Inv X pins σ H s) (sh : Same S H) : ∀ {vs : List V} {ds : List D} {us : List Value}, RpL X.prog X.w S vs ds → Vals vs us → nods ds = true → PySem.W.EachIs (fun u d => ∃ as, Reads s.heap u d as) us ds
  | _, _, _, .nil, .nil, _ => .nil
  | _, _, _, .cons r t, .cons q k, n => by
    rw [nods, Bool.and_eq_true] at n
    exact .cons (Dp.reads I _ _ _ (r.dp (K := X.K) sh n.1) q) (rpl_reads I sh t k n.2)
/-- sorted(list) -/
def sortedD : List D → Option D
  | [.list ds] => (sortL ds).map .list
  | _ => none
theorem call_sorted {k : Nat} (hr : Room k X.A) : CallR X (.builtin "sorted") (rC X.prog X.w T sortedD) := by
  intro pins s σ H xs us Q I rv h
  obtain ⟨S, ds, d, kk, r, hg, q⟩ := h
  cases r with
  | nil => cases hg
  | @cons v vs x xs r0 r1 =>
    cases r1 with
    | cons _ _ => cases r0 <;> cases hg
    | nil =>
      cases r0 with
      | @lst a ws es e r =>
        obtain ⟨l, hl, rfl⟩ := Option.map_eq_some_iff.mp (show (sortL es).map PyData.list = some d from hg)
        unfold sortL at hl
        split at hl
        · rename_i ok
          cases hl
          unfold sortOk at ok
          rw [Bool.and_eq_true, Bool.and_eq_true, Bool.and_eq_true, Bool.and_eq_true] at ok
          obtain ⟨⟨⟨⟨o1, o2⟩, o3⟩, o4⟩, o5⟩ := ok
          have o1 := of_decide_eq_true o1
          obtain ⟨its, r2, hl, hz⟩ := I.list (SqL.of (kk.sh _ _ e))
          rw [Vals.ref1 rv]
          have hal : PySem.W.AllAlike (es.map id) := by
            rw [List.map_id]
            intro d hd d' hd'
            exact (List.all_eq_true.mp (List.all_eq_true.mp o3 d hd)) d' hd'
          have hk : PySem.W.Sortable (es.map id) := by
            rw [List.map_id]
            rw [Bool.or_eq_true] at o4
            rcases o4 with o4 | o4
            · refine .inl fun d hd => ?_
              have z := List.all_eq_true.mp o4 d hd
              unfold isTupC at z
              split at z
              · exact ⟨_, _, rfl⟩
              · cases z
            · refine .inr fun d hd => ?_
              have z := List.all_eq_true.mp o4 d hd
              unfold noTup at z
              split at z
              · cases z
              · cases z
              · rename_i h1 h2
                exact ⟨h1, fun xs e => h2 xs e⟩
          refine PySem.W.sorted_data (enc := id) hl.isList (rpl_each r r2) (rpl_reads I kk.sh r r2 o2) hal hk (line_le o1) (fun b hb => ?_) fun out hlo eo => ?_
          · have z := of_decide_eq_true (List.all_eq_true.mp o5 b hb)
            have := hr.un
            show X.A.units + 2 + b.depth < cLine
            omega
          · obtain ⟨ep, he'⟩ := PyProof.Rows.sortedAll_at s.heap its out.toArray
            have e1 : es.mergeSort (PySem.W.dataLe false id) = isort leD' es := (isort_eq (le := leD') (PySem.W.sortLe_total (listOrd itemOrd) false fun b : D => PySem.W.keyToks b) es).symm
            rw [e1] at eo
            obtain ⟨vs', r3, q3⟩ := each_rpl eo
            obtain ⟨s2, r4⟩ := kk.lst (I.hok.fresh (Nat.le_succ _)) r3
            exact ⟨.ref _, upd H (s.heap.objs.size + 1) (.lst vs'), I.laid (t' := s.toks) (fun _ _ => PyProof.Rows.sortedAll_old) (Nat.le_succ _)
              ⟨by rw [r3.length, len_isort]; exact line_le o1, out, ep, q3, he'⟩, rfl, q _ _ _ s2 r4⟩
        · cases hl
      | _ => cases hg
/-! ### len, list, tuple, int -/
def lenD : List D → Option D
  | [.list xs] => some (.int xs.length)
  | [.tuple xs] => some (.int xs.length)
  | _ => none
theorem cr_len : CallR X (.builtin "len") (rC X.prog X.w T lenD) := by
  intro pins s σ H xs us Q I rv h
  obtain ⟨S, ds, d, kk, r, hg, q⟩ := h
  cases r with
  | nil => cases hg
  | @cons v vs x xs r0 r1 =>
    cases r1 with
    | cons _ _ => cases r0 <;> cases hg
    | nil =>
      cases r0 with
      | @lst a ws es e r =>
        cases hg
        exact call_len pins s σ H _ us Q I rv ⟨.ref a, ws.length, rfl, .inl ⟨ws, SqL.of (kk.sh _ _ e), rfl⟩, by rw [r.length]; exact q _ S H kk.refl (.int _)⟩
      | @tup a ws es e r =>
        cases hg
        exact call_len pins s σ H _ us Q I rv ⟨.ref a, ws.length, rfl, .inr ⟨ws, SqT.of (kk.sh _ _ e), rfl⟩, by rw [r.length]; exact q _ S H kk.refl (.int _)⟩
      | _ => cases hg
def listD : List D → Option D
  | [.list xs] => some (.list xs)
  | [.tuple xs] => some (.list xs)
  | _ => none
theorem cr_list : CallR X (.type "list") (rC X.prog X.w T listD) := by
  intro pins s σ H xs us Q I rv h
  obtain ⟨S, ds, d, kk, r, hg, q⟩ := h
  cases r with
  | nil => cases hg
  | @cons v vs x xs r0 r1 =>
    cases r1 with
    | cons _ _ => cases r0 <;> cases hg
    | nil =>
      cases r0 with
      | @lst a ws es e r =>
        cases hg
        refine call_list_of pins s σ H _ us Q I rv ⟨a, ws, rfl, .inl (SqL.of (kk.sh _ _ e)), fun p np => ?_⟩
        obtain ⟨s2, r4⟩ := kk.lst np r
        exact q _ _ _ s2 r4
      | @tup a ws es e r =>
        cases hg
        refine call_list_of pins s σ H _ us Q I rv ⟨a, ws, rfl, .inr (SqT.of (kk.sh _ _ e)), fun p np => ?_⟩
        obtain ⟨s2, r4⟩ := kk.lst np r
        exact q _ _ _ s2 r4
      | _ => cases hg
def tupleD : List D → Option D
  | [.list xs] => some (.tuple xs)
  | [.tuple xs] => some (.tuple xs)
  | _ => none
theorem cr_tuple : CallR X (.type "tuple") (rC X.prog X.w T tupleD) := by
  intro pins s σ H xs us Q I rv h
  obtain ⟨S, ds, d, kk, r, hg, q⟩ := h
  cases r with
  | nil => cases hg
  | @cons v vs x xs r0 r1 =>
    cases r1 with
    | cons _ _ => cases r0 <;> cases hg
    | nil =>
      cases r0 with
      | @lst a ws es e r =>
        cases hg
        refine call_tuple_of pins s σ H _ us Q I rv ⟨a, ws, rfl, .inl ⟨SqL.of (kk.sh _ _ e), fun p np => ?_⟩⟩
        obtain ⟨s2, r4⟩ := kk.tup np r
        exact q _ _ _ s2 r4
      | @tup a ws es e r =>
        cases hg
        exact call_tuple_of pins s σ H _ us Q I rv ⟨a, ws, rfl, .inr ⟨SqT.of (kk.sh _ _ e), q _ S H kk.refl (.tup e r)⟩⟩
      | _ => cases hg
def intD1 : List D → Option D
  | [.int i] => some (.int i)
  | _ => none
theorem cr_int : CallR X (.type "int") (rC X.prog X.w T intD1) := by
  intro pins s σ H xs us Q I rv h
  obtain ⟨S, ds, d, kk, r, hg, q⟩ := h
  cases r with
  | nil => cases hg
  | @cons v vs x xs r0 r1 =>
    cases r1 with
    | cons _ _ => cases r0 <;> cases hg
    | nil =>
      cases r0 with
      | int i =>
        cases hg
        exact call_int1 pins s σ H _ us Q I rv (.inl ⟨i, rfl, q _ S H kk.refl (.int _)⟩)
      | _ => cases hg
def sumD : List D → Option D
  | [.list xs] => (intsOf xs).map fun ns => .int ns.sum
  | _ => none
theorem cr_sumD (hc : X.calm = true) : CallR X (.builtin "sum") (rC X.prog X.w T sumD) := by
  intro pins s σ H xs us Q I rv h
  obtain ⟨S, ds, d, kk, r, hg, q⟩ := h
  cases r with
  | nil => cases hg
  | @cons v vs x xs r0 r1 =>
    cases r1 with
    | cons _ _ => cases r0 <;> cases hg
    | nil =>
      cases r0 with
      | @lst a ws es e r =>
        obtain ⟨ns, e1, rfl⟩ := Option.map_eq_some_iff.mp (show (intsOf es).map (fun ns => PyData.int ns.sum) = some d from hg)
        have z := rpl_ints' r e1
        subst z
        exact cr_sum hc pins s σ H _ us Q I rv ⟨a, ns, rfl, SqL.of (kk.sh _ _ e), q _ S H kk.refl (.int _)⟩
      | _ => cases hg
def maxL : List Int → Int
  | [] => 0
  | [x] => x
  | x :: xs => if maxL xs ≤ x then x else maxL xs
theorem maxL_mem : ∀ {xs : List Int}, xs ≠ [] → maxL xs ∈ xs
  | [], h => absurd rfl h
  | [x], _ => List.mem_cons_self ..
  | x :: y :: r, _ => by
    unfold maxL
    split
    · exact List.mem_cons_self ..
    · exact List.mem_cons_of_mem _ (maxL_mem (by simp))
theorem maxL_le : ∀ {xs : List Int} {y : Int}, y ∈ xs → y ≤ maxL xs
  | [x], y, h => by simp at h; subst h; exact Int.le_refl _
  | x :: z :: r, y, h => by
    unfold maxL
    rcases List.mem_cons.mp h with e | e
    · subst e
      split <;> omega
    · have := maxL_le e
      split <;> omega
def maxD : List D → Option D
  | [.list xs] => (intsOf xs).bind fun ns => if ns.isEmpty then none else some (.int (maxL ns))
  | _ => none
theorem cr_maxD' (hc : X.calm = true) : CallR X (.builtin "max") (rC X.prog X.w T maxD) := by
  intro pins s σ H xs us Q I rv h
  obtain ⟨S, ds, d, kk, r, hg, q⟩ := h
  cases r with
  | nil => cases hg
  | @cons v vs x xs r0 r1 =>
    cases r1 with
    | cons _ _ => cases r0 <;> cases hg
    | nil =>
      cases r0 with
      | @lst a ws es e r =>
        obtain ⟨ns, e1, hg⟩ := Option.bind_eq_some_iff.mp (show ((intsOf es).bind fun ns => if ns.isEmpty then none else some (PyData.int (maxL ns))) = some d from hg)
        have z := rpl_ints' r e1
        subst z
        cases ns with
        | nil => cases hg
        | cons n ns =>
          cases hg
          refine cr_max hc pins s σ H _ us Q I rv ⟨a, n :: ns, rfl, SqL.of (kk.sh _ _ e), by simp, fun m hm hy => ?_⟩
          have em : m = maxL (n :: ns) := Int.le_antisymm (maxL_le hm) (hy _ (maxL_mem (by simp)))
          rw [em]
          exact q _ S H kk.refl (.int _)
      | _ => cases hg
/-! ### isinstance -/
inductive Cl where
  | int
  | bool
  | str
  | list
  | tuple
def Cl.nm : Cl → String
  | .int => "int"
  | .bool => "bool"
  | .str => "str"
  | .list => "list"
  | .tuple => "tuple"
def isiB : Cl → D → Option Bool
  | .int, .int _ => some true
  | .int, .bool _ => some true
  | .bool, .bool _ => some true
  | .list, .list _ => some true
  | .tuple, .tuple _ => some true
  | _, .dict _ => none
  | _, .str _ => none
  | _, _ => some false
def tyN : D → String
  | .none => "NoneType"
  | .bool _ => "bool"
  | .int _ => "int"
  | .list _ => "list"
  | .tuple _ => "tuple"
  | _ => ""
theorem isi_kit {K : PySem.W.Frag} {d : D} {c : Cl} {b : Bool} (h : isiB c d = some b) : PySem.W.kitOne K (.type (tyN d)) (.type c.nm) = some b := by
  refine kit_ty ?_
  cases d <;> cases c <;> cases h <;> first
    | (show kitB "NoneType" _ = _; decide +kernel)
    | (show kitB "bool" _ = _; decide +kernel)
    | (show kitB "int" _ = _; decide +kernel)
    | (show kitB "list" _ = _; decide +kernel)
    | (show kitB "tuple" _ = _; decide +kernel)
theorem isi_ty {S H : Hp} {v : V} {d : D} {c : Cl} {b : Bool} (sh : Same S H) (r : Rp X.prog X.w S v d) (h : isiB c d = some b) : TyX X.K H v (.type (tyN d)) := by
  cases r with
  | non => exact .base .non
  | bl x => exact .base (.bl x)
  | int i => exact .base (.int i)
  | lst e _ => exact .base (.lst (sh _ _ e))
  | tup e _ => exact .base (.tup (sh _ _ e))
  | dk e _ => cases c <;> cases h
  | dn e _ => cases c <;> cases h
  | raw z => cases c <;> cases h
def isiD (c : Cl) (d : D) : Option D := (isiB c d).map .bool
variable {a b : Expr} {ga gb : Sl → Option D} {pos p : Pos}
theorem pd_isi {x : Str} (c : Cl) {p1 : Pos} (hg : Gl X "isinstance") (hm : X.mg "isinstance" = none) (gc : Gl X x) (mc : X.mg x = none) (hv : bootBuiltins x = some (.type c.nm)) (ha : PD T X a ga)
    (hn : x ≠ "__name__" := by decide) (hdb : (x == ("__debug__" : Str)) = false := by decide)
    (he : starEach [a, .Name x p1] X.env = (false, eval a X.env) :: starEach [.Name x p1] X.env := by rfl) (hpl : (backTo pos (starEach [.Name x p1] X.env)).any (·.1) = false := by rfl) :
    PD T X (.Call (.Name "isinstance" p) [a, .Name x p1] [] pos) (d1 (isiD c) ga) := by
  refine PE_imp (pe_callB call_isi hg hm rfl (pa_cons ha (pa_cons (pe_bltn (v := .ty c.nm) gc mc hv rfl hn hdb) pa_nil) he) (by decide) (by decide) he hpl) fun σ H Q q => ?_
  obtain ⟨B, S, δ, d, k, ed, q⟩ := q
  obtain ⟨y, e1, ed⟩ := Option.bind_eq_some_iff.mp ed
  obtain ⟨bb, e2, rfl⟩ := Option.map_eq_some_iff.mp ed
  refine ⟨B, S, δ, y, k, e1, fun v S' H' s r => ?_⟩
  exact ⟨v, _, _, _, bb, rfl, .ty _, isi_ty s.sh r e2, isi_kit e2, q _ S' H' s (.bl bb)⟩
def isiTL (d : D) : Option D := (isiB .tuple d).bind fun x => if x = true then some (.bool true) else (isiB .list d).map .bool
theorem pd_isi2 {cx : Nat} {p1 p2 p3 : Pos} (hg : Gl X "isinstance") (hm : X.mg "isinstance" = none) (gc : Gl X "tuple") (mc : X.mg "tuple" = none) (gl : Gl X "list") (ml : X.mg "list" = none) (ha : PD T X a ga)
    (he : starEach [a, .Tuple [.Name "tuple" p1, .Name "list" p2] cx p3] X.env = (false, eval a X.env) :: starEach [.Tuple [.Name "tuple" p1, .Name "list" p2] cx p3] X.env := by rfl) (hpl : (backTo pos (starEach [.Tuple [.Name "tuple" p1, .Name "list" p2] cx p3] X.env)).any (·.1) = false := by rfl) :
    PD T X (.Call (.Name "isinstance" p) [a, .Tuple [.Name "tuple" p1, .Name "list" p2] cx p3] [] pos) (d1 isiTL ga) := by
  refine PE_imp (pe_callB call_isiT hg hm rfl (pa_cons ha (pa_cons (pe_tup (pa_cons (pe_bltn (v := .ty "tuple") gc mc rfl rfl) (pa_cons (pe_bltn (v := .ty "list") gl ml rfl rfl) pa_nil))) pa_nil) he) (by decide) (by decide) he hpl) fun σ H Q q => ?_
  obtain ⟨B, S, δ, d, k, ed, q⟩ := q
  obtain ⟨y, e1, ed⟩ := Option.bind_eq_some_iff.mp ed
  obtain ⟨b1, e2, ed⟩ := Option.bind_eq_some_iff.mp ed
  refine ⟨B, S, δ, y, k, e1, fun v S' H' s r => ⟨by rw [sizeLine_eq]; decide, fun p np => ?_⟩⟩
  have sh : Same S' (upd H' p (.tup [.ty "tuple", .ty "list"])) := fun b u e => by
    have e' := s.sh b u e
    rw [upd_ne (ne_of_none e' np)]; exact e'
  have s2 := ((k.step s).okk.newO np (o := .tup [.ty "tuple", .ty "list"]))
  have fin : ∀ bb, d = .bool bb → PySem.W.kitAny X.K (.type (tyN y)) [.type "tuple", .type "list"] = some bb → rIsiT X.K [v, .ref p] (upd H' p (.tup [.ty "tuple", .ty "list"])) Q := fun bb eb ek => by
    subst eb
    exact ⟨v, p, _, _, _, bb, rfl, upd_same, .cons (.ty _) (.cons (.ty _) .nil), isi_ty sh r e2, ek, q _ _ _ (Step.trans k.okk s s2) (.bl bb)⟩
  have ek := isi_kit (K := X.K) e2
  cases b1 with
  | true => cases ed; exact fin true rfl (kitAny_cons ek (fun z => by cases z) fun _ => rfl)
  | false =>
    obtain ⟨b2, e3, rfl⟩ := Option.map_eq_some_iff.mp ed
    have ek2 := isi_kit (K := X.K) e3
    exact fin b2 rfl (kitAny_cons ek (fun _ => kitAny_cons ek2 (fun z => by rw [z]; exact kitAny_nil) fun z => z) fun z => by cases z)
end
end Gd

set_option maxHeartbeats 2000000
/-! GdG: one's own objects read and written; statements. -/
namespace Gd
open PySem PySem.Spec PyProof.Rows L2
/-! ### int dicts -/
section
variable {P : Program} {w : World} {S : Hp}
theorem kv_some {ks : List (Key × V)} {kvs : List (D × D)} (i : Int) (h : KvL P w S ks kvs) : (valV ks (Sum.inl i)).isSome = (dget kvs (.int i)).isSome := by
  cases hd : dget kvs (.int i) with
  | none => rw [kv_none h hd]; rfl
  | some d =>
    obtain ⟨v, q, _⟩ := kv_get h hd
    rw [q]; rfl
theorem kv_map {i : Int} {v : V} {d : D} (rv : Rp P w S v d) : ∀ {ks : List (Key × V)} {kvs : List (D × D)}, KvL P w S ks kvs →
    KvL P w S (ks.map fun kv => if kv.1 = Sum.inl i then (kv.1, v) else kv) (kvs.map fun p => if PyData.eqv p.1 (.int i) = true then (p.1, d) else p)
  | _, _, .nil => .nil
  | _, _, .cons (i := j) (v := v0) (d := d0) r t => by
    rw [List.map_cons, List.map_cons]
    by_cases z : j = i
    · subst z
      simp only [PyData.eqv, beq_self_eq_true, if_true]
      exact .cons rv (kv_map rv t)
    · have z' : ¬ (Sum.inl j : Key) = Sum.inl i := fun q => z (Sum.inl.inj q)
      have z2 : ¬ PyData.eqv (.int j) (.int i) = true := by simp [PyData.eqv, z]
      show KvL P w S ((if (Sum.inl j : Key) = Sum.inl i then _ else _) :: _) ((if PyData.eqv (.int j) (.int i) = true then _ else _) :: _)
      rw [if_neg z', if_neg z2]
      exact .cons r (kv_map rv t)
theorem kv_app : ∀ {ks js : List (Key × V)} {kvs lvs : List (D × D)}, KvL P w S ks kvs → KvL P w S js lvs → KvL P w S (ks ++ js) (kvs ++ lvs)
  | _, _, _, _, .nil, h => h
  | _, _, _, _, .cons r t, h => .cons r (kv_app t h)
theorem kv_len : ∀ {ks : List (Key × V)} {kvs : List (D × D)}, KvL P w S ks kvs → ks.length = kvs.length
  | _, _, .nil => rfl
  | _, _, .cons _ t => by rw [List.length_cons, List.length_cons, kv_len t]
theorem kv_put {ks : List (Key × V)} {kvs : List (D × D)} {i : Int} {v : V} {d : D} (h : KvL P w S ks kvs) (rv : Rp P w S v d) : KvL P w S (putK ks (Sum.inl i) v) (dput kvs (.int i) d) := by
  unfold putK dput
  rw [valV_any, dget_any, kv_some i h]
  by_cases z : (dget kvs (.int i)).isSome = true
  · rw [if_pos z, if_pos z]
    exact kv_map rv h
  · rw [if_neg z, if_neg z]
    exact kv_app h (.cons rv .nil)
end
section
variable {T : List Addr} {X : Cx}
/-! ### x[e] of one's own x -/
def ixO : SD → D → Option D
  | .owl ds, .int i => atI ds i
  | .own kvs, y => (tkey y).bind fun _ => dget kvs y
  | .owk kvs, .int i => dget kvs (.int i)
  | _, _ => none
def rIxO (P : Program) (w : World) (T : List Addr) : R2 := fun x y H Q => ∃ S sd a o dy d, x = .ref a ∧ H a = some o ∧ OwR P w S a sd o ∧ Okk T S H ∧ Rp P w S y dy ∧ ixO sd dy = some d ∧ ∀ v S' H', Step T S H S' H' → Rp P w S' v d → Q v H'
theorem ixr_own {k : Nat} (hr : Room k X.A) : IxR X (rIxO X.prog X.w T) := by
  intro value slice pins s σ H x y v u Q I rx ry h hs
  obtain ⟨S, sd, a, o, dy, d, rfl, ea, r, kk, hy, hg, q⟩ := h
  have q := fun v' r' => q v' S H kk.refl r'
  cases r with
  | @owl vs ds r =>
    cases hy with
    | int i =>
      obtain ⟨z, e1, r1⟩ := rpl_atI r hg
      exact ix_list value slice pins s σ H _ _ v u Q I rx ry ⟨a, vs, i, z, rfl, rfl, SqL.of ea, e1, q z r1⟩ hs
    | _ => cases hg
  | @own ob2 xs kvs r =>
    cases rx
    obtain ⟨key, ek, hg⟩ := Option.bind_eq_some_iff.mp (show ((tkey dy).bind fun _ => dget kvs dy) = some d from hg)
    obtain ⟨_, ek', _⟩ := tkey_of ek
    obtain ⟨h1, h2, h3⟩ := dn_at I kk.sh ea r
    obtain ⟨bb, rfl, rfl, hk⟩ := tkey_is I kk.sh hy ry ek
    obtain ⟨c, u1, v1, q1, ru, rv⟩ := (ent_get r ek').1 d hg
    have hroom : (nestedKind X.prog X.w).room X.A.in1 := by
      show X.A.units + 1 + 8 < cLine
      have := hr.un; omega
    exact tail_any (ops := [.ref a, .ref bb]) h3.typeIs PySem.F.slot_dict_getitem.lookup (wpAny_getItem_heap hroom hk h3 q1 ⟨v1, H, I.tok _, ru, q v1 rv⟩) hs
  | @owk ks kvs r =>
    cases rx
    cases hy with
    | int i =>
      obtain ⟨v1, e1, r1⟩ := kv_get r (show dget kvs (.int i) = some d from hg)
      obtain ⟨z1, z2, vs, rel, dd⟩ := dk_of I.hok ea
      have hu : X.A.units + 1 < cLine := hu_of hr
      have gt : DGet H a (.int i) (some v1) := by
        rw [← e1]
        exact DGet.k (k := Sum.inl i) ea
      exact tail_any (ops := [.ref a, u]) dd.typeIs PySem.F.slot_dict_getitem.lookup (d_getItem hu I gt ry fun w' s3 I3 rw' => ⟨v1, H, I3, rw', q v1 r1⟩) hs
    | _ => cases hg
variable {a b : Expr} {ga gb : Sl → Option D} {pos p : Pos}
def dixO (i : Nat) (b : Sl → Option D) : Sl → Option D := fun δ => match δ[i]? with
  | some (some sd) => (b δ).bind fun y => ixO sd y
  | _ => none
theorem slot_own {P : Program} {w : World} {B : Hp × Hp} {S H : Hp} {σ : L2.St} {δ : Sl} {i : Nat} {sd : SD} (k : SOk P w T B S σ H δ) (e : δ[i]? = some (some sd)) (m : sd.mine = true) :
    ∃ a o, σ[i]? = some (some (.ref a)) ∧ S a = none ∧ H a = some o ∧ OwR P w S a sd o ∧ a ∉ T := by
  obtain ⟨v, e1, r⟩ := k.slot i sd e
  obtain ⟨a, o, rfl, n, ea, q⟩ := SlotR.own m r
  exact ⟨a, o, e1, n, ea, q, k.okk.nT ea q.noT⟩
theorem ixO_mine {sd : SD} {y d : D} (h : ixO sd y = some d) : sd.mine = true := by
  cases sd with
  | sh x => cases h
  | _ => rfl
theorem pd_ixO {k : Nat} (hr : Room k X.A) {x : Str} (i : Nat) (h : PE X (.Name x p) (tVar i)) (hb : PD T X b gb) (hs : PlainIx b := by exact fun _ _ => rfl) : PD T X (.Subscript (.Name x p) b pos) (dixO i gb) := by
  refine PE_imp (pe_ix (ixr_own (T := T) hr) h hb hs) fun σ H Q q => ?_
  obtain ⟨B, S, δ, d, kk, ed, q⟩ := q
  unfold dixO at ed
  split at ed
  · rename_i sd hd
    obtain ⟨y, e1, ed⟩ := Option.bind_eq_some_iff.mp ed
    obtain ⟨a, o, ea, nS, eo, r, nT⟩ := slot_own kk hd (ixO_mine ed)
    refine ⟨.ref a, ea, B, S, δ, y, kk, e1, fun v S1 H1 s1 r1 => ?_⟩
    exact ⟨S1, sd, a, o, y, d, rfl, s1.keep a o eo nT, r.mono s1.ss, (kk.step s1).okk, r1, ed, fun v2 S2 H2 s2 r2 => q v2 S2 H2 (Step.trans kk.okk s1 s2) r2⟩
  · cases ed
/-! ### e in x, one's own dict x, or a shared dict -/
def inO : SD → D → Option Bool
  | .own kvs, y => (tkey y).map fun _ => (dget kvs y).isSome
  | .sh (.dict kvs), y => (tkey y).bind fun _ => if kvs.all (fun p => (tkey p.1).isSome) = true then some (dget kvs y).isSome else none
  | _, _ => none
def rInO (P : Program) (w : World) (T : List Addr) (g : Bool → Bool) : R2 := fun y x H Q => ∃ S kvs a ob xs dy key, x = .ref a ∧ H a = some (DN P w a ob xs) ∧ EntL P w S xs kvs ∧ Okk T S H ∧ Rp P w S y dy ∧ tkey dy = some key ∧ Q (.bl (g (dget kvs dy).isSome)) H
theorem op_inO {k : Nat} (hr : Room k X.A) : OpR X (compareOp .In) (rInO X.prog X.w T id) := by
  intro pins s σ H x y v u Q I rx ry h
  obtain ⟨S, kvs, a, ob, xs, dy, key, rfl, ea, r, kk, hy, ek, q⟩ := h
  cases ry
  obtain ⟨h1, h2, h3⟩ := dn_at I kk.sh ea r
  obtain ⟨bb, rfl, rfl, hk⟩ := tkey_is I kk.sh hy rx ek
  obtain ⟨_, ek', _⟩ := tkey_of ek
  have hroom : (nestedKind X.prog X.w).room X.A.in1 := by
    show X.A.units + 1 + 8 < cLine
    have := hr.un; omega
  refine wpAny_in_heap hroom hk h1 h3 ⟨.bl (dget kvs dy).isSome, H, I.tok _, ?_, q⟩
  rw [ent_some r ek']; rfl
theorem op_notinO {k : Nat} (hr : Room k X.A) : OpR X (compareOp .NotIn) (rInO X.prog X.w T not) := by
  intro pins s σ H x y v u Q I rx ry h
  obtain ⟨S, kvs, a, ob, xs, dy, key, rfl, ea, r, kk, hy, ek, q⟩ := h
  cases ry
  obtain ⟨h1, h2, h3⟩ := dn_at I kk.sh ea r
  obtain ⟨bb, rfl, rfl, hk⟩ := tkey_is I kk.sh hy rx ek
  obtain ⟨_, ek', _⟩ := tkey_of ek
  have hroom : (nestedKind X.prog X.w).room X.A.in1 := by
    show X.A.units + 1 + 8 < cLine
    have := hr.un; omega
  refine wpAny_notIn_heap hroom hk h1 h3 ⟨.bl (!(dget kvs dy).isSome), H, I.tok _, ?_, q⟩
  rw [ent_some r ek']; rfl
def tinO (i : Nat) (g : Bool → Bool) (b : Sl → Option D) : Sl → Option Bool := fun δ => match δ[i]? with
  | some (some (.own kvs)) => (b δ).bind fun y => (tkey y).map fun _ => g (dget kvs y).isSome
  | _ => none
theorem pt_inO {k : Nat} (hr : Room k X.A) {x : Str} (i : Nat) {op : CmpOp} {g : Bool → Bool} (hop : (op = .In ∧ g = id) ∨ (op = .NotIn ∧ g = not)) (h : PE X (.Name x p) (tVar i)) (hb : PD T X b gb) (hm : behindInMarks op (.Name x p) = false := by rfl) :
    PTd T X (.Compare b [op] [.Name x p] pos) (tinO i g gb) := by
  have ho : OpR X (compareOp op) (rInO X.prog X.w T g) := by
    rcases hop with ⟨rfl, rfl⟩ | ⟨rfl, rfl⟩
    · exact op_inO hr
    · exact op_notinO hr
  refine PT_imp (pt_cmpR ho hb h hm) fun σ H Q q => ?_
  obtain ⟨B, S, δ, d, kk, ed, q⟩ := q
  unfold tinO at ed
  split at ed
  · rename_i kvs hd
    obtain ⟨y, e1, ed⟩ := Option.bind_eq_some_iff.mp ed
    obtain ⟨key, e2, rfl⟩ := Option.map_eq_some_iff.mp ed
    obtain ⟨a, o, ea, nS, eo, r, nT⟩ := slot_own kk hd rfl
    refine ⟨B, S, δ, y, kk, e1, fun v S1 H1 s1 r1 => ⟨.ref a, ea, ?_⟩⟩
    cases r with
    | @own ob2 xs kvs r =>
      exact ⟨S1, kvs, a, ob2, xs, y, key, rfl, s1.keep a _ eo nT, r.mono s1.ss, (kk.step s1).okk, r1, e2, _, rfl, q S1 H1 s1⟩
  · cases ed
/-! ### x[k] = v of one's own x -/
def putO : SD → D → D → Option SD
  | .owl ds, .int i, x => (ixN ds.length i).map fun j => .owl (ds.set j x)
  | .own kvs, y, x => (tkey y).bind fun _ => if kvs.length < 1000000 then some (.own (dput kvs y x)) else none
  | .owk kvs, .int i, x => if kvs.length < 1000000 then some (.owk (dput kvs (.int i) x)) else none
  | _, _, _ => none
theorem putO_mine {sd sd' : SD} {y x : D} (h : putO sd y x = some sd') : sd.mine = true := by
  cases sd with
  | sh x => cases h
  | _ => rfl
def rPutO (P : Program) (w : World) (T : List Addr) : TSet := fun x y v H Q => ∃ S sd a o dy d sd', x = .ref a ∧ H a = some o ∧ S a = none ∧ OwR P w S a sd o ∧ Okk T S H ∧ Rp P w S y dy ∧ Rp P w S v d ∧ putO sd dy d = some sd' ∧ ∀ o', OwR P w S a sd' o' → Q (upd H a o')
theorem set_own {k : Nat} (hr : Room k X.A) : PSet X (rPutO X.prog X.w T) := by
  intro pins s σ H o i v ov iv u Q I ro ri rv h
  obtain ⟨S, sd, a, ob, dy, d, sd', rfl, ea, nS, r, kk, hy, hv, hg, q⟩ := h
  cases r with
  | @owl vs ds r =>
    cases hy with
    | int j =>
      obtain ⟨m, e1, rfl⟩ := Option.map_eq_some_iff.mp (show (ixN ds.length j).map (fun m => SD.owl (ds.set m d)) = some sd' from hg)
      exact set_list pins s σ H _ _ _ ov iv u Q I ro ri rv ⟨a, vs, j, m, rfl, rfl, ea, by rw [r.length]; exact e1, q _ (.owl (r.set m hv))⟩
    | _ => cases hg
  | @own ob2 xs kvs r =>
    cases ro
    obtain ⟨key, ek, hg⟩ := Option.bind_eq_some_iff.mp (show ((tkey dy).bind fun _ => if kvs.length < 1000000 then some (SD.own (dput kvs dy d)) else none) = some sd' from hg)
    split at hg
    · rename_i hz
      cases hg
      obtain ⟨_, ek', hdep⟩ := tkey_of ek
      obtain ⟨h1, h2, h3⟩ := dn_at I kk.sh ea r
      obtain ⟨bb, rfl, rfl, hk⟩ := tkey_is I kk.sh hy ri ek
      have hroom : (nestedKind X.prog X.w).room X.A.in1 := by
        show X.A.units + 1 + 8 < cLine
        have := hr.un; omega
      refine wpAny_setItem_heap (hsz := h2) hroom hk h3 fun h' hm' hs => ?_
      have r' := ent_put r ek' hdep hy rv hv
      obtain ⟨q1, es, ep, hq, x2, x3, x4, _, x5⟩ := id hm'
      have hl : (storedH xs key bb u).length ≤ sizeLine := by
        rw [ent_len r']
        have := len_dput kvs dy d
        have := line_big (n := kvs.length + 1) (by omega)
        omega
      exact ⟨_, d_write I (by rw [ea]; exact True.intro) hs ⟨q1, hq⟩ (dn_ok h1 hl x5 hq ⟨es, ep, x2, x3, x4⟩), q _ (.own r')⟩
    · cases hg
  | @owk ks kvs r =>
    cases hy with
    | int j =>
      have hg : (if kvs.length < 1000000 then some (SD.owk (dput kvs (.int j) d)) else none) = some sd' := hg
      split at hg
      · rename_i hz
        cases hg
        exact set_dict (hu_of hr) pins s σ H _ _ _ ov iv u Q I ro ri rv ⟨a, _, rfl, DPut.k (k := Sum.inl j) ea (by rw [kv_len r]; exact line_big (by omega)), q _ (.owk (kv_put r hv))⟩
      · cases hg
    | _ => cases hg

/-! ### statements -/
inductive Out where
  | nx (δ : Sl)
  | rt (d : D)
  | rf (sd : SD)
def EndO (P : Program) (w : World) (T : List Addr) (B : Hp × Hp) (S : Hp) (D : Ends) : Out → Prop
  | .nx δ => ∀ S' σ' H', SOk P w T B S' σ' H' δ → Same S S' → D.nx σ' H'
  | .rt d => ∀ v S' H', Step T B.1 B.2 S' H' → Rp P w S' v d → D.rt v H'
  | .rf sd => ∀ a o S' H', Step T B.1 B.2 S' H' → B.2 a = none → S' a = none → H' a = some o → OwR P w S' a sd o → D.rt (.ref a) H'
theorem EndO.mono {P : Program} {w : World} {B : Hp × Hp} {S S' : Hp} {D : Ends} {o : Out} (h : EndO P w T B S D o) (ss : Same S S') : EndO P w T B S' D o := by
  cases o with
  | nx δ => exact fun S2 σ' H' k s => h S2 σ' H' k (ss.trans s)
  | rt d => exact h
  | rf sd => exact h
def tS (P : Program) (w : World) (T : List Addr) (g : Sl → Option Out) : TS := fun D σ H => ∃ (B : Hp × Hp) (S : Hp) (δ : Sl) (o : Out), SOk P w T B S σ H δ ∧ g δ = some o ∧ EndO P w T B S D o
abbrev PSd (T : List Addr) (X : Cx) (st : Stmt) (g : Sl → Option Out) : Prop := PS X st (tS X.prog X.w T g)
abbrev PSsd (T : List Addr) (X : Cx) (st : List Stmt) (g : Sl → Option Out) : Prop := PSs X st (tS X.prog X.w T g)
def andT (f g : Sl → Option Out) : Sl → Option Out := fun δ => (f δ).bind fun
  | .nx δ' => g δ'
  | .rt d => some (.rt d)
  | .rf sd => some (.rf sd)
def snil : Sl → Option Out := fun δ => some (.nx δ)
def sif (c : Sl → Option Bool) (f g : Sl → Option Out) : Sl → Option Out := fun δ => (c δ).bind fun x => if x = true then f δ else g δ
def sset (i : Nat) (a : Sl → Option D) : Sl → Option Out := fun δ => (a δ).map fun d => .nx (δ.set i (some (.sh d)))
def sown (i : Nat) (a : Sl → Option SD) : Sl → Option Out := fun δ => (a δ).bind fun sd => if sd.mine = true then some (.nx (δ.set i (some sd))) else none
def sret (a : Sl → Option D) : Sl → Option Out := fun δ => (a δ).map .rt
def sretF (a : Sl → Option SD) : Sl → Option Out := fun δ => (a δ).map .rf
def snever : Sl → Option Out := fun _ => none
def sfrz (i : Nat) (f : Sl → Option Out) : Sl → Option Out := fun δ => match δ[i]? with
  | some (some (.sh _)) => none
  | some (some sd) => f (δ.set i (some (.sh sd.val)))
  | _ => none
def sput (i : Nat) (k a : Sl → Option D) : Sl → Option Out := fun δ => match δ[i]? with
  | some (some sd) => (a δ).bind fun x => (k δ).bind fun y => (putO sd y x).map fun sd' => .nx (δ.set i (some sd'))
  | _ => none
def sapp (i : Nat) (a : Sl → Option D) : Sl → Option Out := fun δ => match δ[i]? with
  | some (some (.owl ds)) => (a δ).bind fun x => if ds.length < 1000000 then some (.nx (δ.set i (some (.owl (ds ++ [x]))))) else none
  | _ => none
variable {st : Stmt} {sts ss2 : List Stmt} {f g : Sl → Option Out} {fc : Sl → Option Bool} {gf : Sl → Option SD} {e c : Expr}
theorem pssd_nil : PSsd T X [] snil := by
  refine PSs_imp pss_nil fun D σ H q => ?_
  obtain ⟨B, S, δ, o, k, e, q⟩ := q
  cases e
  exact q S σ H k (Same.refl S)
theorem pssd_cons (h1 : PSd T X st f) (h2 : PSsd T X sts g) : PSsd T X (st :: sts) (andT f g) := by
  refine PSs_imp (pss_cons h1 h2) fun D σ H q => ?_
  obtain ⟨B, S, δ, o, k, e, q⟩ := q
  obtain ⟨o1, e1, e2⟩ := Option.bind_eq_some_iff.mp e
  cases o1 with
  | nx δ' => exact ⟨B, S, δ, .nx δ', k, e1, fun S' σ' H' k' s => ⟨B, S', δ', o, k', e2, q.mono s⟩⟩
  | rt d => cases e2; exact ⟨B, S, δ, .rt d, k, e1, q⟩
  | rf d => cases e2; exact ⟨B, S, δ, .rf d, k, e1, q⟩
theorem pssd_one (h1 : PSd T X st f) : PSsd T X [st] f := pss_one h1
theorem psd_never : PSd T X st snever := by
  refine PS_imp ps_never fun D σ H q => ?_
  obtain ⟨B, S, δ, o, k, e, q⟩ := q
  cases e
theorem pssd_never : PSsd T X sts snever := by
  refine PSs_imp pss_never fun D σ H q => ?_
  obtain ⟨B, S, δ, o, k, e, q⟩ := q
  cases e
theorem psd_if (hc : PTd T X c fc) (h1 : PSsd T X sts f) (h2 : PSsd T X ss2 g) : PSd T X (.If c sts ss2 pos) (sif fc f g) := by
  refine PS_imp (ps_if hc h1 h2) fun D σ H q => ?_
  obtain ⟨B, S, δ, o, k, e, q⟩ := q
  obtain ⟨x, e1, e2⟩ := Option.bind_eq_some_iff.mp e
  refine ⟨B, S, δ, x, k, e1, fun S' H' s => ?_⟩
  cases x with
  | true => exact ⟨B, S', δ, o, k.step s, e2, q.mono s.ss⟩
  | false => exact ⟨B, S', δ, o, k.step s, e2, q.mono s.ss⟩
theorem psd_set {i : Nat} {x : Str} {pos' : Pos} (hN : X.N.Nodup) (hi : X.N[i]? = some x) (hx : Loc X.env.scope x) (he : PD T X e ga) (hs : swapsWith e (some (.Name x pos')) pos.line X.env = pure false := by rfl)
    (hf : X.fn x = true ∨ X.env.scope.names.lookup x = some .local := by first | exact .inl rfl | exact .inr rfl | assumption) : PSd T X (.Assign [.Name x pos'] e pos) (sset i ga) := by
  refine PS_imp (ps_set hN hi hx he hs hf) fun D σ H q => ?_
  obtain ⟨B, S, δ, o, k, e, q⟩ := q
  obtain ⟨x, e1, rfl⟩ := Option.map_eq_some_iff.mp e
  exact ⟨B, S, δ, x, k, e1, fun v S' H' s r => q S' _ H' ((k.step s).setS i r) s.ss⟩
theorem psd_own {i : Nat} {x : Str} {pos' : Pos} (hN : X.N.Nodup) (hi : X.N[i]? = some x) (hx : Loc X.env.scope x) (he : PF T X e gf) (hs : swapsWith e (some (.Name x pos')) pos.line X.env = pure false := by rfl)
    (hf : X.fn x = true ∨ X.env.scope.names.lookup x = some .local := by first | exact .inl rfl | exact .inr rfl | assumption) : PSd T X (.Assign [.Name x pos'] e pos) (sown i gf) := by
  refine PS_imp (ps_set hN hi hx he hs hf) fun D σ H q => ?_
  obtain ⟨B, S, δ, o, k, e, q⟩ := q
  obtain ⟨sd, e1, e2⟩ := Option.bind_eq_some_iff.mp e
  split at e2
  · rename_i m
    cases e2
    exact ⟨B, S, δ, sd, k, e1, fun a o S' H' s n nS ea r => q S' _ H' (SOk.setO k (k.step s) i m n (SlotR.mk r nS ea)) s.ss⟩
  · cases e2
theorem psd_ret (he : PD T X e ga) : PSd T X (.Return (some e) pos) (sret ga) := by
  refine PS_imp (ps_ret he) fun D σ H q => ?_
  obtain ⟨B, S, δ, o, k, e, q⟩ := q
  obtain ⟨x, e1, rfl⟩ := Option.map_eq_some_iff.mp e
  exact ⟨B, S, δ, x, k, e1, fun v S' H' s r => q v S' H' (Step.trans k.okB k.base s) r⟩
theorem psd_retF (he : PF T X e gf) : PSd T X (.Return (some e) pos) (sretF gf) := by
  refine PS_imp (ps_ret he) fun D σ H q => ?_
  obtain ⟨B, S, δ, o, k, e, q⟩ := q
  obtain ⟨x, e1, rfl⟩ := Option.map_eq_some_iff.mp e
  refine ⟨B, S, δ, x, k, e1, fun a o S' H' s n nS ea r => q a o S' H' (Step.trans k.okB k.base s) ?_ nS ea r⟩
  cases e : B.2 a with
  | none => rfl
  | some u => exact absurd n (k.base.dom k.okB (by rw [e]; simp))
theorem psd_frz (i : Nat) (h : PSd T X st f) : PSd T X st (sfrz i f) := by
  refine PS_imp h fun D σ H q => ?_
  obtain ⟨B, S, δ, o, k, e, q⟩ := q
  unfold sfrz at e
  split at e
  · cases e
  · rename_i sd hno hd
    have m : sd.mine = true := by
      cases sd with
      | sh d => exact absurd rfl (hno d)
      | _ => rfl
    obtain ⟨S', ss, k'⟩ := k.freeze hd m
    exact ⟨B, S', _, o, k', e, q.mono ss⟩
  · cases e
theorem pssd_frz (i : Nat) (h : PSsd T X sts f) : PSsd T X sts (sfrz i f) := by
  refine PSs_imp h fun D σ H q => ?_
  obtain ⟨B, S, δ, o, k, e, q⟩ := q
  unfold sfrz at e
  split at e
  · cases e
  · rename_i sd hno hd
    have m : sd.mine = true := by
      cases sd with
      | sh d => exact absurd rfl (hno d)
      | _ => rfl
    obtain ⟨S', ss, k'⟩ := k.freeze hd m
    exact ⟨B, S', _, o, k', e, q.mono ss⟩
  · cases e
theorem psd_put {k : Nat} (hr : Room k X.A) {x : Str} {p1 p2 : Pos} (i : Nat) (h : PE X (.Name x p1) (tVar i)) (hk : PD T X b gb) (he : PD T X e ga)
    (hs : swapsWithSole [.Subscript (.Name x p1) b p2] e pos.line X.env = pure false := by rfl) (hw : swappedStores [.Subscript (.Name x p1) b p2] e X.env = pure none := by rfl)
    (h1 : (assignEach [.Subscript (.Name x p1) b p2] X.env).map (·.2) = [assign (.Subscript (.Name x p1) b p2) X.env] := by rfl)
    (h2 : ∀ v, assign (.Subscript (.Name x p1) b p2) X.env v = (do
      let ov ← holding [v] (eval (.Name x p1) X.env)
      let iv ← holding [v, ov] (eval b X.env)
      standAt p2
      holding [v, ov, iv] (setItem ov iv v)
      release [v, ov, iv] []) := by intro _; rfl) : PSd T X (.Assign [.Subscript (.Name x p1) b p2] e pos) (sput i gb ga) := by
  refine PS_imp (ps_asg he (pg_sub h hk (set_own (T := T) hr) h2) hs hw h1) fun D σ H q => ?_
  obtain ⟨B, S, δ, o, kk, e, q⟩ := q
  unfold sput at e
  split at e
  · rename_i sd hd
    obtain ⟨dx, e1, e⟩ := Option.bind_eq_some_iff.mp e
    obtain ⟨dy, e2, e⟩ := Option.bind_eq_some_iff.mp e
    obtain ⟨sd', e3, rfl⟩ := Option.map_eq_some_iff.mp e
    have m := putO_mine e3
    obtain ⟨a, ob, ea, nS, eo, r, nT⟩ := slot_own kk hd m
    refine ⟨B, S, δ, dx, kk, e1, fun v S1 H1 s1 r1 => ⟨.ref a, ea, B, S1, δ, dy, kk.step s1, e2, fun v2 S2 H2 s2 r2 => ?_⟩⟩
    have k2 := (kk.step s1).step s2
    have s12 := Step.trans kk.okk s1 s2
    refine ⟨S2, sd, a, ob, dy, dx, sd', rfl, s12.keep a ob eo nT, ?_, r.mono s12.ss, k2.okk, r2, r1.mono s2.ss, e3, fun o' r' => ?_⟩
    · rw [s12.only a (by rw [eo]; simp)]; exact nS
    · exact q S2 σ _ (k2.write hd m ea r') s12.ss
  · cases e
theorem psd_app {x : Str} {p1 p2 p3 : Pos} (i : Nat) (h : PE X (.Name x p1) (tVar i)) (he : PD T X e ga)
    (hbase : attributeBase (.Name x p1) "append" X.env (eval (.Name x p1) X.env) = eval (.Name x p1) X.env := by rfl)
    (hfew : ((backTo p3 (starEach [e] X.env)).all (fun x => !x.1) && (backToKw p3 (keywordEach [] X.env)).all (fun x => x.1.isSome)
      && decide ([e].length + ([] : List Keyword).length + (if ([] : List Keyword).isEmpty then 0 else 1) < 30)) = true := by rfl)
    (hline : (p2.endLine == p3.line) = true := by rfl) (hs : starEach [e] X.env = (false, eval e X.env) :: starEach [] X.env := by rfl)
    (hsw : swapsWith (.Call (.Attribute (.Name x p1) "append" p2) [e] [] p3) none pos.line X.env = pure false := by rfl) : PSd T X (.Expr (.Call (.Attribute (.Name x p1) "append" p2) [e] [] p3) pos) (sapp i ga) := by
  refine PS_imp (ps_expr (pe_bm PySem.F.plainAttrs_list PySem.F.slot_list_append PySem.F.type_list_append mt_append h (pa_cons he pa_nil hs) hbase hfew hline hs) hsw) fun D σ H q => ?_
  obtain ⟨B, S, δ, o, kk, e, q⟩ := q
  unfold sapp at e
  split at e
  · rename_i ds hd
    obtain ⟨dx, e1, e⟩ := Option.bind_eq_some_iff.mp e
    split at e
    · rename_i hz
      cases e
      obtain ⟨a, ob, ea, nS, eo, r, nT⟩ := slot_own kk hd rfl
      cases r with
      | @owl vs ds r =>
        refine ⟨.ref a, ea, .inl ⟨rfl, vs, SqL.of eo⟩, B, S, δ, dx, kk, e1, fun v S1 H1 s1 r1 => ?_⟩
        refine ⟨a, vs, v, rfl, rfl, s1.keep a _ eo nT, by rw [r.length]; exact line_big (by omega), ?_⟩
        exact q S1 σ _ ((kk.step s1).write hd rfl ea (.owl ((r.mono s1.ss).append (.cons r1 .nil)))) s1.ss
    · cases e
  · cases e
end
end Gd

set_option maxHeartbeats 2000000
/-! GdH: targets, loops, comprehensions. -/
namespace Gd
open PySem PySem.Spec PyProof.Rows L2
/-! ### what is walked -/
structure ItOk (P : Program) (w : World) (T : List Addr) (J : It) (S : Hp) (ds : List D) : Prop where
  go : ∀ (i : Nat) (S' H' : Hp) (d : D), Okk T S' H' → Same S S' → ds[i]? = some d → J.go i H' ∧ ∀ x H2, J.yld i H' x H2 → ∃ S2, Step T S' H' S2 H2 ∧ Rp P w S2 x d
  stop : ∀ (i : Nat) (S' H' : Hp), Okk T S' H' → Same S S' → ds.length ≤ i → J.stop i H'
def tI (P : Program) (w : World) (T : List Addr) (f : Sl → Option (List D)) : TI := fun σ H R => ∃ (B : Hp × Hp) (S : Hp) (δ : Sl) (ds : List D), SOk P w T B S σ H δ ∧ f δ = some ds ∧ ∀ J S' H', Step T S H S' H' → ItOk P w T J S' ds → R J H'
theorem PI_imp {X : Cx} {tg e : Expr} {t t' : TI} (h : PI X tg e t) (i : ∀ σ H Q, t' σ H Q → t σ H Q) : PI X tg e t' := ⟨fun pins s σ H Q I q => h.run pins s σ H Q I (i σ H Q q)⟩
theorem PG_imp {X : Cx} {tg : Expr} {t t' : TG} (h : PG X tg t) (i : ∀ v σ H Q, t' v σ H Q → t v σ H Q) : PG X tg t' := ⟨fun pins s σ H v u Q I r q => h.run pins s σ H v u Q I r (i v σ H Q q)⟩
abbrev PId (T : List Addr) (X : Cx) (tg e : Expr) (f : Sl → Option (List D)) : Prop := PI X tg e (tI X.prog X.w T f)
section
variable {T : List Addr} {X : Cx} {tg a b e c : Expr} {ga gb : Sl → Option D} {pos p : Pos}
theorem itok_list {P : Program} {w : World} {K : PySem.W.Frag} {S : Hp} {l : Addr} {vs : List V} {ds : List D} (e : S l = some (.lst vs)) (r : RpL P w S vs ds) : ItOk P w T (Itl K l) S ds := by
  refine ⟨fun i S' H' d k ss hd => ?_, fun i S' H' k ss hi => ⟨vs, SqL.of (k.sh _ _ (ss _ _ e)), by rw [r.length]; exact hi⟩⟩
  obtain ⟨v, e1, r1⟩ := r.get' hd
  refine ⟨⟨vs, v, SqL.of (k.sh _ _ (ss _ _ e)), e1⟩, fun x H2 y => ?_⟩
  obtain ⟨rfl, y⟩ := y
  have z := y vs (SqL.of (k.sh _ _ (ss _ _ e)))
  rw [e1] at z
  cases z
  exact ⟨S', k.refl, r1.mono ss⟩
theorem itok_tup {P : Program} {w : World} {K : PySem.W.Frag} {S : Hp} {l : Addr} {vs : List V} {ds : List D} (e : S l = some (.tup vs)) (r : RpL P w S vs ds) : ItOk P w T (Itt K l) S ds := by
  refine ⟨fun i S' H' d k ss hd => ?_, fun i S' H' k ss hi => ⟨vs, SqT.of (k.sh _ _ (ss _ _ e)), by rw [r.length]; exact hi⟩⟩
  obtain ⟨v, e1, r1⟩ := r.get' hd
  refine ⟨⟨vs, v, SqT.of (k.sh _ _ (ss _ _ e)), e1⟩, fun x H2 y => ?_⟩
  obtain ⟨rfl, y⟩ := y
  have z := y vs (SqT.of (k.sh _ _ (ss _ _ e)))
  rw [e1] at z
  cases z
  exact ⟨S', k.refl, r1.mono ss⟩
/-- over a list or a tuple -/
def iseq (a : Sl → Option D) : Sl → Option (List D) := fun δ => (a δ).bind seqOf
theorem pi_seq (ha : PD T X a ga) : PId T X tg a (iseq ga) := by
  refine ⟨fun pins s σ H R I h => ?_⟩
  obtain ⟨B, S, δ, ds, k, ed, q⟩ := h
  obtain ⟨d, e1, e2⟩ := Option.bind_eq_some_iff.mp ed
  refine thn (ha.run pins s σ H (fun v H1 => ∃ S1, Step T S H S1 H1 ∧ Rp X.prog X.w S1 v d) I ⟨B, S, δ, d, k, e1, fun v S1 H1 s1 r1 => ⟨S1, s1, r1⟩⟩) fun v s1 ⟨x, H1, I1, r1, S1, st1, rp⟩ => ?_
  cases rp with
  | @lst l vs ds' e r =>
    cases e2
    cases r1
    obtain ⟨its, rv, p, hz⟩ := I1.list (SqL.of (st1.sh _ _ e))
    refine wpAny_pyIter_list p.isList ?_
    refine ⟨s1.heap.objs.size, [s1.heap.objs.size], _, _, H1, rfl, I1.kept (t' := s1.toks) fun b o e => Heap.get?_push_of_some _ e, turn_list l _, ⟨_, Heap.get?_push_size _ rfl, rfl, rfl⟩, fun b hb => ?_, q _ S1 H1 st1 (itok_list e r)⟩
    have e : b = s1.heap.objs.size := by simpa using hb
    subst e
    exact I1.fpOk (Nat.le_refl _) (I1.hok.fresh (Nat.le_refl _))
  | @tup l vs ds' e r =>
    cases e2
    cases r1
    obtain ⟨its, rv, p, hz⟩ := I1.tuple (SqT.of (st1.sh _ _ e))
    refine wpAny_pyIter_tuple (show s1.heap.IsTuple l its.toArray from p) ?_
    refine ⟨s1.heap.objs.size, [s1.heap.objs.size], _, _, H1, rfl, I1.kept (t' := s1.toks) fun b o e => Heap.get?_push_of_some _ e, turn_tuple l _, ⟨_, Heap.get?_push_size _ rfl, rfl, rfl⟩, fun b hb => ?_, q _ S1 H1 st1 (itok_tup e r)⟩
    have e : b = s1.heap.objs.size := by simpa using hb
    subst e
    exact I1.fpOk (Nat.le_refl _) (I1.hok.fresh (Nat.le_refl _))
  | _ => cases e2
/-- a range -/
def rgL (lo : Int) (n : Nat) : List D := (List.range n).map fun i => .int (lo + (i : Nat))
theorem rgL_get {lo : Int} {n i : Nat} {d : D} (h : (rgL lo n)[i]? = some d) : i < n ∧ d = .int (lo + (i : Nat)) := by
  unfold rgL at h
  rw [List.getElem?_map] at h
  by_cases hi : i < n
  · rw [List.getElem?_range hi] at h
    cases h
    exact ⟨hi, rfl⟩
  · rw [List.getElem?_eq_none (by simpa using hi)] at h
    cases h
theorem rgL_len (lo : Int) (n : Nat) : (rgL lo n).length = n := by unfold rgL; simp
theorem itok_rng {P : Program} {w : World} {S : Hp} (lo : Int) (n : Nat) : ItOk P w T (Itr lo n) S (rgL lo n) := by
  refine ⟨fun i S' H' d k ss hd => ?_, fun i S' H' k ss hi => by rw [rgL_len] at hi; exact hi⟩
  obtain ⟨h1, rfl⟩ := rgL_get hd
  refine ⟨h1, fun x H2 y => ?_⟩
  obtain ⟨rfl, rfl⟩ := y
  exact ⟨S', k.refl, .int _⟩
def irg1 (a : Sl → Option D) : Sl → Option (List D) := fun δ => (a δ).bind fun d => match d with
  | .int j => if -1000000 < j ∧ j < 1000000 then some (rgL 0 j.toNat) else none
  | _ => none
def irg2 (a b : Sl → Option D) : Sl → Option (List D) := fun δ => (a δ).bind fun x => (b δ).bind fun y => match x, y with
  | .int i, .int j => if (-1000000 < i ∧ i < 1000000) ∧ -1000000 < j ∧ j < 1000000 then some (rgL i (j - i).toNat) else none
  | _, _ => none
theorem pi_rg1 (hg : Gl X "range") (hm : X.mg "range" = none) (ha : PD T X a ga) (hs : starEach [a] X.env = [(false, eval a X.env)] := by rfl) : PId T X tg (.Call (.Name "range" p) [a] [] pos) (irg1 ga) := by
  refine PI_imp (pi_range1 hg hm (pa_cons ha pa_nil hs) hs) fun σ H Q q => ?_
  obtain ⟨B, S, δ, ds, k, ed, q⟩ := q
  obtain ⟨x, e1, ed⟩ := Option.bind_eq_some_iff.mp ed
  refine ⟨B, S, δ, x, k, e1, fun v S' H' s r => ?_⟩
  cases r with
  | int j =>
    have ed : (if -1000000 < j ∧ j < 1000000 then some (rgL 0 j.toNat) else none) = some ds := ed
    split at ed
    · rename_i hz
      cases ed
      exact ⟨j, rfl, by omega, by omega, q _ S' H' s (itok_rng 0 _)⟩
    · cases ed
  | _ => cases ed
theorem pi_rg2 (hg : Gl X "range") (hm : X.mg "range" = none) (ha : PD T X a ga) (hb : PD T X b gb) (hs : starEach [a, b] X.env = [(false, eval a X.env), (false, eval b X.env)] := by rfl) (hs2 : starEach [b] X.env = [(false, eval b X.env)] := by rfl) :
    PId T X tg (.Call (.Name "range" p) [a, b] [] pos) (irg2 ga gb) := by
  refine PI_imp (pi_range2 hg hm (pa_cons ha (pa_cons hb pa_nil hs2) (by rw [hs, hs2])) hs hs2) fun σ H Q q => ?_
  obtain ⟨B, S, δ, ds, k, ed, q⟩ := q
  obtain ⟨x, e1, ed⟩ := Option.bind_eq_some_iff.mp ed
  obtain ⟨y, e2, ed⟩ := Option.bind_eq_some_iff.mp ed
  refine ⟨B, S, δ, x, k, e1, fun v S1 H1 s1 r1 => ⟨B, S1, δ, y, k.step s1, e2, fun v2 S2 H2 s2 r2 => ?_⟩⟩
  have s12 := Step.trans k.okk s1 s2
  cases r1 with
  | int i =>
    cases r2 with
    | int j =>
      have ed : (if (-1000000 < i ∧ i < 1000000) ∧ -1000000 < j ∧ j < 1000000 then some (rgL i (j - i).toNat) else none) = some ds := ed
      split at ed
      · rename_i hz
        cases ed
        exact ⟨i, j, rfl, ⟨by omega, by omega, by omega, by omega⟩, q _ S2 H2 s12 (itok_rng i _)⟩
      · cases ed
    | _ => cases ed
  | _ => cases ed
/-- enumerate(list) -/
def ienum (a : Sl → Option D) : Sl → Option (List D) := fun δ => (a δ).bind fun x => match x with
  | .list ds => some (ds.mapIdx fun i d => .tuple [.int (i : Nat), d])
  | _ => none
theorem pi_enumL {elts : List Expr} {kk : Nat} {tpos : Pos} (hg : Gl X "enumerate") (hm : X.mg "enumerate" = none) (ha : PD T X a ga) (hs : starEach [a] X.env = [(false, eval a X.env)] := by rfl) :
    PId T X (.Tuple elts kk tpos) (.Call (.Name "enumerate" p) [a] [] pos) (ienum ga) := by
  refine PI_imp (pi_enum hg hm (pa_cons ha pa_nil hs) hs) fun σ H Q q => ?_
  obtain ⟨B, S, δ, ds, k, ed, q⟩ := q
  obtain ⟨x, e1, ed⟩ := Option.bind_eq_some_iff.mp ed
  refine ⟨B, S, δ, x, k, e1, fun v S' H' s r => ?_⟩
  cases r with
  | @lst l vs es e r =>
    cases ed
    refine ⟨l, vs, rfl, SqL.of (s.sh _ _ e), q _ S' H' s ⟨fun i S2 H2 d k2 ss hd => ?_, fun i S2 H2 k2 ss hi => ?_⟩⟩
    · rw [List.getElem?_mapIdx] at hd
      obtain ⟨d0, hd0, rfl⟩ := Option.map_eq_some_iff.mp hd
      obtain ⟨v, ev, rv⟩ := r.get' hd0
      refine ⟨⟨vs, v, SqL.of (k2.sh _ _ (ss _ _ e)), ev⟩, fun x H3 y => ?_⟩
      obtain ⟨TT, x', rfl, nT, rfl, y⟩ := y
      have z := y vs (SqL.of (k2.sh _ _ (ss _ _ e)))
      rw [ev] at z
      cases z
      obtain ⟨s3, r3⟩ := k2.tup nT (.cons (.int (i : Nat)) (.cons (rv.mono ss) .nil))
      exact ⟨_, s3, r3⟩
    · refine ⟨vs, SqL.of (k2.sh _ _ (ss _ _ e)), ?_⟩
      rw [List.length_mapIdx] at hi
      rw [r.length]; exact hi
  | _ => cases ed

/-! ### targets -/
abbrev Tg := D → Sl → Option Sl
def tG (P : Program) (w : World) (T : List Addr) (is : List Nat) (t : Tg) : TG := fun v σ H Q => ∃ (B : Hp × Hp) (S : Hp) (δ : Sl) (d : D) (δ' : Sl), SOk P w T B S σ H δ ∧ Rp P w S v d ∧ t d δ = some δ' ∧
  ∀ σ', SOk P w T B S σ' H δ' → (∀ vs : List Nat, (∀ i ∈ is, i ∈ vs) → wipe σ' vs = wipe σ vs) → Q σ' H
abbrev PGd (T : List Addr) (X : Cx) (tg : Expr) (is : List Nat) (t : Tg) : Prop := PG X tg (tG X.prog X.w T is t)
def tg1 (i : Nat) : Tg := fun d δ => some (δ.set i (some (.sh d)))
def tg2 (i j : Nat) : Tg := fun d δ => match d with
  | .tuple [x, y] => some ((δ.set i (some (.sh x))).set j (some (.sh y)))
  | _ => none
theorem wipe_set {σ : L2.St} {i : Nat} {v : Option V} : ∀ {vs : List Nat}, i ∈ vs → wipe (σ.set i v) vs = wipe σ vs
  | [], h => by cases h
  | j :: vs, h => by
    unfold wipe
    by_cases z : j = i
    · subst z
      by_cases h2 : j ∈ vs
      · rw [wipe_set h2]
      · have e : ∀ vs : List Nat, j ∉ vs → wipe (σ.set j v) vs = (wipe σ vs).set j v := fun vs => by
          induction vs with
          | nil => intro _; rfl
          | cons k ks ih =>
            intro hk
            rw [List.mem_cons, not_or] at hk
            unfold wipe
            rw [ih hk.2, List.set_comm _ _ hk.1]
        rw [e vs h2, List.set_set]
    · rw [wipe_set ((List.mem_cons.mp h).resolve_left (fun q => z q.symm))]
theorem pgd_1 {i : Nat} {x : Str} (hN : X.N.Nodup) (hi : X.N[i]? = some x) (hx : Loc X.env.scope x) (hf : X.fn x = true ∨ X.env.scope.names.lookup x = some .local := by first | exact .inl rfl | exact .inr rfl | assumption) : PGd T X (.Name x pos) [i] (tg1 i) := by
  refine PG_imp (pg_name hN hi hx hf) fun v σ H Q q => ?_
  obtain ⟨B, S, δ, d, δ', k, r, e, q⟩ := q
  cases e
  exact q _ (k.setS i r) fun vs h => wipe_set (h i (List.mem_cons_self ..))
theorem pgd_2 {i j : Nat} {x y : Str} {cx : Nat} {p1 p2 : Pos} (hc : X.calm = true) (hN : X.N.Nodup) (hi : X.N[i]? = some x) (hj : X.N[j]? = some y) (hx : Loc X.env.scope x) (hy : Loc X.env.scope y)
    (hf : X.fn x = true ∨ X.env.scope.names.lookup x = some .local := by first | exact .inl rfl | exact .inr rfl | assumption) (hf2 : X.fn y = true ∨ X.env.scope.names.lookup y = some .local := by first | exact .inl rfl | exact .inr rfl | assumption) :
    PGd T X (.Tuple [.Name x p1, .Name y p2] cx pos) [i, j] (tg2 i j) := by
  refine PG_imp (pg_tup (n := 2) hc (pgs_cons (pg_name hN hi hx hf) (pgs_cons (pg_name hN hj hy hf2) pgs_nil))) fun v σ H Q q => ?_
  obtain ⟨B, S, δ, d, δ', k, r, e, q⟩ := q
  unfold tg2 at e
  split at e
  · rename_i dx dy
    cases e
    cases r with
    | @tup l vs ds e r =>
      cases r with
      | @cons v1 vs1 _ _ r1 r2 =>
        cases r2 with
        | @cons v2 vs2 _ _ r2 r3 =>
          cases r3
          refine ⟨l, _, rfl, SqT.of (k.okk.sh _ _ e), rfl, v1, _, rfl, v2, _, rfl, rfl, ?_⟩
          exact q _ ((k.setS i r1).setS j r2) fun vs h => by rw [wipe_set (h j (by simp)), wipe_set (h i (by simp))]
  · cases e

/-! ### for -/
def forL (t : Tg) (b : Sl → Option Out) : List D → Sl → Option Out
  | [], δ => some (.nx δ)
  | d :: ds, δ => (t d δ).bind fun δ1 => (b δ1).bind fun
    | .nx δ2 => forL t b ds δ2
    | .rt d => some (.rt d)
    | .rf sd => some (.rf sd)
def sfor (f : Sl → Option (List D)) (t : Tg) (b : Sl → Option Out) : Sl → Option Out := fun δ => (f δ).bind fun ds => forL t b ds δ
variable {body : List Stmt} {f : Sl → Option (List D)} {t : Tg} {is : List Nat} {bd : Sl → Option Out}
theorem psd_for (hp : PassesOwn (model X.prog X.w) X.A X.env X.xe) (hc : X.calm = true) (hi : PId T X tg e f) (hg : PGd T X tg is t) (hb : PSsd T X body bd)
    (hs : ∀ x, foldedSetIterable e X.env x = pure x := by intro _; rfl) : PSd T X (.For tg e body [] pos) (sfor f t bd) := by
  refine PS_imp (ps_for hp hc hi hg hb hs) fun D σ H q => ?_
  obtain ⟨B, S, δ, o, k, e, q⟩ := q
  obtain ⟨ds, e1, e2⟩ := Option.bind_eq_some_iff.mp e
  refine ⟨B, S, δ, ds, k, e1, fun J S1 H1 s1 ok => ?_⟩
  refine ⟨fun i m σ H => m = ds.length - i ∧ i ≤ ds.length ∧ ∃ S2 δ2, SOk X.prog X.w T B S2 σ H δ2 ∧ Same S1 S2 ∧ forL t bd (ds.drop i) δ2 = some o, ⟨ds.length, by simp, Nat.zero_le _, S1, δ, k.step s1, Same.refl _, e2⟩, ?_⟩
  rintro i m σ2 H2 ⟨rfl, hi, S2, δ2, k2, ss2, e3⟩
  by_cases hlt : i < ds.length
  · refine .inr ?_
    have hd : ds[i]? = some ds[i] := by simp [hlt]
    obtain ⟨g1, g2⟩ := ok.go i S2 H2 ds[i] k2.okk ss2 hd
    rw [List.drop_eq_getElem_cons hlt] at e3
    obtain ⟨δ3, e4, e5⟩ := Option.bind_eq_some_iff.mp (show ((t ds[i] δ2).bind fun δ1 => (bd δ1).bind fun
      | .nx δ2 => forL t bd (ds.drop (i + 1)) δ2
      | .rt d => some (.rt d)
      | .rf sd => some (.rf sd)) = some o from e3)
    obtain ⟨o1, e6, e7⟩ := Option.bind_eq_some_iff.mp e5
    refine ⟨g1, fun σ' H' => ∃ S2 δ2, SOk X.prog X.w T B S2 σ' H' δ2 ∧ Same S1 S2 ∧ forL t bd (ds.drop (i + 1)) δ2 = some o, fun σ' H' p => ⟨ds.length - (i + 1), by omega, rfl, hlt, p⟩, fun x H3 y => ?_⟩
    obtain ⟨S3, s3, r3⟩ := g2 x H3 y
    refine ⟨B, S3, δ2, ds[i], δ3, k2.step s3, r3, e4, fun σ4 k4 _ => ⟨B, S3, δ3, o1, k4, e6, ?_⟩⟩
    have ss3 : Same S S3 := s1.ss.trans (ss2.trans s3.ss)
    cases o1 with
    | nx δ5 => exact fun S5 σ5 H5 k5 ss5 => ⟨S5, δ5, k5, (ss2.trans s3.ss).trans ss5, e7⟩
    | rt d => cases e7; exact q.mono ss3
    | rf d => cases e7; exact q.mono ss3
  · have ei : i = ds.length := by omega
    subst ei
    refine .inl ⟨ok.stop _ S2 H2 k2.okk ss2 (Nat.le_refl _), ?_⟩
    rw [List.drop_length] at e3
    cases e3
    exact q S2 σ2 H2 k2 (s1.ss.trans ss2)

/-! ### while -/
def whL (c : Sl → Option Bool) (b : Sl → Option Out) : Nat → Sl → Option Out
  | 0, _ => none
  | n + 1, δ => (c δ).bind fun x => if x = true then (b δ).bind fun
      | .nx δ2 => whL c b n δ2
      | .rt d => some (.rt d)
      | .rf sd => some (.rf sd)
    else some (.nx δ)
def swh (n : Nat) (c : Sl → Option Bool) (b : Sl → Option Out) : Sl → Option Out := fun δ => whL c b n δ
variable {fc : Sl → Option Bool}
theorem psd_while (n : Nat) (hp : PassesOwn (model X.prog X.w) X.A X.env X.xe) (hc : PTd T X c fc) (hb : PSsd T X body bd) : PSd T X (.While c body [] pos) (swh n fc bd) := by
  refine PS_imp (ps_while hp hc hb) fun D σ H q => ?_
  obtain ⟨B, S, δ, o, k, e, q⟩ := q
  refine ⟨fun m σ H => ∃ S2 δ2, SOk X.prog X.w T B S2 σ H δ2 ∧ Same S S2 ∧ whL fc bd m δ2 = some o, ⟨n, S, δ, k, Same.refl _, e⟩, ?_⟩
  rintro m σ2 H2 ⟨S2, δ2, k2, ss2, e3⟩
  cases m with
  | zero => cases e3
  | succ m =>
    obtain ⟨x, e4, e5⟩ := Option.bind_eq_some_iff.mp (show ((fc δ2).bind fun x => if x = true then (bd δ2).bind fun
      | .nx δ2 => whL fc bd m δ2
      | .rt d => some (.rt d)
      | .rf sd => some (.rf sd)
      else some (.nx δ2)) = some o from e3)
    refine ⟨B, S2, δ2, x, k2, e4, fun S3 H3 s3 => ?_⟩
    cases x with
    | false =>
      cases e5
      exact q S3 σ2 H3 (k2.step s3) (ss2.trans s3.ss)
    | true =>
      obtain ⟨o1, e6, e7⟩ := Option.bind_eq_some_iff.mp (show ((bd δ2).bind fun
      | .nx δ2 => whL fc bd m δ2
      | .rt d => some (.rt d)
      | .rf sd => some (.rf sd)) = some o from e5)
      refine ⟨fun σ' H' => ∃ S2 δ2, SOk X.prog X.w T B S2 σ' H' δ2 ∧ Same S S2 ∧ whL fc bd m δ2 = some o, fun σ' H' p => ⟨m, Nat.lt_succ_self _, p⟩, B, S3, δ2, o1, k2.step s3, e6, ?_⟩
      cases o1 with
      | nx δ5 => exact fun S5 σ5 H5 k5 ss5 => ⟨S5, δ5, k5, (ss2.trans s3.ss).trans ss5, e7⟩
      | rt d => cases e7; exact q.mono (ss2.trans s3.ss)
      | rf d => cases e7; exact q.mono (ss2.trans s3.ss)

/-! ### list comprehensions -/
def lcL (t : Tg) (c : Sl → Option Bool) (a : Sl → Option D) : List D → Sl → Option (List D)
  | [], _ => some []
  | d :: ds, δ => (t d δ).bind fun δ1 => (c δ1).bind fun x => if x = true then (a δ1).bind fun y => (lcL t c a ds δ).map fun ys => y :: ys else lcL t c a ds δ
def wipeD (δ : Sl) : List Nat → Sl
  | [] => δ
  | v :: vs => (wipeD δ vs).set v none
def flc (vs : List Nat) (f : Sl → Option (List D)) (t : Tg) (c : Sl → Option Bool) (a : Sl → Option D) : Sl → Option SD := fun δ => (f δ).bind fun ds => if ds.length ≤ 1000000 then (lcL t c a ds (wipeD δ vs)).map .owl else none
theorem wipeD_len (δ : Sl) : ∀ vs, (wipeD δ vs).length = δ.length
  | [] => rfl
  | v :: vs => by unfold wipeD; rw [List.length_set, wipeD_len δ vs]
theorem wipe_get {σ : L2.St} {i : Nat} : ∀ {vs : List Nat}, i ∉ vs → (wipe σ vs)[i]? = σ[i]?
  | [], _ => rfl
  | v :: vs, h => by
    rw [List.mem_cons, not_or] at h
    unfold wipe
    rw [List.getElem?_set_ne (Ne.symm h.1), wipe_get h.2]
theorem wipe_sub {σ : L2.St} {us : List Nat} : ∀ vs : List Nat, (∀ i ∈ vs, i ∈ us) → wipe (wipe σ us) vs = wipe σ us
  | [], _ => rfl
  | v :: vr, h => by
    show (wipe (wipe σ us) vr).set v none = _
    rw [wipe_sub vr (fun i hi => h i (List.mem_cons_of_mem _ hi))]
    have hv := h v (List.mem_cons_self ..)
    apply List.ext_getElem?
    intro j
    by_cases z : v = j
    · subst z
      by_cases hv2 : v < (wipe σ us).length
      · rw [List.getElem?_set_self hv2]
        cases q : (wipe σ us)[v]? with
        | none => rw [List.getElem?_eq_none_iff] at q; omega
        | some o =>
          cases o with
          | none => rfl
          | some u => exact absurd hv (wipe_some q).2
      · rw [List.getElem?_eq_none (by simpa using hv2), List.getElem?_eq_none (by simpa using hv2)]
    · rw [List.getElem?_set_ne z]
theorem wipeD_some {δ : Sl} {i : Nat} {x : SD} : ∀ {vs : List Nat}, (wipeD δ vs)[i]? = some (some x) → δ[i]? = some (some x) ∧ i ∉ vs
  | [], h => ⟨h, by simp⟩
  | v :: vs, h => by
    unfold wipeD at h
    by_cases hi : v = i
    · subst hi
      by_cases hv : v < (wipeD δ vs).length
      · rw [List.getElem?_set_self hv] at h; cases h
      · rw [List.getElem?_eq_none (by simpa using hv)] at h; cases h
    · rw [List.getElem?_set_ne hi] at h
      obtain ⟨h1, h2⟩ := wipeD_some h
      exact ⟨h1, by simp only [List.mem_cons, not_or]; exact ⟨fun e => hi e.symm, h2⟩⟩
theorem SOk.wiped {P : Program} {w : World} {B : Hp × Hp} {S H : Hp} {σ : L2.St} {δ : Sl} (h : SOk P w T B S σ H δ) (vs : List Nat) : SOk P w T B S (wipe σ vs) H (wipeD δ vs) := by
  refine h.forget (by rw [wipe_length, wipeD_len]; exact h.len) fun i sd e => ?_
  obtain ⟨h1, h2⟩ := wipeD_some e
  exact ⟨h1, wipe_get h2⟩
theorem lcL_len {t : Tg} {c : Sl → Option Bool} {a : Sl → Option D} : ∀ {ds ys : List D} {δ : Sl}, lcL t c a ds δ = some ys → ys.length ≤ ds.length
  | [], _, _, h => by cases h; exact Nat.le_refl _
  | d :: ds, ys, δ, h => by
    obtain ⟨δ1, _, h⟩ := Option.bind_eq_some_iff.mp (show ((t d δ).bind fun δ1 => (c δ1).bind fun x => if x = true then (a δ1).bind fun y => (lcL t c a ds δ).map fun ys => y :: ys else lcL t c a ds δ) = some ys from h)
    obtain ⟨x, _, h⟩ := Option.bind_eq_some_iff.mp h
    cases x with
    | true =>
      obtain ⟨y, _, h⟩ := Option.bind_eq_some_iff.mp (show ((a δ1).bind fun y => (lcL t c a ds δ).map fun ys => y :: ys) = some ys from h)
      obtain ⟨zs, e, rfl⟩ := Option.map_eq_some_iff.mp h
      rw [List.length_cons, List.length_cons]
      exact Nat.succ_le_succ (lcL_len e)
    | false =>
      have := lcL_len (show lcL t c a ds δ = some ys from h)
      rw [List.length_cons]; omega
theorem tlc_of {J : It} {P : Program} {w : World} {vs : List Nat} {B : Hp × Hp} {S S1 H H1 : Hp} {σ : L2.St} {δ : Sl} {ds ys : List D} {a : Sl → Option D} {Q : VK} {tt : TT} (ht : ∀ σ H (Q : Bool → Hp → Prop), tDT P w T fc σ H Q → tt σ H Q)
    (k : SOk P w T B S σ H δ) (s1 : Step T S H S1 H1) (ok : ItOk P w T J S1 ds) (hv : ∀ i ∈ is, i ∈ vs) (hl : ds.length ≤ 1000000) (e : lcL t fc a ds (wipeD δ vs) = some ys)
    (q : ∀ b o S' H', Step T S H S' H' → H b = none → S' b = none → H' b = some o → OwR P w S' b (.owl ys) o → Q (.ref b) H') :
    ∀ L, H1 L = none → ∃ W : Nat → Nat → Hp → Prop, (∃ m, W 0 m (upd H1 L (.lst []))) ∧ ∀ i m H, W i m H →
      (J.stop i H ∧ Q (.ref L) H) ∨ (J.go i H ∧ ∃ Nx : Hp → Prop, (∀ H', Nx H' → ∃ m', m' < m ∧ W (i + 1) m' H') ∧ ∀ x H', J.yld i H x H' → tG P w T is t x (wipe σ vs) H' fun σ2 H2 => wipe σ2 vs = wipe σ vs ∧ tt σ2 H2 fun b H3 =>
        if b = true then tD P w T a σ2 H3 fun y H4 => ∃ acc, H4 L = some (.lst acc) ∧ acc.length < sizeLine ∧ Nx (upd H4 L (.lst (acc ++ [y]))) else Nx H3) := by
  intro L nL
  have k1 := k.okk.step s1
  have nS1 : S1 L = none := k1.sh.free nL
  have nH : H L = none := by
    cases z : H L with
    | none => rfl
    | some u => exact absurd nL (s1.dom k.okk (by rw [z]; simp))
  -- the state of the turn
  let PV : Nat → Hp → Prop := fun i H2 => ∃ S2 acc done rest, Step T S1 H1 S2 H2 ∧ S2 L = none ∧ H2 L = some (.lst acc) ∧ RpL P w S2 acc done ∧ lcL t fc a (ds.drop i) (wipeD δ vs) = some rest ∧ ys = done ++ rest ∧ done.length ≤ i
  have p0 : PV 0 (upd H1 L (.lst [])) := ⟨S1, [], [], ys, k1.newO nL, nS1, upd_same, .nil, e, rfl, Nat.le_refl _⟩
  refine ⟨fun i m H2 => m = ds.length - i ∧ i ≤ ds.length ∧ PV i H2, ⟨ds.length, by simp, Nat.zero_le _, p0⟩, ?_⟩
  rintro i m H2 ⟨rfl, hi, S2, acc, done, rest, s2, nS2, eL, r, er, ey, hd⟩
  have s12 := Step.trans k.okk s1 s2
  by_cases hlt : i < ds.length
  · refine .inr ?_
    have hdi : ds[i]? = some ds[i] := by simp [hlt]
    obtain ⟨g1, g2⟩ := ok.go i S2 H2 ds[i] (k1.step s2) s2.ss hdi
    rw [List.drop_eq_getElem_cons hlt] at er
    obtain ⟨δ3, e4, e5⟩ := Option.bind_eq_some_iff.mp (show ((t ds[i] (wipeD δ vs)).bind fun δ1 => (fc δ1).bind fun x => if x = true then (a δ1).bind fun y => (lcL t fc a (ds.drop (i + 1)) (wipeD δ vs)).map fun ys => y :: ys else lcL t fc a (ds.drop (i + 1)) (wipeD δ vs)) = some rest from er)
    obtain ⟨b, e6, e7⟩ := Option.bind_eq_some_iff.mp e5
    refine ⟨g1, PV (i + 1), fun H' p => ⟨ds.length - (i + 1), by omega, rfl, hlt, p⟩, fun x H3 y => ?_⟩
    obtain ⟨S3, s3, r3⟩ := g2 x H3 y
    have kw : SOk P w T B S3 (wipe σ vs) H3 (wipeD δ vs) := ((k.step s12).step s3).wiped vs
    refine ⟨B, S3, wipeD δ vs, ds[i], δ3, kw, r3, e4, fun σ4 k4 hw => ⟨?_, ht _ _ _ ⟨B, S3, δ3, b, k4, e6, fun S5 H5 s5 => ?_⟩⟩⟩
    · rw [hw vs hv]
      exact wipe_sub vs fun i hi => hi
    · have s35 : Step T S1 H1 S5 H5 := Step.trans k1 s2 (Step.trans (k1.step s2) s3 s5)
      have s25 : Step T S2 H2 S5 H5 := Step.trans (k1.step s2) s3 s5
      have nLT : L ∉ T := (k1.step s2).nT eL (fun ps z => by cases z)
      cases b with
      | true =>
        obtain ⟨yv, e8, e9⟩ := Option.bind_eq_some_iff.mp (show ((a δ3).bind fun y => (lcL t fc a (ds.drop (i + 1)) (wipeD δ vs)).map fun ys => y :: ys) = some rest from e7)
        obtain ⟨rest', e10, e11⟩ := Option.map_eq_some_iff.mp e9
        show tD P w T a σ4 H5 _
        refine ⟨B, S5, δ3, yv, k4.step s5, e8, fun v6 S6 H6 s6 r6 => ?_⟩
        have s26 : Step T S2 H2 S6 H6 := Step.trans (k1.step s2) s25 s6
        have eL6 : H6 L = some (.lst acc) := s26.keep L _ eL nLT
        have nS6 : S6 L = none := by rw [s26.only L (by rw [eL]; simp)]; exact nS2
        have s16 : Step T S1 H1 S6 H6 := Step.trans k1 s2 s26
        refine ⟨acc, eL6, by rw [r.length]; exact line_big (by omega), S6, acc ++ [v6], done ++ [yv], rest', ?_, nS6, upd_same, (r.mono s26.ss).append (.cons r6 .nil), e10, by rw [ey, ← e11]; simp, by simp; omega⟩
        refine ⟨s16.ss, fun b u z => ?_, fun b u z n => ?_, s16.only, fun p hp => ?_⟩
        · rw [upd_ne (ne_of_none z nS6)]; exact s16.sh b u z
        · rw [upd_ne (ne_of_none z nL)]; exact s16.keep b u z n
        · have hb : p ≠ L := fun z => nLT (z ▸ hp)
          rw [upd_ne hb]; exact s16.tb p hp
      | false =>
        show PV (i + 1) H5
        exact ⟨S5, acc, done, rest, s35, by rw [s25.only L (by rw [eL]; simp)]; exact nS2, s25.keep L _ eL nLT, r.mono s25.ss, e7, ey, by omega⟩
  · have ei : i = ds.length := by omega
    subst ei
    refine .inl ⟨ok.stop _ S2 H2 (k1.step s2) s2.ss (Nat.le_refl _), ?_⟩
    rw [List.drop_length] at er
    cases er
    rw [List.append_nil] at ey
    subst ey
    exact q L _ S2 H2 s12 nH nS2 eL (.owl r)
variable {elt : Expr} {ifs : List Expr} {scope : Scope} {own : List (Str × Nat)}
abbrev PTsd (T : List Addr) (X : Cx) (ifs : List Expr) (f : Sl → Option Bool) : Prop := PTs X ifs (tDT X.prog X.w T f)
theorem PTs_imp {X : Cx} {e : List Expr} {t t' : TT} (h : PTs X e t) (i : ∀ σ H Q, t' σ H Q → t σ H Q) : PTs X e t' := ⟨fun pins s σ H Q I q => h.run pins s σ H Q I (i σ H Q q)⟩
def tyes : Sl → Option Bool := fun _ => some true
theorem ptsd_nil : PTsd T X [] tyes := by
  refine PTs_imp pts_nil fun σ H Q q => ?_
  obtain ⟨B, S, δ, d, k, e, q⟩ := q
  cases e
  exact q S H k.okk.refl
theorem ptsd_one (h : PTd T X c fc) : PTsd T X [c] fc := pts_one h
theorem pf_lc (hc : X.calm = true) (hN : X.N.Nodup) (hi : PId T X tg e f) (ok : BlkOk X.N X.env.scope scope own)
    (hg : ∀ (s : Shared) (H : Hp) (C : Addr) (cl : List (Str × Addr)) (fp : List Addr), PGd T (X.blk s H scope (compEnvC scope cl C X.env) fp) tg is t) (ht : ∀ (s : Shared) (H : Hp) (C : Addr) (cl : List (Str × Addr)) (fp : List Addr), PTsd T (X.blk s H scope (compEnvC scope cl C X.env) fp) ifs fc)
    (he : ∀ (s : Shared) (H : Hp) (C : Addr) (cl : List (Str × Addr)) (fp : List Addr), PD T (X.blk s H scope (compEnvC scope cl C X.env) fp) elt ga) (hv : ∀ i ∈ is, i ∈ own.map (·.2) := by decide) (hs : ∀ x, foldedSetIterable e X.env x = pure x := by intro _; rfl) :
    PF T X (.ListComp elt [⟨tg, e, ifs, 0⟩] scope pos) (flc (own.map (·.2)) f t fc ga) := by
  refine PE_imp (pe_lc (g := tG X.prog X.w T is t) (tt := tDT X.prog X.w T fc) (te := tD X.prog X.w T ga) hc hN hi ok hg ht he hs) fun σ H Q q => ?_
  obtain ⟨B, S, δ, sd, k, e, q⟩ := q
  obtain ⟨ds, e1, e2⟩ := Option.bind_eq_some_iff.mp e
  split at e2
  · rename_i hl
    obtain ⟨ys, e3, rfl⟩ := Option.map_eq_some_iff.mp e2
    exact ⟨B, S, δ, ds, k, e1, fun J S1 H1 s1 ok => tlc_of (fun _ _ _ q => q) k s1 ok hv hl e3 q⟩
  · cases e2
/-- as a value -/
def dlc (vs : List Nat) (f : Sl → Option (List D)) (t : Tg) (c : Sl → Option Bool) (a : Sl → Option D) : Sl → Option D := fun δ => (f δ).bind fun ds => if ds.length ≤ 1000000 then (lcL t c a ds (wipeD δ vs)).map .list else none
theorem pd_flc {vs : List Nat} (h : PF T X e (flc vs f t fc ga)) : PD T X e (dlc vs f t fc ga) := by
  refine PE_imp (pd_of_pf h) fun σ H Q q => ?_
  obtain ⟨B, S, δ, d, k, e, q⟩ := q
  refine ⟨B, S, δ, d, k, ?_, q⟩
  obtain ⟨ds, e1, e2⟩ := Option.bind_eq_some_iff.mp e
  show (flc vs f t fc ga δ).map SD.val = some d
  unfold flc
  rw [e1]
  show ((if ds.length ≤ 1000000 then (lcL t fc ga ds (wipeD δ vs)).map SD.owl else none).map SD.val) = some d
  split at e2
  · rename_i hl
    rw [if_pos hl]
    obtain ⟨ys, e3, rfl⟩ := Option.map_eq_some_iff.mp e2
    rw [e3]; rfl
  · cases e2
/-- name = [..] on one line -/
theorem psd_setLc {i : Nat} {y : Str} {py spos : Pos} (hc : X.calm = true) (hN : X.N.Nodup) (hy : X.N[i]? = some y) (hyl : X.env.scope.names.lookup y = some .local)
    (hsw : swapsWith (.ListComp elt [⟨tg, e, ifs, 0⟩] scope pos) (some (.Name y py)) spos.line X.env = pure true) (hi : PId T X tg e f) (ok : BlkOk X.N X.env.scope scope own)
    (hg : ∀ (s : Shared) (H : Hp) (C : Addr) (cl : List (Str × Addr)) (fp : List Addr), PGd T (X.blk s H scope (compEnvC scope cl C X.env) fp) tg is t) (ht : ∀ (s : Shared) (H : Hp) (C : Addr) (cl : List (Str × Addr)) (fp : List Addr), PTsd T (X.blk s H scope (compEnvC scope cl C X.env) fp) ifs fc)
    (he : ∀ (s : Shared) (H : Hp) (C : Addr) (cl : List (Str × Addr)) (fp : List Addr), PD T (X.blk s H scope (compEnvC scope cl C X.env) fp) elt ga) (hv : ∀ i ∈ is, i ∈ own.map (·.2) := by decide) (hs : ∀ x, foldedSetIterable e X.env x = pure x := by intro _; rfl) :
    PSd T X (.Assign [.Name y py] (.ListComp elt [⟨tg, e, ifs, 0⟩] scope pos) spos) (sset i (dlc (own.map (·.2)) f t fc ga)) := by
  refine PS_imp (ps_setLc (g := tG X.prog X.w T is t) (tt := tDT X.prog X.w T fc) (te := tD X.prog X.w T ga) hc hN hy hyl hsw hi ok hg ht he hs) fun D σ H q => ?_
  obtain ⟨B, S, δ, o, k, e, q⟩ := q
  obtain ⟨d, e1, rfl⟩ := Option.map_eq_some_iff.mp e
  obtain ⟨ds, e2, e3⟩ := Option.bind_eq_some_iff.mp e1
  split at e3
  · rename_i hl
    obtain ⟨ys, e4, rfl⟩ := Option.map_eq_some_iff.mp e3
    refine ⟨B, S, δ, ds, k, e2, fun J S1 H1 s1 ok => tlc_of (Q := fun x H1 => gName i x σ H1 D.nx) (fun _ _ _ q => q) k s1 ok hv hl e4 fun b o S' H' s nb nS ea r => ?_⟩
    obtain ⟨k', ss⟩ := (k.okk.step s).share ea nS r.noT
    have s2 : Step T S H (upd S' b o) H' := ⟨s.ss.trans ss, k'.sh, s.keep, fun c hc => by
      have hc' : c ≠ b := fun z => hc (z ▸ nb)
      rw [upd_ne hc']; exact s.only c hc, s.tb⟩
    exact q _ _ H' ((k.step s2).setS i ((r.mono ss).rp upd_same)) s2.ss
  · cases e3
end
end Gd

set_option maxHeartbeats 2000000
/-! GdJ: generator expressions whose elements may call defs. -/
namespace Gd
open PySem PySem.Spec PyProof.Rows L2 GenW
theorem inv_move {X : Cx} {pins : List (Addr × Obj)} {σ : L2.St} {H : Hp} {s s' : Shared} (I : Inv X pins σ H s) (os : s'.os = s.os) (hk : ∀ b o, s.heap.get? b = some o → s'.heap.get? b = some o) (hb : AllBare s'.gens) : Inv X pins σ H s' :=
  I.call' (ch := []) os (Un.kept hk) (I.hok.kept hk) hb fun b z => by simp at z
/-- the context of a generator expression's frame -/
abbrev gxCx (X : Cx) (s : Shared) (H : Hp) (A : Around) (cenv : Env) (fp : List Addr) (pn : List (Addr × Obj)) : Cx :=
  { X with A := A.deeper cenv, s_0 := s, H_0 := H, env := cenv, outer := X.stack, stack := cenv :: X.stack, ex := fp, fn := fun _ => false, pn := pn, xe := fun _ _ => False }
abbrev gxEnv (X : Cx) (scope : Scope) (C : Addr) (code : Value) : Env := genEnv scope (cloFrom X.env.cells scope.names []) C code builtinsNs X.env
section
variable {X : Cx} {pins : List (Addr × Obj)} {σ : L2.St} {H : Hp} {s : Shared}
theorem gen_start {scope : Scope} {own : List (Str × Nat)} {fp : List Addr} {A : Around} {code : Value} {it : Value} {h' : Heap} {go : Obj} {gs : Array GenState} {tk : Nat} (I : Inv X pins σ H s) (ok : BlkOk X.N X.env.scope scope own) (hcell : ∀ y ∈ scope.names, y.2 ≠ .cell) (hN : X.N.Nodup)
    (hfp : ∀ b ∈ fp, FpOk X pins H b ∧ b < s.heap.objs.size) (hd : A.handled = none) (hfr : A.frames = some X.stack)
    (hn : h'.Ns s.heap.objs.size (fun y => if y = ".0" then some it else none)) (hs : Heap.SameBut s.heap.objs.size (s.heap.push { cls := .type "frame", data := .dict #[] }) h')
    (hgd : ∀ v, go.data ≠ .cell v) (hgo : (h'.push go).get? h'.objs.size = some go) (hgs : AllBare gs) :
    Inv (gxCx X s H A (gxEnv X scope s.heap.objs.size code) fp [(h'.objs.size, go)]) [] (wipe σ (own.map (·.2))) H { s with gens := gs, toks := tk, heap := h'.push go } := by
  have hfree : ∀ y ∈ scope.names, y.2 = .free → ∃ c, X.env.cells.lookup y.1 = some c := fun y hy e => by
    rcases ok.free y hy e with k | k
    · exact I.ok.has _ (.inl k)
    · exact I.ok.has _ (.inr k)
  generalize hcenv : gxEnv X scope s.heap.objs.size code = cenv
  have hsz : h'.objs.size = s.heap.objs.size + 1 := by rw [hs.1, Heap.size_push]
  have kp : ∀ b o, s.heap.get? b = some o → (h'.push go).get? b = some o := fun b o e => Heap.get?_push_of_some _ (hs.extBut b o (Nat.ne_of_lt (Heap.lt_size e)) (Heap.get?_push_of_some _ e))
  have hL : cenv.locals = s.heap.objs.size := by rw [← hcenv]; rfl
  have hcl : cenv.cells = cloFrom X.env.cells scope.names [] := by rw [← hcenv]; rfl
  have hsc : cenv.scope = scope := by rw [← hcenv]; rfl
  have cm : ∀ {y c}, (y, c) ∈ cloFrom X.env.cells scope.names [] → X.env.cells.lookup y = some c ∧ c < s.heap.objs.size := fun {y c} hm => by
    rcases cloFrom_mem hm with hm | ⟨h1, rfl⟩
    · cases hm
    · obtain ⟨c, hc⟩ := hfree _ h1 rfl
      rw [hc]
      obtain ⟨w, z⟩ := I.cell _ _ hc
      exact ⟨rfl, z.lt⟩
  have mem : ∀ {y c}, cenv.cells.lookup y = some c → X.env.cells.lookup y = some c ∧ c < s.heap.objs.size := fun {y c} e => by
    rw [hcl] at e
    exact cm (PySem.mem_of_lookup e)
  have look : ∀ {y}, scope.names.lookup y = some .free → ∃ c, cenv.cells.lookup y = some c ∧ X.env.cells.lookup y = some c := fun {y} hl => by
    have hy : (y, NameKind.free) ∈ scope.names := PySem.mem_of_lookup hl
    obtain ⟨c', e'⟩ := mem_lookup (cloFrom_has (cells := X.env.cells) (acc := []) hy)
    rw [← hcl] at e'
    exact ⟨c', e', (mem e').1⟩
  have okB : (gxCx X s H A cenv fp [(h'.objs.size, go)]).Ok := by
    refine ⟨I.ok.mod, by show cenv.scope.kind = _; rw [hsc]; exact ok.kind, by show cenv.globals = _; rw [← hcenv]; exact I.ok.glob, by show cenv.builtins = _; rw [← hcenv]; rfl, by show s.heap.objs.size ≤ cenv.locals; rw [hL]; exact Nat.le_refl _,
      fun y z c e1 e2 => I.ok.inj y z c (mem e1).1 (mem e2).1, fun y hy => ?_, fun y c z e => (by cases z), fun _ => hd, ?_, .inr ⟨rfl, by show cenv.frame = some cenv.locals; rw [hL, ← hcenv]; rfl⟩, fun b hb => ⟨?_, fun y c e z => ?_⟩, I.bs, Nat.le_trans I.ok.bsz I.sz, fun b o e hb => ?_, fun b hb z => ?_, I.stack, I.stkFree⟩
    · show ∃ c, cenv.cells.lookup y = some c
      rcases hy with hy | hy
      · have hy : cenv.scope.names.lookup y = some .cell := hy
        rw [hsc] at hy
        exact absurd rfl (hcell _ (PySem.mem_of_lookup hy))
      · have hy : cenv.scope.names.lookup y = some .free := hy
        rw [hsc] at hy
        obtain ⟨c, h1, _⟩ := look hy
        exact ⟨c, h1⟩
    · exact Around.frames_deeper hfr
    · show b ≠ cenv.locals
      rw [hL]; exact Nat.ne_of_lt (hfp b hb).2
    · exact (hfp b hb).1.2.2.2.2.1 y c (mem e).1 z
    · rcases (hfp b hb).1.2.2.2.1 with z | z
      · exact I.ok.noex b o e z
      · exact absurd (Nat.lt_of_lt_of_le (Heap.lt_size e) (Nat.le_trans I.ok.bsz z)) (Nat.lt_irrefl _)
    · rcases List.mem_cons.mp (I.stkSub b z) with z | z
      · exact (hfp b hb).1.2.1 z
      · exact (hfp b hb).1.2.2.1 z
  refine ⟨okB, rfl, hgs, Un.kept kp, ⟨fun y => if y = (".0" : Str) then some it else none, ?_, fun i y av e1 e2 e3 => ?_⟩, fun y c e => ?_, ?_, fun y c e => ?_, fun p hp => ?_, I.hok.kept kp, by rw [wipe_length]; exact I.len⟩
  · show Heap.Ns _ cenv.locals _
    rw [hL]
    exact hn.push _
  · obtain ⟨e2, hne⟩ := wipe_some e2
    have e3 : Vis cenv.scope y := e3
    unfold Vis at e3
    rw [hsc] at e3
    have no : ∀ k', scope.names.lookup y = some k' → ¬ (k' = .local ∨ k' = .cell) := fun k' e hh => by
      rcases ok.own _ (PySem.mem_of_lookup e) hh with e' | e'
      · obtain ⟨p, hp, hpy⟩ := List.mem_map.mp e'
        have e3 := ok.ix p hp
        have : p.1 = y := hpy
        rw [this] at e3
        exact hne (List.mem_map.mpr ⟨p, hp, nodup_ix hN e3 e1⟩)
      · exact e' (List.mem_of_getElem? e1)
    have hfr : scope.names.lookup y = some .free := by
      rcases e3 with e3 | e3 | e3
      · exact absurd (.inl rfl) (no _ e3)
      · exact absurd (.inr rfl) (no _ e3)
      · exact e3
    obtain ⟨m, hn, hl⟩ := I.loc
    have hvis : Vis X.env.scope y := (ok.free _ (PySem.mem_of_lookup hfr) rfl).elim (fun k => .inr (.inl k)) (fun k => .inr (.inr k))
    obtain ⟨w, r, q⟩ := hl i y av e1 e2 hvis
    refine ⟨w, r, .inr ⟨.inr (by show cenv.scope.names.lookup y = _; rw [hsc]; exact hfr), ?_⟩⟩
    obtain ⟨c, h1, h2⟩ := look hfr
    rcases q with ⟨k, _⟩ | ⟨_, c', e', z⟩
    · have k : X.env.scope.names.lookup y = some .local := k
      rcases ok.free _ (PySem.mem_of_lookup hfr) rfl with k' | k' <;> rw [show X.env.scope.names.lookup y = _ from k'] at k <;> cases k
    · rw [h2] at e'; cases e'
      exact ⟨c, h1, z.keeps kp⟩
  · obtain ⟨w, z⟩ := I.cell y c (mem e).1
    exact ⟨w, z.keeps kp⟩
  · show H cenv.locals = none
    rw [hL]; exact I.hok.fresh (Nat.le_refl _)
  · exact I.freeC y c (mem e).1
  · have e : p = (h'.objs.size, go) := by simpa using hp
    subst e
    refine ⟨hgo, I.hok.fresh (by rw [hsz]; exact Nat.le_succ _), by show h'.objs.size ≠ cenv.locals; rw [hL, hsz]; exact Nat.succ_ne_self _, fun z => ?_, hgd⟩
    rcases List.mem_cons.mp (I.stkSub _ z) with z | z
    · have := I.lt
      rw [← z, hsz] at this
      exact absurd this (Nat.not_lt.mpr (Nat.le_succ _))
    · exact I.nofs (by rw [hsz]; exact Nat.le_succ _) z
end
theorem lcL_item {t : Tg} {a : Sl → Option D} {δ : Sl} : ∀ {ds ys : List D}, lcL t tyes a ds δ = some ys → ys.length = ds.length ∧ ∀ (i : Nat) (d : D), ds[i]? = some d → ∃ δ1 y, t d δ = some δ1 ∧ a δ1 = some y ∧ ys[i]? = some y
  | [], _, h => by cases h; exact ⟨rfl, fun i d e => by simp at e⟩
  | d0 :: ds, ys, h => by
    obtain ⟨δ1, e1, h⟩ := Option.bind_eq_some_iff.mp (show ((t d0 δ).bind fun δ1 => (tyes δ1).bind fun x => if x = true then (a δ1).bind fun y => (lcL t tyes a ds δ).map fun ys => y :: ys else lcL t tyes a ds δ) = some ys from h)
    obtain ⟨y, e2, h⟩ := Option.bind_eq_some_iff.mp (show ((a δ1).bind fun y => (lcL t tyes a ds δ).map fun ys => y :: ys) = some ys from h)
    obtain ⟨zs, e3, rfl⟩ := Option.map_eq_some_iff.mp h
    obtain ⟨h1, h2⟩ := lcL_item e3
    refine ⟨by rw [List.length_cons, List.length_cons, h1], fun i d e => ?_⟩
    cases i with
    | zero =>
      cases e
      exact ⟨δ1, y, e1, e2, rfl⟩
    | succ i =>
      obtain ⟨δ2, y2, f1, f2, f3⟩ := h2 i d (by simpa using e)
      exact ⟨δ2, y2, f1, f2, by simpa using f3⟩
/-- inside, ahead of turn i; s₀: where the run was woken; ks: the consumer's own objects -/
def InnK (X : Cx) (T : List Addr) (S1 : Hp) (σ : L2.St) (H1 : Hp) (ks fp : List Addr) (tn : Nat → Heap → Prop) (i : Nat) (s₀ s : Shared) : Prop :=
  ∃ S2 H2, Step T S1 H1 S2 H2 ∧ Inv X (pinsAt ks s₀.heap) σ H2 s ∧ tn i s.heap ∧ ∀ b ∈ fp, H2 b = none
def REndK (X : Cx) (T : List Addr) (S1 : Hp) (σ : L2.St) (H1 : Hp) (ks : List Addr) : GenEnd := fun n s₀ r s => r = .ok .next ∧ n = 0 ∧ ∃ S2 H2, Step T S1 H1 S2 H2 ∧ Inv X (pinsAt ks s₀.heap) σ H2 s
def YItemK (X : Cx) (T : List Addr) (S1 : Hp) (σ : L2.St) (H1 : Hp) (ks fp : List Addr) (tn : Nat → Heap → Prop) (vals : List D) : Protocol := fun n s₀ v s kap =>
  ∃ i d S2 H2 x, i + n + 1 = vals.length ∧ vals[i]? = some d ∧ Step T S1 H1 S2 H2 ∧ Inv X (pinsAt ks s₀.heap) σ H2 s ∧ tn (i + 1) s.heap ∧ (∀ b ∈ fp, H2 b = none) ∧ RelV x v ∧ Rp X.prog X.w S2 x d ∧
    ∀ s'', InnK X T S1 σ H1 ks fp tn (i + 1) s'' s'' → kap (.send .none) s''
section
variable {X : Cx} {T : List Addr} {scope : Scope} {vs is : List Nat} {elt tg iter : Expr} {pos : Pos} {fp ks : List Addr} {Aw : Around} {code : Value} {s0 : Shared} {C it : Addr} {pn : List (Addr × Obj)} {J : It} {tn : Nat → Heap → Prop}
  {B : Hp × Hp} {S1 H1 : Hp} {σ : L2.St} {δ : Sl} {ds vals : List D} {t : Tg} {ga : Sl → Option D} {cenv : Env}
theorem seg_genL (hce : cenv = gxEnv X scope C code) (hc : X.calm = true) (hco : scope.isCoroutine = false)
    (Tu : Turn X.prog X.w X.K tg J fp it tn) (ok : ItOk X.prog X.w T J S1 ds) (kB : SOk X.prog X.w T B S1 σ H1 δ)
    (pg : PGd T (gxCx X s0 H1 Aw cenv fp pn) tg is t) (pe : PD T (gxCx X s0 H1 Aw cenv fp pn) elt ga) (hv : ∀ i ∈ is, i ∈ vs)
    (hpf : ∀ p ∈ pn, ∀ b ∈ fp, p.1 ≠ b) (hkf : ∀ b ∈ ks, b ∉ fp) (hl : lcL t tyes ga ds (wipeD δ vs) = some vals) :
    ∀ (k i : Nat) (s₀ s : Shared), i + k = ds.length → InnK (gxCx X s0 H1 Aw cenv fp pn) T S1 (wipe σ vs) H1 ks fp tn i s₀ s →
      Seg (model X.prog X.w) Aw (REndK (gxCx X s0 H1 Aw cenv fp pn) T S1 (wipe σ vs) H1 ks) (YItemK (gxCx X s0 H1 Aw cenv fp pn) T S1 (wipe σ vs) H1 ks fp tn vals) k s₀
        (.compLoop (.GeneratorExp elt [⟨tg, iter, [], 0⟩] scope pos) 0 (.ref it) .none cenv) ((model X.prog X.w).den (.compLoop (.GeneratorExp elt [⟨tg, iter, [], 0⟩] scope pos) 0 (.ref it) .none cenv)) [] s := by
  obtain ⟨hlen, hitem⟩ := lcL_item hl
  have hov : Aw.over (.compLoop (.GeneratorExp elt [⟨tg, iter, [], 0⟩] scope pos) 0 (.ref it) .none cenv) [] = Aw.deeper cenv := by subst hce; rfl
  have ovw : ∀ {α : Type} {m : Sem α} {Q : α → Shared → Prop} {E : Value → Shared → Prop} {s : Shared}, wpAny (model X.prog X.w) (Aw.deeper cenv) m Q E s →
      wpAny (model X.prog X.w) (Aw.over (.compLoop (.GeneratorExp elt [⟨tg, iter, [], 0⟩] scope pos) 0 (.ref it) .none cenv) []) m Q E s := fun h => by rw [hov]; exact h
  have hco' : cenv.scope.isCoroutine = false := by subst hce; exact hco
  have stat : ∀ {pins : List (Addr × Obj)} {σ' : L2.St} {H' : Hp} {s' : Shared}, Inv (gxCx X s0 H1 Aw cenv fp pn) pins σ' H' s' → (∀ p ∈ pins, p.1 ∉ fp) → (∀ b ∈ fp, H' b = none) → ∀ b ∈ fp, FpOk (gxCx X s0 H1 Aw cenv fp pn) pins H' b := fun {pins σ' H' s'} I' hp hn b hb =>
    ⟨hn b hb, (I'.ok.exf b hb).1, I'.ok.exfs b hb, .inl hb, fun x c e => (I'.ok.exf b hb).2 x c e, fun p hpp => by
      rcases List.mem_append.mp hpp with z | z
      · exact hpf p z b hb
      · exact fun e => hp p z (e ▸ hb)⟩
  have ksf : ∀ (h : Heap), ∀ p ∈ pinsAt ks h, p.1 ∉ fp := fun h p hp => hkf p.1 (of_pinsAt hp).1
  intro k
  induction k with
  | zero =>
    intro i s₀ s hi ⟨S2, H2, s2, I, st, nf⟩
    show Seg _ Aw _ _ _ s₀ _ ((compTurn (.GeneratorExp elt [⟨tg, iter, [], 0⟩] scope pos) 0 (.ref it) .none cenv).onRaise (leaving cenv)) [] s
    rw [compTurn_gen, Sem.onRaise_eq_wrap]
    refine seg_bind_wrap (wpAny_standAt ?_)
    have td := Tu.done (gxCx X s0 H1 Aw cenv fp pn) rfl rfl rfl hc i _ s _ H2 (fun _ _ => False) I (stat I (ksf _) nf) st (ok.stop i S2 H2 (kB.okk.step s2) s2.ss (by omega))
    refine seg_bind_wrap (ovw <| wpAny_mono td (fun r s6 ⟨hr, I6⟩ => ?_) fun _ _ z => False.elim z)
    subst hr
    exact seg_end (.ok .next) ⟨rfl, rfl, S2, H2, s2, I6⟩
  | succ k ih =>
    intro i s₀ s hi ⟨S2, H2, s2, I, st, nf⟩
    have hlt : i < ds.length := by omega
    have hdi : ds[i]? = some ds[i] := by simp [hlt]
    obtain ⟨g1, g2⟩ := ok.go i S2 H2 ds[i] (kB.okk.step s2) s2.ss hdi
    obtain ⟨δ3, y, e4, e5, e6⟩ := hitem i ds[i] hdi
    show Seg _ Aw _ _ _ s₀ _ ((compTurn (.GeneratorExp elt [⟨tg, iter, [], 0⟩] scope pos) 0 (.ref it) .none cenv).onRaise (leaving cenv)) [] s
    rw [compTurn_gen, Sem.onRaise_eq_wrap]
    refine seg_bind_wrap (wpAny_standAt ?_)
    have ti := Tu.item (gxCx X s0 H1 Aw cenv fp pn) rfl rfl rfl hc i _ s _ H2 (fun _ _ => False) I (stat I (ksf _) nf) st g1
    refine seg_bind_wrap (ovw <| wpAny_mono ti (fun r s6 ⟨u, hr, h6⟩ => ?_) fun _ _ z => False.elim z)
    subst hr
    refine seg_bind_wrap (ovw <| wpAny_mono h6 (fun _ s7 ⟨x, H7, I7, r7, y7, st7, n7⟩ => ?_) fun _ _ z => False.elim z)
    obtain ⟨S7, s27, rp7⟩ := g2 x H7 y7
    have I7' := I7.pinned (stat I7 (ksf _) n7) (Tu.obj _ _ st7)
    have s17 := Step.trans kB.okk s2 s27
    have kw : SOk X.prog X.w T B S7 (wipe σ vs) H7 (wipeD δ vs) := (kB.step s17).wiped vs
    have pg' := pg.run _ s7 _ H7 x u (fun σ8 H8 => H8 = H7 ∧ SOk X.prog X.w T B S7 σ8 H7 δ3 ∧ wipe σ8 vs = wipe (wipe σ vs) vs) I7' r7 ⟨B, S7, wipeD δ vs, ds[i], δ3, kw, rp7, e4, fun σ' k' hw => ⟨rfl, k', hw vs hv⟩⟩
    refine seg_bind_wrap (ovw <| wpAny_mono pg' (fun _ s8 ⟨σ8, H8, I8, eH, k8, hw8⟩ => ?_) fun _ _ z => False.elim z)
    subst eH
    simp only [List.forIn_nil]
    refine seg_bind_wrap (wpAny_pure ?_)
    simp only [if_true]
    have hy : ∀ v, yieldOut cenv v = yieldValue v := fun v => by simp only [yieldOut, hco', Bool.false_eq_true, if_false]
    simp only [hy]
    rw [Sem.bind_eq_wrap', Sem.bind_eq_wrap', Sem.wrap_wrap, Sem.wrap_wrap]
    have pe' := pe.run _ s8 σ8 H8 (fun v H9 => ∃ S9, Step T S7 H8 S9 H9 ∧ Rp X.prog X.w S9 v y) I8 ⟨B, S7, δ3, y, k8, e5, fun v S9 H9 s9 r9 => ⟨S9, s9, r9⟩⟩
    refine seg_wrap (ovw <| wpAny_mono pe' (fun v s9 ⟨xv, H9, I9, r9, S9, s79, rp9⟩ => ?_) fun _ _ z => False.elim z)
    have s19 := Step.trans kB.okk s17 s79
    have pin9 : ∀ b ∈ fp, ∀ o, s7.heap.get? b = some o → s9.heap.get? b = some o ∧ H9 b = none := fun b hb o e =>
      let z := I9.pin (b, o) (List.mem_append_right _ (List.mem_append_right _ (mem_pinsAt hb e)))
      ⟨z.1, z.2.1⟩
    have nf9 : ∀ b ∈ fp, H9 b = none := fun b hb => by
      obtain ⟨o, e, _⟩ := Tu.obj _ _ st7 b hb
      exact (pin9 b hb o e).2
    have hw : wipe σ8 vs = wipe σ vs := by rw [hw8]; exact wipe_sub vs fun i hi => hi
    have st9 : tn (i + 1) s9.heap := Tu.keep _ _ _ st7 fun b hb o e => (pin9 b hb o e).1
    have I9' : Inv (gxCx X s0 H1 Aw cenv fp pn) (pinsAt ks s₀.heap) (wipe σ vs) H9 s9 := by
      refine (I9.unpinned (pins := pinsAt ks s₀.heap)).weak ?_ fun j v e => ?_
      · rw [← hw, wipe_length]
      · rw [← hw] at e
        exact (wipe_some e).1
    refine seg_at (seg_yield rfl rfl rfl ⟨i, y, S9, H9, xv, by omega, e6, s19, I9', st9, nf9, r9, rp9, fun s'' hin => ?_⟩)
    exact seg_again rfl (ih (i + 1) s'' s'' (by omega) hin)
end
end Gd

set_option maxHeartbeats 2000000
/-! GdK: generator expressions made and consumed. -/
namespace Gd
open PySem PySem.Spec PyProof.Rows L2 GenW
/-- a generator that has not begun -/
structure GenRdy (X : Cx) (pins : List (Addr × Obj)) (σ : L2.St) (T : List Addr) (S1 H1 : Hp) (vals : List D) (a : Addr) (s5 : Shared) (s0 : Shared) (cenv : Env) (fp : List Addr) (tn : Nat → Heap → Prop) (go : Obj) (g : Nat) (c : Code) (vs : List Nat) : Prop where
  okk : Okk T S1 H1
  I0 : Inv X pins σ H1 s0
  ex : ExOk X pins fp
  gen : ∀ h : Heap, h.get? a = some go → h.IsGen a g
  fresh : s5.gens[g]? = some (.fresh c)
  keep : ∀ i h h', tn i h → (∀ b ∈ fp, ∀ o, h.get? b = some o → h'.get? b = some o) → tn i h'
  young : s0.heap.objs.size < a ∧ cenv.locals = s0.heap.objs.size ∧ s5.heap.objs.size = a + 1 ∧ a = s0.heap.objs.size + 1 ∧ ∀ b ∈ fp, b < s0.heap.objs.size
  inn : InnK (gxCx X s0 H1 X.A.in1.in1 cenv fp [(a, go)]) T S1 (wipe σ vs) H1 [] fp tn 0 s5 s5
  run : ∀ ks s, (∀ b ∈ ks, b ∉ fp) → InnK (gxCx X s0 H1 X.A.in1.in1 cenv fp [(a, go)]) T S1 (wipe σ vs) H1 ks fp tn 0 s s →
    Seg (model X.prog X.w) X.A.in1.in1 (REndK (gxCx X s0 H1 X.A.in1.in1 cenv fp [(a, go)]) T S1 (wipe σ vs) H1 ks) (YItemK (gxCx X s0 H1 X.A.in1.in1 cenv fp [(a, go)]) T S1 (wipe σ vs) H1 ks fp tn vals) vals.length s c ((model X.prog X.w).den c) [] s
section
variable {X : Cx} {T : List Addr} {scope : Scope} {own : List (Str × Nat)} {is : List Nat} {elt tg iter : Expr} {pos : Pos} {t : Tg} {f : Sl → Option (List D)} {ga : Sl → Option D} {k : Nat} {c P : Addr}
theorem seg_genS {cenv : Env} {fp : List Addr} {Aw : Around} {code : Value} {C it : Addr} {J : It} {tn : Nat → Heap → Prop} {R : GenEnd} {Y : Protocol} {m : Nat} {s₀ s : Shared} (hce : cenv = gxEnv X scope C code)
    (Tu : Turn X.prog X.w X.K tg J fp it tn) (st : tn 0 s.heap)
    (loop : Seg (model X.prog X.w) Aw R Y m s₀ (.compLoop (.GeneratorExp elt [⟨tg, iter, [], 0⟩] scope pos) 0 (.ref it) .none cenv) ((model X.prog X.w).den (.compLoop (.GeneratorExp elt [⟨tg, iter, [], 0⟩] scope pos) 0 (.ref it) .none cenv)) [] s) :
    Seg (model X.prog X.w) Aw R Y m s₀ (.compStart (.GeneratorExp elt [⟨tg, iter, [], 0⟩] scope pos) 0 (.ref it) .none cenv) ((model X.prog X.w).den (.compStart (.GeneratorExp elt [⟨tg, iter, [], 0⟩] scope pos) 0 (.ref it) .none cenv)) [] s := by
  show Seg _ Aw _ _ _ s₀ _ ((compStart (.GeneratorExp elt [⟨tg, iter, [], 0⟩] scope pos) 0 (.ref it) .none cenv).onRaise (leaving cenv)) [] s
  unfold compStart
  rw [Sem.onRaise_eq_wrap]
  show Seg _ Aw _ _ _ s₀ _ ((ask >>= _).wrap _ _ _ _) [] s
  refine seg_bind_wrap (wpAny_askSetting ?_)
  split
  · exact seg_again rfl loop
  · first
      | exact seg_bind_wrap (wpAny_rule (seg_bind_wrap (wpAny_standAt (seg_bind_wrap (Tu.self _ 0 s _ _ st (seg_again rfl loop))))))
      | (refine seg_bind_wrap (wpAny_rule ?_); show Seg _ Aw _ _ _ s₀ _ ((standAt iter.pos >>= _).wrap _ _ _ _) [] s; exact seg_bind_wrap (wpAny_standAt (seg_bind_wrap (Tu.self _ 0 s _ _ st (seg_again rfl loop)))))
def gvals (vs : List Nat) (f : Sl → Option (List D)) (t : Tg) (a : Sl → Option D) : Sl → Option (List D) := fun δ => (f δ).bind fun ds => lcL t tyes a ds (wipeD δ vs)
/-- the expression's value is a generator that has not begun -/
theorem gen_eval {pins : List (Addr × Obj)} {σ : L2.St} {H : Hp} {s : Shared} {B : Hp × Hp} {S : Hp} {δ : Sl} {vals : List D} {Q : Value → Shared → Prop}
    (hr : Room (k + 3) X.A) (TB : GxR.TabB X.base X.mg c P) (hP : P ∈ T) (hcode : X.env.code = .ref c) (hc : X.calm = true) (hN : X.N.Nodup) (ok : BlkOk X.N X.env.scope scope own)
    (hcell : ∀ y ∈ scope.names, y.2 ≠ .cell) (hdot : scope.names.lookup (".0" : Str) = some NameKind.local) (hco : scope.isCoroutine = false)
    (hi : PId T X tg iter f)
    (hg : ∀ (s : Shared) (H : Hp) (A : Around) (C : Addr) (code : Value) (fp : List Addr) (pn : List (Addr × Obj)), PGd T (gxCx X s H A (gxEnv X scope C code) fp pn) tg is t)
    (he : ∀ (s : Shared) (H : Hp) (A : Around) (C : Addr) (code : Value) (fp : List Addr) (pn : List (Addr × Obj)), Room k (A.deeper (gxEnv X scope C code)) → PD T (gxCx X s H A (gxEnv X scope C code) fp pn) elt ga)
    (hv : ∀ i ∈ is, i ∈ own.map (·.2)) (hs : ∀ x, genFold iter X.env x = pure x)
    (I : Inv X pins σ H s) (kB : SOk X.prog X.w T B S σ H δ) (e : gvals (own.map (·.2)) f t ga δ = some vals)
    (q : ∀ a S1 H1 s5 s0 cenv fp tn go g c, Step T S H S1 H1 → GenRdy X pins σ T S1 H1 vals a s5 s0 cenv fp tn go g c (own.map (·.2)) → Q (.ref a) s5) :
    wpAny (model X.prog X.w) X.A (eval (.GeneratorExp elt [⟨tg, iter, [], 0⟩] scope pos) X.env) Q X.xe s := by
  obtain ⟨ds, e1, e2⟩ := Option.bind_eq_some_iff.mp e
  have hfree : ∀ y ∈ scope.names, y.2 = .free → ∃ c, X.env.cells.lookup y.1 = some c := fun y hy e => by
    rcases ok.free y hy e with k | k
    · exact I.ok.has _ (.inl k)
    · exact I.ok.has _ (.inr k)
  refine wpAny_GeneratorExp_make hco (closure_ok hfree) hcell hdot ok.kind (by have := hr.dp; omega) ?_ hs
  refine thn (hi.run pins s σ H (fun J H1 => ∃ S1, Step T S H S1 H1 ∧ ItOk X.prog X.w T J S1 ds) I ⟨B, S, δ, ds, kB, e1, fun J S1 H1 s1 o => ⟨S1, s1, o⟩⟩) fun xv s1 h1 => thn h1 fun itv s2 ⟨it, fp, tn, J, H2, e, I2, Tu, st2, f2, S2, st, io⟩ => ?_
  subst e
  have k2 := kB.okk.step st
  obtain ⟨ps, hPt, ht⟩ := k2.tb P hP
  have hPs : s2.heap.get? P = some { cls := .none, data := .fields ps } := I2.hok P _ hPt
  have cd : PySem.W.CodeHd s2.heap c P := TB.code.keeps fun b u e => I2.bk b u e
  refine ⟨I2.nolimit, ?_⟩
  have cont : ∀ (code : Value) (h3 : Heap) (tk : Nat) (ps' : Array Value), Heap.ExtBut P s2.heap h3 → s2.heap.objs.size ≤ h3.objs.size → h3.get? P = some { cls := .none, data := .fields ps' } → (∃ more, ps' = ps ++ more) → TriplesOk ps'.toList →
      wpAny (model X.prog X.w) X.A (builtinsFor X.env.globals X.env.builtins) (fun bi s₄ => ∀ h', h'.Ns s₄.heap.objs.size (fun y => if y = ".0" then some (.ref it) else none) → Heap.SameBut s₄.heap.objs.size (s₄.heap.push { cls := .type "frame", data := .dict #[] }) h' →
          Q (.ref h'.objs.size) { s₄ with
            gens := s₄.gens.push (.fresh (.compStart (.GeneratorExp elt [⟨tg, iter, [], 0⟩] scope pos) 0 (.ref it) .none (genEnv scope (cloFrom X.env.cells scope.names []) s₄.heap.objs.size code bi X.env))),
            toks := s₄.toks + 1 + 1 + 1,
            heap := h'.push { cls := .type "generator", data := .fields #[.int s₄.gens.size 0, .str "<genexpr>" (s₄.toks + 1), .str (X.env.qual ++ "<genexpr>") (s₄.toks + 1 + 1)] } }) X.xe { s2 with heap := h3, toks := tk } := by
    intro code h3 tk ps' hx hsz hP3 hmore ht3
    obtain ⟨bm, ob, b1, b2, b3, b4, b5, b6, b7, b8⟩ := TB.bm
    obtain ⟨more, em⟩ := hmore
    refine wpAny_builtinsFor (m := X.mg) (by rw [I2.ok.glob]; exact (I2.mod.glob.keeps I2.bk).extBut hx TB.gP) b1 b2 (hx _ _ b4 (I2.bk _ _ b5)) b6 b7 b8 ?_
    intro h' hn' hs'
    -- the table has grown
    have I3 : Inv X pins σ (upd H2 P (.tbl (ps ++ more))) { s2 with heap := h3, toks := tk } := GxR.inv_tab (g' := s2.gens) (d' := s2.drawn) I2 hPt (fun b o hb e => hx b o hb e) (by rw [← em]; exact hP3) I2.bare
    have nP : S2 P = none := k2.no P hP
    have stT : Step T S2 H2 S2 (upd H2 P (.tbl (ps ++ more))) := by
      refine ⟨Same.refl _, fun b u e => ?_, fun b u e n => ?_, fun b e => rfl, fun p hp => ?_⟩
      · rw [upd_ne (ne_of_none e nP)]; exact k2.sh b u e
      · have hb : b ≠ P := fun z => n (z ▸ hP)
        rw [upd_ne hb]; exact e
      · by_cases z : p = P
        · subst z
          exact ⟨_, upd_same, by rw [← em]; exact ht3⟩
        · rw [upd_ne z]; exact k2.tb p hp
    have s03 := Step.trans kB.okk st stT
    have k3 := kB.okk.step s03
    generalize hH3 : upd H2 P (.tbl (ps ++ more)) = H3 at I3 stT s03 k3
    have io3 : ItOk X.prog X.w T J S2 ds := io
    have hsz' : h'.objs.size = h3.objs.size + 1 := by rw [hs'.1, Heap.size_push]
    have fpP : ∀ b ∈ fp, b ≠ P := fun b hb z => by
      have := (f2 b hb).1
      rw [z, hPt] at this; cases this
    have fplt : ∀ b ∈ fp, b < s2.heap.objs.size := fun b hb => by
      obtain ⟨o, e, _⟩ := Tu.obj _ _ st2 b hb
      exact Heap.lt_size e
    have f3 : ∀ b ∈ fp, FpOk X pins H3 b := fun b hb => by
      refine ⟨?_, (f2 b hb).2⟩
      rw [← hH3, upd_ne (fpP b hb)]
      exact (f2 b hb).1
    generalize hgo : ({ cls := .type "generator", data := .fields #[.int s2.gens.size 0, .str "<genexpr>" (tk + 1), .str (X.env.qual ++ "<genexpr>") (tk + 1 + 1)] } : Obj) = go
    have hgd : ∀ v, go.data ≠ .cell v := fun v => by rw [← hgo]; exact fun z => by cases z
    have hgp : (h'.push go).get? h'.objs.size = some go := by rw [← hgo]; exact Heap.get?_push_size _ rfl
    have I5 := gen_start (A := X.A.in1.in1) (code := code) (tk := tk + 1 + 1 + 1) (gs := s2.gens.push (.fresh (.compStart (.GeneratorExp elt [⟨tg, iter, [], 0⟩] scope pos) 0 (.ref it) .none (gxEnv X scope h3.objs.size code)))) I3 ok hcell hN (fun b hb => ⟨f3 b hb, Nat.lt_of_lt_of_le (fplt b hb) hsz⟩) hr.hd I.ok.frames hn' hs' hgd hgp (AllBare.push I2.bare rfl)
    have kp5 : ∀ b ∈ fp, ∀ o, s2.heap.get? b = some o → (h'.push go).get? b = some o := fun b hb o e =>
      Heap.get?_push_of_some _ (hs'.extBut b o (Nat.ne_of_lt (Nat.lt_of_lt_of_le (fplt b hb) hsz)) (Heap.get?_push_of_some _ (hx b o (fpP b hb) e)))
    have st5 : tn 0 (h'.push go) := Tu.keep _ _ _ st2 kp5
    have k3B : SOk X.prog X.w T B S2 σ H3 δ := kB.step s03
    have hroom : Room k (X.A.in1.in1.deeper (gxEnv X scope h3.objs.size code)) := ((hr.in1).in1).deeper _
    refine q h'.objs.size S2 H3 _ { s2 with heap := h3, toks := tk } (gxEnv X scope h3.objs.size code) fp tn go s2.gens.size _ s03 ⟨k3, I3, fun b hb => ⟨(f3 b hb).2.2.2.1, (f3 b hb).2.1, (f3 b hb).2.2.2.2.1, (f3 b hb).2.2.2.2.2⟩, fun h e => ⟨go, _, _, e, by rw [← hgo], by rw [← hgo], by rw [← hgo]⟩, Array.getElem?_push_size .., Tu.keep, ⟨by show h3.objs.size < h'.objs.size; rw [hsz']; exact Nat.lt_succ_self _, rfl, by show (h'.push _).objs.size = _; rw [Heap.size_push], hsz', fun b hb => Nat.lt_of_lt_of_le (fplt b hb) hsz⟩, ⟨S2, H3, k3.refl, ?_, st5, fun b hb => (f3 b hb).1⟩, fun ks s hkf hin => ?_⟩
    · exact I5
    · have hp : ∀ p ∈ [(h'.objs.size, go)], ∀ b ∈ fp, p.1 ≠ b := fun p hp b hb z => by
        rw [List.mem_singleton.mp hp] at z
        have := fplt b hb
        rw [← z] at this
        have z2 : h'.objs.size = h3.objs.size + 1 := hsz'
        have z3 : h'.objs.size < s2.heap.objs.size := this
        rw [z2] at z3
        exact absurd (Nat.lt_of_lt_of_le z3 hsz) (Nat.not_lt.mpr (Nat.le_succ _))
      have hlen : vals.length = ds.length := (lcL_item e2).1
      have loop := seg_genL (pos := pos) (iter := iter) (vals := vals) rfl hc hco Tu io3 k3B (hg _ _ _ _ _ _ _) (he _ _ _ _ _ _ _ hroom) hv hp hkf e2 vals.length 0 s s (by omega) hin
      obtain ⟨_, _, _, _, st', _⟩ := hin
      exact seg_genS rfl Tu st' loop
  cases hf : codeAmong pos ps.toList with
  | none =>
    refine wpAny_genexprCodeX hcode (cd.code hPs ht) (cd.tab hPs) hf fun c' h' tk hx hge hlt hco' _ htab' _ => ?_
    obtain ⟨o1, vs, f1, tf, fl, tg, inF, tx, tt, op, _, _, _, _, _, _, _, _, _, htr, _⟩ := hco'
    exact cont _ h' tk _ hx (Nat.le_trans hge (Nat.le_of_lt hlt)) htab'.2 ⟨_, rfl⟩ htr
  | some cv =>
    refine wpAny_genexprCode_hit hcode (cd.code hPs ht) hf ?_
    exact cont cv s2.heap s2.toks ps (Heap.ExtBut.refl _ _) (Nat.le_refl _) hPs ⟨#[], by simp⟩ ht
end
end Gd

set_option maxHeartbeats 2000000
/-! GdL: all, any, sum of a generator expression. -/
namespace Gd
open PySem PySem.Spec PyProof.Rows L2 GenW
def GOut (X : Cx) (pins : List (Addr × Obj)) (σ : L2.St) (T : List Addr) (S1 H1 : Hp) (s : Shared) : Prop := ∃ S2 H2, Step T S1 H1 S2 H2 ∧ Inv X pins σ H2 s
def CRdy (X : Cx) (σ : L2.St) (T : List Addr) (S1 H1 : Hp) (vals : List D) (a : Addr) (s0 : Shared) (cenv : Env) (fp : List Addr) (tn : Nat → Heap → Prop) (go : Obj) (g : Nat) (vs : List Nat) (ks : List Addr) (i : Nat) (s : Shared) : Prop :=
  ∃ gs S2 H2, s.gens[g]? = some gs ∧ (∀ s'', InnK (gxCx X s0 H1 X.A.in1.in1 cenv fp [(a, go)]) T S1 (wipe σ vs) H1 ks fp tn i s'' s'' →
      gs.Goes (model X.prog X.w) X.A.in1.in1 (REndK (gxCx X s0 H1 X.A.in1.in1 cenv fp [(a, go)]) T S1 (wipe σ vs) H1 ks) (YItemK (gxCx X s0 H1 X.A.in1.in1 cenv fp [(a, go)]) T S1 (wipe σ vs) H1 ks fp tn vals) (vals.length - i) (.send .none) s'') ∧
    Step T S1 H1 S2 H2 ∧ Inv (gxCx X s0 H1 X.A.in1.in1 cenv fp [(a, go)]) [] (wipe σ vs) H2 s ∧ tn i s.heap ∧ (∀ b ∈ fp, H2 b = none) ∧ ∀ b ∈ ks, H2 b = none ∧ ∃ o, s.heap.get? b = some o ∧ ∀ v, o.data ≠ .cell v
/-- the consumer's own object -/
def KOk (X : Cx) (a : Addr) (s0 : Shared) (cenv : Env) (fp : List Addr) (b : Addr) : Prop := b ≠ cenv.locals ∧ b ∉ frs X.stack ∧ s0.heap.objs.size ≤ b ∧ (∀ x c, cenv.cells.lookup x = some c → c ≠ b) ∧ b ≠ a ∧ b ∉ fp
section
variable {X : Cx} {pins : List (Addr × Obj)} {σ : L2.St} {T : List Addr} {S1 H1 : Hp} {vals : List D} {a : Addr} {s5 s0 : Shared} {cenv : Env} {fp : List Addr} {tn : Nat → Heap → Prop} {go : Obj} {g : Nat} {c : Code} {vs : List Nat} {ks : List Addr} {s : Shared}
theorem gout_of (R : GenRdy X pins σ T S1 H1 vals a s5 s0 cenv fp tn go g c vs) {S2 H2 : Hp} {pp : List (Addr × Obj)} {s : Shared} (st : Step T S1 H1 S2 H2) (I : Inv (gxCx X s0 H1 X.A.in1.in1 cenv fp [(a, go)]) pp (wipe σ vs) H2 s) : GOut X pins σ T S1 H1 s :=
  ⟨S2, H2, st, R.I0.call' (ch := fp) I.os I.base I.hok I.bare R.ex⟩
theorem kok_fp {H2 : Hp} {b : Addr} (h : KOk X a s0 cenv fp b) (n : H2 b = none) : FpOk (gxCx X s0 H1 X.A.in1.in1 cenv fp [(a, go)]) [] H2 b := by
  obtain ⟨h1, h2, h3, h4, h5, h6⟩ := h
  refine ⟨n, h1, h2, .inr h3, h4, fun p hp => ?_⟩
  have e : p = (a, go) := by simpa using hp
  subst e
  exact Ne.symm h5
theorem CRdy.inn {i : Nat} (hk : ∀ b ∈ ks, KOk X a s0 cenv fp b) {S2 H2 : Hp} {s : Shared} (st : Step T S1 H1 S2 H2) (I : Inv (gxCx X s0 H1 X.A.in1.in1 cenv fp [(a, go)]) [] (wipe σ vs) H2 s) (ht : tn i s.heap) (hf : ∀ b ∈ fp, H2 b = none)
    (ho : ∀ b ∈ ks, H2 b = none ∧ ∃ o, s.heap.get? b = some o ∧ ∀ v, o.data ≠ .cell v) : InnK (gxCx X s0 H1 X.A.in1.in1 cenv fp [(a, go)]) T S1 (wipe σ vs) H1 ks fp tn i s s := by
  refine ⟨S2, H2, st, ?_, ht, hf⟩
  exact I.pinned (fp := ks) (fun b hb => kok_fp (hk b hb) (ho b hb).1) fun b hb => (ho b hb).2
theorem CRdy.start (R : GenRdy X pins σ T S1 H1 vals a s5 s0 cenv fp tn go g c vs) (hk : ∀ b ∈ ks, b ∉ fp) {s : Shared} (os : s.os = s5.os) (hg : s.gens = s5.gens) (hh : ∀ b o, s5.heap.get? b = some o → s.heap.get? b = some o)
    (hks : ∀ b ∈ ks, s5.heap.get? b = none ∧ s5.heap.objs.size ≤ b ∧ ∃ o, s.heap.get? b = some o ∧ ∀ v, o.data ≠ .cell v) : CRdy X σ T S1 H1 vals a s0 cenv fp tn go g vs ks 0 s := by
  obtain ⟨S2, H2, st, I, ht, hf⟩ := R.inn
  have I' : Inv (gxCx X s0 H1 X.A.in1.in1 cenv fp [(a, go)]) [] (wipe σ vs) H2 s5 := I
  exact ⟨.fresh c, S2, H2, by rw [hg]; exact R.fresh, fun s'' hin => ⟨rfl, R.run ks s'' hk hin⟩, st, inv_move I' os hh (by rw [hg]; exact I'.bare), R.keep _ _ _ ht (fun b _ o e => hh b o e), hf, fun b hb => ⟨I'.hok.fresh (hks b hb).2.1, (hks b hb).2.2⟩⟩
theorem gen_next {i : Nat} {Q : Option Value → Shared → Prop} {E : Value → Shared → Prop} (R : GenRdy X pins σ T S1 H1 vals a s5 s0 cenv fp tn go g c vs) (hd : X.A.handled = none) (hroom : X.A.depth < recursionLimit) (hk : ∀ b ∈ ks, KOk X a s0 cenv fp b)
    (C : CRdy X σ T S1 H1 vals a s0 cenv fp tn go g vs ks i s) (hi : i ≤ vals.length)
    (h1 : i < vals.length → ∀ v s' x d S2, vals[i]? = some d → RelV x v → Rp X.prog X.w S2 x d → CRdy X σ T S1 H1 vals a s0 cenv fp tn go g vs ks (i + 1) s' → (∀ b ∈ ks, ∀ o, s.heap.get? b = some o → s'.heap.get? b = some o) → GOut X pins σ T S1 H1 s' → Q (some v) s')
    (h2 : i = vals.length → ∀ s', GOut X pins σ T S1 H1 s' → (∀ b ∈ ks, ∀ o, s.heap.get? b = some o → s'.heap.get? b = some o) → Q none s') : wpAny (model X.prog X.w) X.A.in1 (pyNext (.ref a)) Q E s := by
  obtain ⟨gs, S2, H2, hgs, hgo, st, I, ht, hf, ho⟩ := C
  have hgl : g < s.gens.size := (Array.getElem?_eq_some_iff.mp hgs).1
  have ag : s.heap.get? a = some go := (I.pin (a, go) (by simp)).1
  have Ir : Inv (gxCx X s0 H1 X.A.in1.in1 cenv fp [(a, go)]) [] (wipe σ vs) H2 (s.setGen g .running) := inv_move I rfl (fun _ _ e => e) (allBare_setGen I.bare rfl)
  have hgo' := hgo (s.setGen g .running) (CRdy.inn hk st Ir ht hf ho)
  refine wpAny_gsz (n := g + 1) hgl (wpAny_pyNext_genexpQ (P := fun n s₀ s => n = 0 ∧ ∃ S2 H2, Step T S1 H1 S2 H2 ∧ Inv (gxCx X s0 H1 X.A.in1.in1 cenv fp [(a, go)]) (pinsAt ks s₀.heap) (wipe σ vs) H2 s) hd I.nolimit hroom (R.gen _ ag) hgs hgo' (fun v s₁ gs' hb hv => ?_) (fun s₁ hp h' hk' => ?_))
  · intro hsz
    obtain ⟨i', d, S3, H3, x, ei, ed, st3, I3, ht3, hf3, rv, rp, kap⟩ := hv
    have kept : ∀ b ∈ ks, ∀ o, s.heap.get? b = some o → s₁.heap.get? b = some o ∧ H3 b = none := fun b hb o e =>
      let z := I3.pin (b, o) (List.mem_append_right _ (mem_pinsAt hb e))
      ⟨z.1, z.2.1⟩
    have I3' : Inv (gxCx X s0 H1 X.A.in1.in1 cenv fp [(a, go)]) [] (wipe σ vs) H3 s₁ := I3.unpinned (pins := [])
    have ho3 : ∀ b ∈ ks, H3 b = none ∧ ∃ o, s₁.heap.get? b = some o ∧ ∀ v, o.data ≠ .cell v := fun b hb => by
      obtain ⟨_, o, e, hc⟩ := ho b hb
      obtain ⟨e1, e2⟩ := kept b hb o e
      exact ⟨e2, o, e1, hc⟩
    by_cases hlt : i < vals.length
    · obtain ⟨m, hm⟩ : ∃ m, vals.length - i = m + 1 := ⟨vals.length - i - 1, by omega⟩
      rw [hm] at ei kap
      have eii : i' = i := by omega
      subst eii
      have hsz1 : g < s₁.gens.size := by
        have q : (s₁.setGen g gs').gens.size = s₁.gens.size := setGen_size _ _ _
        omega
      have I4 : Inv (gxCx X s0 H1 X.A.in1.in1 cenv fp [(a, go)]) [] (wipe σ vs) H3 (s₁.setGen g gs') := inv_move I3' rfl (fun _ _ e => e) (allBare_setGen I3'.bare hb)
      refine h1 hlt v _ x d S3 ed rv rp ⟨gs', S3, H3, setGen_at hsz1, fun s'' hin => ?_, st3, I4, ht3, hf3, ho3⟩ (fun b hb o e => (kept b hb o e).1) (gout_of R st3 I4)
      have e : vals.length - (i' + 1) = m := by omega
      rw [e]
      exact kap s'' hin
    · have e0 : vals.length - i = 0 := by omega
      rw [e0] at kap
      exact False.elim (kap s₁ (CRdy.inn hk st3 I3' ht3 hf3 ho3))
  · intro hsz
    obtain ⟨e0, S3, H3, st3, I3⟩ := hp
    have kept : ∀ b ∈ ks, ∀ o, s.heap.get? b = some o → s₁.heap.get? b = some o := fun b hb o e => (I3.pin (b, o) (List.mem_append_right _ (mem_pinsAt hb e))).1
    obtain ⟨S4, H4, st4, I4⟩ := gout_of R st3 I3
    exact h2 (by omega) _ ⟨S4, H4, st4, inv_move I4 rfl (fun b o e => hk' b o e) (allBare_setGen I4.bare rfl)⟩ fun b hb o e => hk' b o (kept b hb o e)
/-! ### all, any -/
theorem gall_loop {Rr : Result → Shared → Prop} {bs : List Bool} (R : GenRdy X pins σ T S1 H1 vals a s5 s0 cenv fp tn go g c vs) (hd : X.A.handled = none) (hroom : X.A.depth < recursionLimit) (hv : vals = bs.map .bool) :
    ∀ (k i : Nat) (s : Shared), i + k = vals.length → CRdy X σ T S1 H1 vals a s0 cenv fp tn go g vs [] i s → (∀ s', GOut X pins σ T S1 H1 s' → Rr (.ok (.ret (.bool ((bs.drop i).all id)))) s') →
      codeAny (model X.prog X.w) X.A (.builtin "all.loop" ⟨[.ref a], []⟩) Rr s := by
  have hlen : vals.length = bs.length := by rw [hv, List.length_map]
  intro k
  induction k with
  | zero =>
    intro i s hk C hR
    refine codeAny_builtin F.entry_all_loop ?_
    rw [Around.under_plainId F.plain_all_loop _]
    show wpAny _ X.A.in1 (pyNext (.ref a) >>= _) _ _ s
    refine wpAny_bind (gen_next R hd hroom (fun b hb => by cases hb) C (by omega) (fun hlt => by omega) fun hi s' ho _ => ?_)
    refine wpAny_bind (wpAny_rule (wpAny_pure ?_))
    have := hR s' ho
    rw [List.drop_of_length_le (by omega)] at this
    exact this
  | succ k ih =>
    intro i s hk C hR
    have hlt : i < bs.length := by omega
    have hdr : bs.drop i = bs[i] :: bs.drop (i + 1) := List.drop_eq_getElem_cons hlt
    refine codeAny_builtin F.entry_all_loop ?_
    rw [Around.under_plainId F.plain_all_loop _]
    show wpAny _ X.A.in1 (pyNext (.ref a) >>= _) _ _ s
    refine wpAny_bind (gen_next R hd hroom (fun b hb => by cases hb) C (by omega) (fun hl v s' x d S2 ed rv rp C' _ ho => ?_) fun hi => by omega)
    have e : d = .bool bs[i] := by
      rw [hv, List.getElem?_map, List.getElem?_eq_getElem hlt] at ed
      exact (Option.some.inj ed).symm
    subst e
    cases rp
    cases rv
    refine wpAny_bind (wpAny_holding (wpAny_truthy_bool ?_))
    refine wpAny_bind (wpAny_letGo ?_)
    cases hb : bs[i] with
    | true =>
      simp only [if_true]
      refine wpAny_pure ⟨plainId_quiet F.plain_all_loop _, ih (i + 1) _ (by omega) C' fun s'' ho' => ?_⟩
      have := hR s'' ho'
      rw [hdr, List.all_cons, hb] at this
      exact this
    | false =>
      simp only [Bool.false_eq_true, if_false]
      refine wpAny_bind (wpAny_rule (wpAny_pure ?_))
      have := hR s' ho
      rw [hdr, List.all_cons, hb] at this
      exact this
theorem gany_loop {Rr : Result → Shared → Prop} {bs : List Bool} (R : GenRdy X pins σ T S1 H1 vals a s5 s0 cenv fp tn go g c vs) (hd : X.A.handled = none) (hroom : X.A.depth < recursionLimit) (hv : vals = bs.map .bool) :
    ∀ (k i : Nat) (s : Shared), i + k = vals.length → CRdy X σ T S1 H1 vals a s0 cenv fp tn go g vs [] i s → (∀ s', GOut X pins σ T S1 H1 s' → Rr (.ok (.ret (.bool ((bs.drop i).any id)))) s') →
      codeAny (model X.prog X.w) X.A (.builtin "any.loop" ⟨[.ref a], []⟩) Rr s := by
  have hlen : vals.length = bs.length := by rw [hv, List.length_map]
  intro k
  induction k with
  | zero =>
    intro i s hk C hR
    refine codeAny_builtin F.entry_any_loop ?_
    rw [Around.under_plainId F.plain_any_loop _]
    show wpAny _ X.A.in1 (pyNext (.ref a) >>= _) _ _ s
    refine wpAny_bind (gen_next R hd hroom (fun b hb => by cases hb) C (by omega) (fun hlt => by omega) fun hi s' ho _ => ?_)
    refine wpAny_bind (wpAny_rule (wpAny_pure ?_))
    have := hR s' ho
    rw [List.drop_of_length_le (by omega)] at this
    exact this
  | succ k ih =>
    intro i s hk C hR
    have hlt : i < bs.length := by omega
    have hdr : bs.drop i = bs[i] :: bs.drop (i + 1) := List.drop_eq_getElem_cons hlt
    refine codeAny_builtin F.entry_any_loop ?_
    rw [Around.under_plainId F.plain_any_loop _]
    show wpAny _ X.A.in1 (pyNext (.ref a) >>= _) _ _ s
    refine wpAny_bind (gen_next R hd hroom (fun b hb => by cases hb) C (by omega) (fun hl v s' x d S2 ed rv rp C' _ ho => ?_) fun hi => by omega)
    have e : d = .bool bs[i] := by
      rw [hv, List.getElem?_map, List.getElem?_eq_getElem hlt] at ed
      exact (Option.some.inj ed).symm
    subst e
    cases rp
    cases rv
    refine wpAny_bind (wpAny_holding (wpAny_truthy_bool ?_))
    refine wpAny_bind (wpAny_letGo ?_)
    cases hb : bs[i] with
    | false =>
      simp only [Bool.false_eq_true, if_false]
      refine wpAny_pure ⟨plainId_quiet F.plain_any_loop _, ih (i + 1) _ (by omega) C' fun s'' ho' => ?_⟩
      have := hR s'' ho'
      rw [hdr, List.any_cons, hb] at this
      exact this
    | true =>
      simp only [if_true]
      refine wpAny_bind (wpAny_rule (wpAny_pure ?_))
      have := hR s' ho
      rw [hdr, List.any_cons, hb] at this
      exact this
/-! ### sum -/
theorem CRdy.touch {L : Addr} {i : Nat} {s' : Shared} (R : GenRdy X pins σ T S1 H1 vals a s5 s0 cenv fp tn go g c vs) (hk : KOk X a s0 cenv fp L) (C : CRdy X σ T S1 H1 vals a s0 cenv fp tn go g vs [L] i s) (hg : s'.gens = s.gens) (hos : s'.os = s.os) (hh : ∀ b o, b ≠ L → s.heap.get? b = some o → s'.heap.get? b = some o)
    (ho : ∃ o, s'.heap.get? L = some o ∧ ∀ v, o.data ≠ .cell v) : CRdy X σ T S1 H1 vals a s0 cenv fp tn go g vs [L] i s' := by
  obtain ⟨gs, S2, H2, hgs, hgo, st, I, ht, hf, hl⟩ := C
  obtain ⟨nL, _⟩ := hl L (List.mem_singleton.mpr rfl)
  obtain ⟨f0, f1, f2, f3, f4, f5⟩ := kok_fp (go := go) (H1 := H1) hk nL
  refine ⟨gs, S2, H2, by rw [hg]; exact hgs, hgo, st, inv_move (I.turned (it := L) (h' := s'.heap) (t' := s.toks) hh f0 f1 f3 f4 f5) hos (fun _ _ e => e) (by rw [hg]; exact I.bare), R.keep _ _ _ ht (fun b hb o e => hh b o (fun z => hk.2.2.2.2.2 (z ▸ hb)) e), hf, fun b hb => ?_⟩
  rw [List.mem_singleton.mp hb]
  exact ⟨nL, ho⟩
theorem preSum_take (ns : List Int) : ∀ i, i ≤ ns.length → preSum (fun j => ns.getD j 0) i = (ns.take i).sum
  | 0, _ => rfl
  | i + 1, h => by
    show preSum (fun j => ns.getD j 0) i + ns.getD i 0 = _
    rw [preSum_take ns i (by omega), List.take_succ, List.sum_append]
    have hi : i < ns.length := by omega
    simp [hi, List.getD]
theorem gsum_loop {Rr : Result → Shared → Prop} {ns : List Int} {L : Addr} (R : GenRdy X pins σ T S1 H1 vals a s5 s0 cenv fp tn go g c vs) (hd : X.A.handled = none) (hroom : X.A.depth < recursionLimit) (hv : vals = ns.map .int) (hL : KOk X a s0 cenv fp L) :
    ∀ (k i : Nat) (s : Shared) (tA : Tok) (c : Nat) (st : Int), (st = 0 ∨ st = 2) → i + k = vals.length → CRdy X σ T S1 H1 vals a s0 cenv fp tn go g vs [L] i s →
      s.heap.get? L = some { cls := .type "list", dict := none, data := .seq #[.int (preSum (fun j => ns.getD j 0) i) tA] c, slots := #[] } → (∀ s' t', GOut X pins σ T S1 H1 s' → Rr (.ok (.ret (.int ns.sum t'))) s') →
      codeAny (model X.prog X.w) X.A (.builtin "sum.loop" ⟨[.ref a, .ref L, rawInt st, rawInt 0], []⟩) Rr s := by
  have hlen : vals.length = ns.length := by rw [hv, List.length_map]
  have hks : ∀ b ∈ [L], KOk X a s0 cenv fp b := fun b hb => by rw [List.mem_singleton.mp hb]; exact hL
  have other : ∀ {h : Heap} {f : Obj → Obj} {b : Addr} {o : Obj}, b ≠ L → h.get? b = some o → (h.update L f).get? b = some o := fun hb e => (Heap.get?_update_other _ _ (Ne.symm hb)).trans e
  intro k
  induction k with
  | zero =>
    intro i s tA cc st hst2 hk C hS hR
    refine codeAny_builtin F.entry_sum_loop ?_
    rw [Around.under_plainId F.plain_sum_loop _]
    show wpAny _ X.A.in1 (seqItems? (.ref L) >>= _) _ _ s
    refine wpAny_bind (wpAny_seqItems hS rfl ?_)
    show wpAny _ X.A.in1 (tryCatch (pyNext (.ref a)) _ >>= _) _ _ s
    refine wpAny_bind (wpAny_tryCatch (gen_next R hd hroom hks C (by omega) (fun hlt => by omega) fun hi s' ho _ => ?_))
    have e : preSum (fun j => ns.getD j 0) i = ns.sum := by rw [preSum_take ns i (by omega), List.take_of_length_le (by omega)]
    rw [e]
    exact wpAny_pure (hR s' tA ho)
  | succ k ih =>
    intro i s tA cc st hst2 hk C hS hR
    have hlt : i < ns.length := by omega
    refine codeAny_builtin F.entry_sum_loop ?_
    rw [Around.under_plainId F.plain_sum_loop _]
    show wpAny _ X.A.in1 (seqItems? (.ref L) >>= _) _ _ s
    refine wpAny_bind (wpAny_seqItems hS rfl ?_)
    show wpAny _ X.A.in1 (tryCatch (pyNext (.ref a)) _ >>= _) _ _ s
    refine wpAny_bind (wpAny_tryCatch (gen_next R hd hroom hks C (by omega) (fun hl v s' x d S2 ed rv rp C' hkept ho => ?_) fun hi => by omega))
    have e : d = .int (ns.getD i 0) := by
      rw [hv, List.getElem?_map, List.getElem?_eq_getElem hlt] at ed
      rw [← Option.some.inj ed]
      simp [hlt, List.getD]
    subst e
    cases rp
    obtain ⟨t, rfl⟩ := rv
    have hS' := hkept L (List.mem_singleton.mpr rfl) _ hS
    rcases hst2 with rfl | rfl
    · show wpAny _ X.A.in1 (if (_ : Bool) = true then (mkInt (preSum (fun j => ns.getD j 0) i + ns.getD i 0) >>= _) else _) _ _ _
      split
      · refine wpAny_bind (wpAny_mkInt ?_)
        show wpAny _ X.A.in1 (updateSeq L (fun _ => #[.int (preSum (fun j => ns.getD j 0) i + ns.getD i 0) s'.toks]) >>= _) _ _ _
        refine wpAny_bind ?_
        have hS₂ := Heap.get?_update_self (Obj.mapSeq fun _ => #[Value.int (preSum (fun j => ns.getD j 0) i + ns.getD i 0) s'.toks]) hS' rfl
        exact wpAny_updateSeq hS' rfl (wpAny_pure ⟨plainId_quiet F.plain_sum_loop _, ih (i + 1) _ s'.toks _ 0 (.inl rfl) (by omega) (CRdy.touch R hL C' rfl rfl (fun b o hb e => other hb e) ⟨_, hS₂, fun v z => by cases z⟩) hS₂ hR⟩)
      · refine wpAny_bind (wpAny_rule ?_)
        refine wpAny_bind (wpAny_attempt (wpAny_holding (wpAny_add_int ?_)))
        show wpAny _ X.A.in1 (updateSeq L (fun _ => #[.int (preSum (fun j => ns.getD j 0) i + ns.getD i 0) s'.toks]) >>= _) _ _ _
        refine wpAny_bind (wpAny_updateSeq hS' rfl ?_)
        have hS₂ := Heap.get?_update_self (Obj.mapSeq fun _ => #[Value.int (preSum (fun j => ns.getD j 0) i + ns.getD i 0) s'.toks]) hS' rfl
        refine wpAny_bind (wpAny_letGo ?_)
        have hS₃ := Heap.get?_update_self (Obj.mapSeq fun _ => #[Value.int (preSum (fun j => ns.getD j 0) i + ns.getD i 0) s'.toks]) hS₂ rfl
        exact wpAny_bind (wpAny_updateSeq hS₂ rfl (wpAny_pure ⟨plainId_quiet F.plain_sum_loop _, ih (i + 1) _ s'.toks _ 2 (.inr rfl) (by omega) (CRdy.touch R hL C' rfl rfl (fun b o hb e => other hb (other hb e)) ⟨_, hS₃, fun v z => by cases z⟩) hS₃ hR⟩))
    · show wpAny _ X.A.in1 ((holding [Value.int (ns.getD i 0) t] (binaryOp .Add (.int (preSum (fun j => ns.getD j 0) i) tA) (.int (ns.getD i 0) t))).attempt >>= _) _ _ _
      refine wpAny_bind (wpAny_attempt (wpAny_holding (wpAny_add_int ?_)))
      show wpAny _ X.A.in1 (updateSeq L (fun _ => #[.int (preSum (fun j => ns.getD j 0) i + ns.getD i 0) s'.toks]) >>= _) _ _ _
      refine wpAny_bind (wpAny_updateSeq hS' rfl ?_)
      have hS₂ := Heap.get?_update_self (Obj.mapSeq fun _ => #[Value.int (preSum (fun j => ns.getD j 0) i + ns.getD i 0) s'.toks]) hS' rfl
      refine wpAny_bind (wpAny_letGo ?_)
      have hS₃ := Heap.get?_update_self (Obj.mapSeq fun _ => #[Value.int (preSum (fun j => ns.getD j 0) i + ns.getD i 0) s'.toks]) hS₂ rfl
      exact wpAny_bind (wpAny_updateSeq hS₂ rfl (wpAny_pure ⟨plainId_quiet F.plain_sum_loop _, ih (i + 1) _ s'.toks _ 2 (.inr rfl) (by omega) (CRdy.touch R hL C' rfl rfl (fun b o hb e => other hb (other hb e)) ⟨_, hS₃, fun v z => by cases z⟩) hS₃ hR⟩))
end
end Gd

set_option maxHeartbeats 2000000
/-! GdM: all(..), any(..), sum(..) of a generator expression, as expressions. -/
namespace Gd
open PySem PySem.Spec PyProof.Rows L2 GenW
def boolsOf : List D → Option (List Bool)
  | [] => some []
  | .bool b :: r => (boolsOf r).map fun bs => b :: bs
  | _ => none
theorem boolsOf_map : ∀ {ds : List D} {bs : List Bool}, boolsOf ds = some bs → ds = bs.map PyData.bool
  | [], bs, h => by cases h; rfl
  | .bool b :: r, bs, h => by
    obtain ⟨cs, e, rfl⟩ := Option.map_eq_some_iff.mp (show (boolsOf r).map (fun bs => b :: bs) = some bs from h)
    rw [boolsOf_map e]; rfl
  | .none :: _, bs, h => by cases h
  | .int _ :: _, bs, h => by cases h
  | .str _ :: _, bs, h => by cases h
  | .list _ :: _, bs, h => by cases h
  | .tuple _ :: _, bs, h => by cases h
  | .dict _ :: _, bs, h => by cases h
def dall (vs : List Nat) (f : Sl → Option (List D)) (t : Tg) (a : Sl → Option D) : Sl → Option D := fun δ => (gvals vs f t a δ).bind fun ys => (boolsOf ys).map fun bs => .bool (bs.all id)
def dany (vs : List Nat) (f : Sl → Option (List D)) (t : Tg) (a : Sl → Option D) : Sl → Option D := fun δ => (gvals vs f t a δ).bind fun ys => (boolsOf ys).map fun bs => .bool (bs.any id)
def dsum (vs : List Nat) (f : Sl → Option (List D)) (t : Tg) (a : Sl → Option D) : Sl → Option D := fun δ => (gvals vs f t a δ).bind fun ys => (intsOf ys).map fun ns => .int ns.sum
section
variable {X : Cx} {T : List Addr} {scope : Scope} {own : List (Str × Nat)} {is : List Nat} {elt tg iter : Expr} {pos p gpos : Pos} {t : Tg} {f : Sl → Option (List D)} {ga : Sl → Option D} {k : Nat} {c P : Addr}
theorem pd_all (hr : Room (k + 3) X.A) (TB : GxR.TabB X.base X.mg c P) (hP : P ∈ T) (hcode : X.env.code = .ref c) (hc : X.calm = true) (hN : X.N.Nodup) (hgl : Gl X "all") (hm : X.mg "all" = none) (ok : BlkOk X.N X.env.scope scope own)
    (hcell : ∀ y ∈ scope.names, y.2 ≠ .cell) (hdot : scope.names.lookup (".0" : Str) = some NameKind.local) (hco : scope.isCoroutine = false)
    (hi : PId T X tg iter f)
    (hg : ∀ (s : Shared) (H : Hp) (A : Around) (C : Addr) (code : Value) (fp : List Addr) (pn : List (Addr × Obj)), PGd T (gxCx X s H A (gxEnv X scope C code) fp pn) tg is t)
    (he : ∀ (s : Shared) (H : Hp) (A : Around) (C : Addr) (code : Value) (fp : List Addr) (pn : List (Addr × Obj)), Room k (A.deeper (gxEnv X scope C code)) → PD T (gxCx X s H A (gxEnv X scope C code) fp pn) elt ga)
    (hv : ∀ i ∈ is, i ∈ own.map (·.2) := by decide) (hs : ∀ x, genFold iter X.env x = pure x := by intro _; rfl)
    (hst : starEach [.GeneratorExp elt [⟨tg, iter, [], 0⟩] scope gpos] X.env = (false, eval (.GeneratorExp elt [⟨tg, iter, [], 0⟩] scope gpos) X.env) :: starEach [] X.env := by rfl) :
    PD T X (.Call (.Name "all" p) [.GeneratorExp elt [⟨tg, iter, [], 0⟩] scope gpos] [] pos) (dall (own.map (·.2)) f t ga) := by
  refine ⟨fun pins s σ H Q I h => ?_⟩
  obtain ⟨B, S, δ, d, kB, ed, q⟩ := h
  obtain ⟨ys, e1, ed⟩ := Option.bind_eq_some_iff.mp ed
  obtain ⟨bs, e2, rfl⟩ := Option.map_eq_some_iff.mp ed
  have ev := boolsOf_map e2
  refine wpAny_Call_Name_kw (ld_blt I hgl hm (u := .builtin "all") rfl ?_)
  refine PyProof.Rows.callWith_builtin1 ?_ hst (by rfl)
  rw [hst]
  show wpAny _ _ (spliced ((false, eval (.GeneratorExp elt [⟨tg, iter, [], 0⟩] scope gpos) X.env) :: backTo pos (starEach [] X.env))) _ _ s
  refine Calls.spliced_cons (gen_eval hr TB hP hcode hc hN ok hcell hdot hco hi hg he hv hs I kB e1 fun a S1 H1 s5 s0 cenv fp tn go g cc st R => ?_)
  refine Calls.spliced_nil ?_
  refine call_function_tree F.kind_all F.plain_all F.entry_all (F.args_all1 _) ?_
  unfold Builtin.«all»
  refine wpAny_bind (m := oneArg "all" _) (wpAny_pure ?_)
  have C := CRdy.start (ks := []) R (fun b hb => by cases hb) rfl rfl (fun _ _ e => e) (fun b hb => by cases hb)
  have ag : s5.heap.get? a = some go := by
    obtain ⟨_, _, _, _, _, _, I', _⟩ := C
    exact (I'.pin (a, go) (by simp)).1
  refine wpAny_bind (wpAny_pyIter_gen (R.gen _ ag) ?_)
  refine wpAny_pure ⟨plainId_quiet F.plain_all_loop _, gall_loop R hr.hd (by have := hr.dp; omega) ev ys.length 0 s5 (by omega) C fun s' ⟨S2, H2, st2, I2⟩ => ?_⟩
  exact ⟨.bl _, H2, I2, rfl, q _ S2 H2 (Step.trans kB.okk st st2) (.bl _)⟩
theorem pd_any (hr : Room (k + 3) X.A) (TB : GxR.TabB X.base X.mg c P) (hP : P ∈ T) (hcode : X.env.code = .ref c) (hc : X.calm = true) (hN : X.N.Nodup) (hgl : Gl X "any") (hm : X.mg "any" = none) (ok : BlkOk X.N X.env.scope scope own)
    (hcell : ∀ y ∈ scope.names, y.2 ≠ .cell) (hdot : scope.names.lookup (".0" : Str) = some NameKind.local) (hco : scope.isCoroutine = false)
    (hi : PId T X tg iter f)
    (hg : ∀ (s : Shared) (H : Hp) (A : Around) (C : Addr) (code : Value) (fp : List Addr) (pn : List (Addr × Obj)), PGd T (gxCx X s H A (gxEnv X scope C code) fp pn) tg is t)
    (he : ∀ (s : Shared) (H : Hp) (A : Around) (C : Addr) (code : Value) (fp : List Addr) (pn : List (Addr × Obj)), Room k (A.deeper (gxEnv X scope C code)) → PD T (gxCx X s H A (gxEnv X scope C code) fp pn) elt ga)
    (hv : ∀ i ∈ is, i ∈ own.map (·.2) := by decide) (hs : ∀ x, genFold iter X.env x = pure x := by intro _; rfl)
    (hst : starEach [.GeneratorExp elt [⟨tg, iter, [], 0⟩] scope gpos] X.env = (false, eval (.GeneratorExp elt [⟨tg, iter, [], 0⟩] scope gpos) X.env) :: starEach [] X.env := by rfl) :
    PD T X (.Call (.Name "any" p) [.GeneratorExp elt [⟨tg, iter, [], 0⟩] scope gpos] [] pos) (dany (own.map (·.2)) f t ga) := by
  refine ⟨fun pins s σ H Q I h => ?_⟩
  obtain ⟨B, S, δ, d, kB, ed, q⟩ := h
  obtain ⟨ys, e1, ed⟩ := Option.bind_eq_some_iff.mp ed
  obtain ⟨bs, e2, rfl⟩ := Option.map_eq_some_iff.mp ed
  have ev := boolsOf_map e2
  refine wpAny_Call_Name_kw (ld_blt I hgl hm (u := .builtin "any") rfl ?_)
  refine PyProof.Rows.callWith_builtin1 ?_ hst (by rfl)
  rw [hst]
  show wpAny _ _ (spliced ((false, eval (.GeneratorExp elt [⟨tg, iter, [], 0⟩] scope gpos) X.env) :: backTo pos (starEach [] X.env))) _ _ s
  refine Calls.spliced_cons (gen_eval hr TB hP hcode hc hN ok hcell hdot hco hi hg he hv hs I kB e1 fun a S1 H1 s5 s0 cenv fp tn go g cc st R => ?_)
  refine Calls.spliced_nil ?_
  refine call_function_tree F.kind_any F.plain_any F.entry_any (F.args_any1 _) ?_
  unfold Builtin.«any»
  refine wpAny_bind (m := oneArg "any" _) (wpAny_pure ?_)
  have C := CRdy.start (ks := []) R (fun b hb => by cases hb) rfl rfl (fun _ _ e => e) (fun b hb => by cases hb)
  have ag : s5.heap.get? a = some go := by
    obtain ⟨_, _, _, _, _, _, I', _⟩ := C
    exact (I'.pin (a, go) (by simp)).1
  refine wpAny_bind (wpAny_pyIter_gen (R.gen _ ag) ?_)
  refine wpAny_pure ⟨plainId_quiet F.plain_any_loop _, gany_loop R hr.hd (by have := hr.dp; omega) ev ys.length 0 s5 (by omega) C fun s' ⟨S2, H2, st2, I2⟩ => ?_⟩
  exact ⟨.bl _, H2, I2, rfl, q _ S2 H2 (Step.trans kB.okk st st2) (.bl _)⟩
theorem pd_sumG (hr : Room (k + 3) X.A) (TB : GxR.TabB X.base X.mg c P) (hP : P ∈ T) (hcode : X.env.code = .ref c) (hc : X.calm = true) (hN : X.N.Nodup) (hgl : Gl X "sum") (hm : X.mg "sum" = none) (ok : BlkOk X.N X.env.scope scope own)
    (hcell : ∀ y ∈ scope.names, y.2 ≠ .cell) (hdot : scope.names.lookup (".0" : Str) = some NameKind.local) (hco : scope.isCoroutine = false)
    (hi : PId T X tg iter f)
    (hg : ∀ (s : Shared) (H : Hp) (A : Around) (C : Addr) (code : Value) (fp : List Addr) (pn : List (Addr × Obj)), PGd T (gxCx X s H A (gxEnv X scope C code) fp pn) tg is t)
    (he : ∀ (s : Shared) (H : Hp) (A : Around) (C : Addr) (code : Value) (fp : List Addr) (pn : List (Addr × Obj)), Room k (A.deeper (gxEnv X scope C code)) → PD T (gxCx X s H A (gxEnv X scope C code) fp pn) elt ga)
    (hv : ∀ i ∈ is, i ∈ own.map (·.2) := by decide) (hs : ∀ x, genFold iter X.env x = pure x := by intro _; rfl)
    (hst : starEach [.GeneratorExp elt [⟨tg, iter, [], 0⟩] scope gpos] X.env = (false, eval (.GeneratorExp elt [⟨tg, iter, [], 0⟩] scope gpos) X.env) :: starEach [] X.env := by rfl) :
    PD T X (.Call (.Name "sum" p) [.GeneratorExp elt [⟨tg, iter, [], 0⟩] scope gpos] [] pos) (dsum (own.map (·.2)) f t ga) := by
  refine ⟨fun pins s σ H Q I h => ?_⟩
  obtain ⟨B, S, δ, d, kB, ed, q⟩ := h
  obtain ⟨ys, e1, ed⟩ := Option.bind_eq_some_iff.mp ed
  obtain ⟨ns, e2, rfl⟩ := Option.map_eq_some_iff.mp ed
  have ev := intsOf_map e2
  refine wpAny_Call_Name_kw (ld_blt I hgl hm (u := .builtin "sum") rfl ?_)
  refine PyProof.Rows.callWith_builtin1 ?_ hst (by rfl)
  rw [hst]
  show wpAny _ _ (spliced ((false, eval (.GeneratorExp elt [⟨tg, iter, [], 0⟩] scope gpos) X.env) :: backTo pos (starEach [] X.env))) _ _ s
  refine Calls.spliced_cons (gen_eval hr TB hP hcode hc hN ok hcell hdot hco hi hg he hv hs I kB e1 fun a S1 H1 s5 s0 cenv fp tn go g cc st R => ?_)
  refine Calls.spliced_nil ?_
  refine call_function_tree F.kind_sum F.plain_sum F.entry_sum (F.args_sum1 _) ?_
  unfold Builtin.«sum»
  simp only [List.length_cons, List.length_nil]
  rw [if_neg (by decide)]
  refine wpAny_bind (wpAny_of_eq (show Builtin.Builtins.bindParams "sum" ["start"] 0 { } = pure [none] from rfl) ?_)
  obtain ⟨S2, H2, st2, I5, tn5, nf5⟩ := R.inn
  have I5 : Inv (gxCx X s0 H1 X.A.in1.in1 cenv fp [(a, go)]) [] (wipe σ (own.map (·.2))) H2 s5 := I5
  have ag : s5.heap.get? a = some go := (I5.pin (a, go) (by simp)).1
  have lt5 : a < s5.heap.objs.size := Heap.lt_size ag
  refine wpAny_bind (wpAny_pyIter_gen (R.gen _ ag) ?_)
  refine wpAny_bind (wpAny_mkInt ?_)
  refine wpAny_bind (wpAny_pure ?_)
  simp only [List.forIn_cons, List.forIn_nil]
  refine wpAny_bind (wpAny_bind (wpAny_bind (wpAny_isInstance (T := "int") (b := false) (typeIs_int _ _ _) PySem.sub_int_str ?_)))
  simp only [Bool.false_eq_true, if_false]
  refine wpAny_pure (wpAny_bind (wpAny_bind (wpAny_isInstance (T := "int") (b := false) (typeIs_int _ _ _) PySem.sub_int_bytes ?_)))
  simp only [Bool.false_eq_true, if_false]
  refine wpAny_pure (wpAny_bind (wpAny_bind (wpAny_isInstance (T := "int") (b := false) (typeIs_int _ _ _) PySem.sub_int_bytearray ?_)))
  simp only [Bool.false_eq_true, if_false]
  refine wpAny_pure (wpAny_pure ?_)
  refine wpAny_bind (wpAny_newObj_type ?_)
  obtain ⟨y1, y2, y3, y4, y5⟩ := R.young
  have hLfp : ∀ b ∈ [s5.heap.objs.size], b ∉ fp := fun b hb z => by
    rw [List.mem_singleton.mp hb] at z
    have h1 := y5 _ z
    exact absurd (Nat.lt_trans h1 (Nat.lt_trans y1 lt5)) (Nat.lt_irrefl _)
  have hL : KOk X a s0 cenv fp s5.heap.objs.size := by
    refine ⟨Nat.ne_of_gt I5.lt, I5.nofs (Nat.le_refl _), Nat.le_of_lt (Nat.lt_trans y1 lt5), fun x c e z => ?_, Nat.ne_of_gt lt5, hLfp _ (List.mem_singleton.mpr rfl)⟩
    obtain ⟨v, hcv⟩ := I5.cell x c e
    have := hcv.lt
    rw [z] at this
    exact absurd this (Nat.lt_irrefl _)
  have hS : (s5.heap.push { cls := .type "list", data := .seq #[.int 0 s5.toks] }).get? s5.heap.objs.size = some { cls := .type "list", data := .seq #[.int 0 s5.toks] } := Heap.get?_push_size _ rfl
  have C := CRdy.start (ks := [s5.heap.objs.size]) (s := { s5 with heap := s5.heap.push { cls := .type "list", data := .seq #[.int 0 s5.toks] }, toks := s5.toks + 1 }) R hLfp rfl rfl (fun _ _ e => Heap.get?_push_of_some _ e)
    (fun b hb => by
      rw [List.mem_singleton.mp hb]
      refine ⟨?_, Nat.le_refl _, _, hS, fun v z => by cases z⟩
      cases z : s5.heap.get? s5.heap.objs.size with
      | none => rfl
      | some o => exact absurd (Heap.lt_size z) (Nat.lt_irrefl _))
  refine wpAny_pure ⟨plainId_quiet F.plain_sum_loop _, gsum_loop (ns := ns) R hr.hd (by have := hr.dp; omega) ev hL ys.length 0 _ s5.toks 0 0 (.inl rfl) (by omega) C hS fun s' t' ⟨S2, H2, st2, I2⟩ => ?_⟩
  exact ⟨.int _, H2, I2, ⟨t', rfl⟩, q _ S2 H2 (Step.trans kB.okk st st2) (.int _)⟩
end
end Gd

set_option maxHeartbeats 2000000
/-! GdN: defs and their calls. -/
namespace Gd
open PySem PySem.Spec PyProof.Rows L2
/-- what a def answers -/
def spD (P : Program) (w : World) (T : List Addr) (ar : Nat) (F : List D → Option D) : Sp := fun vs H Q _ => vs.length = ar ∧ ∃ S ds d, Okk T S H ∧ RpL P w S vs ds ∧ F ds = some d ∧ ∀ v S' H', Step T S H S' H' → Rp P w S' v d → Q v H'
/-- a def that answers with a new object -/
def spO (P : Program) (w : World) (T : List Addr) (ar : Nat) (F : List D → Option SD) : Sp := fun vs H Q _ => vs.length = ar ∧ ∃ S ds sd, Okk T S H ∧ RpL P w S vs ds ∧ F ds = some sd ∧
  ∀ a o S' H', Step T S H S' H' → H a = none → S' a = none → H' a = some o → OwR P w S' a sd o → Q (.ref a) H'
structure Cal (P : Program) (w : World) (K : PySem.W.Frag) (mg : Str → Option Value) (base : Heap) (k : Nat) (x : Str) (sp : Sp) : Prop where
  ex : ∃ (f : Addr) (fd : FuncData) (ps : List Str), FnOk P w K mg base CX0 k f fd ps sp ∧ mg x = some (.ref f) ∧ PySem.W.keepIn K (.ref f) = true ∧ Binds K fd ps []
/-- a def of the module, its code object cdv -/
structure Df (K : PySem.W.Frag) (mg : Str → Option Value) (x : Str) (st : Stmt) (cdv : Value) (f : Addr) (fd : FuncData) : Prop where
  ex : ∃ (oc : Value) (od : Option Addr) (kV doc pm : Value) (an : Option Addr) (ct : Value) (osl : Array (Option Value)),
    fd = PySem.W.fnOf x x (defArgs st) (defBody st) (defScope st) .none kV doc pm an cdv ct ∧ K.lookup f = some ⟨oc, od, .func fd, osl⟩ ∧ PySem.W.codeIn K cdv x = true
  mgf : mg x = some (.ref f)
  kp : PySem.W.keepIn K (.ref f) = true
theorem Df.binds {K : PySem.W.Frag} {mg : Str → Option Value} {x : Str} {st : Stmt} {cdv : Value} {f : Addr} {fd : FuncData} {ps : List Str} (F : Df K mg x st cdv f fd)
    (h : ∀ (kV doc pm : Value) (an : Option Addr) (cdv ct : Value) (us : List Value), us.length = ps.length → bindArgs (PySem.W.fnOf x x (defArgs st) (defBody st) (defScope st) .none kV doc pm an cdv ct) ⟨us, []⟩ = pure (ps.zip us)) : Binds K fd ps [] := by
  obtain ⟨oc, od, kV, doc, pm, an, ct, osl, rfl, lk, hcd⟩ := F.ex
  exact .all (h kV doc pm an cdv ct)
def startD (n : Nat) (ds : List D) : Sl := ds.map (fun d => some (.sh d)) ++ List.replicate (n - ds.length) none
def ansD (n : Nat) (g : Sl → Option Out) : List D → Option D := fun ds => (g (startD n ds)).bind fun
  | .nx _ => some .none
  | .rt d => some d
  | .rf _ => none
def ansO (n : Nat) (g : Sl → Option Out) : List D → Option SD := fun ds => (g (startD n ds)).bind fun
  | .rf sd => some sd
  | _ => none
section
variable {P : Program} {w : World} {K : PySem.W.Frag} {mg : Str → Option Value} {base : Heap} {T : List Addr}
theorem start_ok {S H : Hp} {vs : List V} {ds : List D} {N : List Str} (k : Okk T S H) (r : RpL P w S vs ds) : SOk P w T (S, H) S (L2.start N vs) H (startD N.length ds) := by
  have hl := r.length
  refine ⟨k, k.refl, ?_, fun i sd e => ?_, fun i sd a e m q => ?_, fun i j sd sd' a e m e' m' q q' => ?_⟩
  · unfold L2.start startD
    rw [List.length_append, List.length_append, List.length_map, List.length_map, List.length_replicate, List.length_replicate, hl]
  · have q : ∃ d, sd = .sh d ∧ ds[i]? = some d := by
      unfold startD at e
      by_cases hi : i < ds.length
      · rw [List.getElem?_append_left (by simpa using hi), List.getElem?_map] at e
        obtain ⟨d, e1, e2⟩ := Option.map_eq_some_iff.mp e
        exact ⟨d, (Option.some.inj e2).symm, e1⟩
      · rw [List.getElem?_append_right (by simpa using hi), List.getElem?_replicate] at e
        split at e <;> cases e
    obtain ⟨d, rfl, ed⟩ := q
    obtain ⟨v, ev, rv⟩ := r.get' ed
    refine ⟨v, ?_, rv⟩
    have hi : i < vs.length := (List.getElem?_eq_some_iff.mp ev).1
    unfold L2.start
    rw [List.getElem?_append_left (by simpa using hi), List.getElem?_map, ev]
    rfl
  · exfalso
    unfold startD at e
    by_cases hi : i < ds.length
    · rw [List.getElem?_append_left (by simpa using hi), List.getElem?_map] at e
      obtain ⟨d, e1, e2⟩ := Option.map_eq_some_iff.mp e
      cases e2; cases m
    · rw [List.getElem?_append_right (by simpa using hi), List.getElem?_replicate] at e
      split at e <;> cases e
  · exfalso
    unfold startD at e
    by_cases hi : i < ds.length
    · rw [List.getElem?_append_left (by simpa using hi), List.getElem?_map] at e
      obtain ⟨d, e1, e2⟩ := Option.map_eq_some_iff.mp e
      cases e2; cases m
    · rw [List.getElem?_append_right (by simpa using hi), List.getElem?_replicate] at e
      split at e <;> cases e
variable {x : Str} {st : Stmt} {cdv : Value} {f : Addr} {fd : FuncData} {N ps : List Str} {k : Nat} {g : Sl → Option Out}
/-- the context of a def's body -/
abbrev bodyCx (P : Program) (w : World) (K : PySem.W.Frag) (mg : Str → Option Value) (base : Heap) (N : List Str) (x : Str) (st : Stmt) (f : Addr) (cdv : Value) (A : Around) (outer : List Env) (s : Shared) (H : Hp) (E : XK) : Cx := (cxOf CX0 P w K mg base N x (defScope st) f cdv A outer s H E).nox
theorem cal_D (F : Df K mg x st cdv f fd) (sc : FnScope N ps (defScope st)) (hb : Binds K fd ps [])
    (body : ∀ (A : Around) (outer : List Env) (s : Shared) (H : Hp) (E : XK), Room k (A.deeper (envOfC x (defScope st) s.heap.objs.size f cdv)) → PSsd T (bodyCx P w K mg base N x st f cdv A outer s H E) (defBody st) g) :
    Cal P w K mg base (k + 1) x (spD P w T ps.length (ansD N.length g)) := by
  refine ⟨f, fd, ps, ?_, F.mgf, F.kp, hb⟩
  obtain ⟨oc, od, kV, doc, pm, an, ct, osl, rfl, lk, hcd⟩ := F.ex
  refine fn_of lk hcd sc (fun vs H Q E h => h.1) fun A outer s H vs Q E hr hsp => ?_
  refine ⟨_, (body A outer s H E hr).nox, ?_⟩
  obtain ⟨_, S, ds, d, kk, r, e, q⟩ := hsp
  obtain ⟨o, e1, e2⟩ := Option.bind_eq_some_iff.mp e
  refine ⟨(S, H), S, startD N.length ds, o, start_ok kk r, e1, ?_⟩
  cases o with
  | nx δ => cases e2; exact fun S' σ' H' k' _ => q .non S' H' k'.base .non
  | rt d => cases e2; exact q
  | rf sd => cases e2
theorem cal_O (F : Df K mg x st cdv f fd) (sc : FnScope N ps (defScope st)) (hb : Binds K fd ps [])
    (body : ∀ (A : Around) (outer : List Env) (s : Shared) (H : Hp) (E : XK), Room k (A.deeper (envOfC x (defScope st) s.heap.objs.size f cdv)) → PSsd T (bodyCx P w K mg base N x st f cdv A outer s H E) (defBody st) g) :
    Cal P w K mg base (k + 1) x (spO P w T ps.length (ansO N.length g)) := by
  refine ⟨f, fd, ps, ?_, F.mgf, F.kp, hb⟩
  obtain ⟨oc, od, kV, doc, pm, an, ct, osl, rfl, lk, hcd⟩ := F.ex
  refine fn_of lk hcd sc (fun vs H Q E h => h.1) fun A outer s H vs Q E hr hsp => ?_
  refine ⟨_, (body A outer s H E hr).nox, ?_⟩
  obtain ⟨_, S, ds, d, kk, r, e, q⟩ := hsp
  obtain ⟨o, e1, e2⟩ := Option.bind_eq_some_iff.mp e
  refine ⟨(S, H), S, startD N.length ds, o, start_ok kk r, e1, ?_⟩
  cases o with
  | rf sd => cases e2; exact q
  | nx δ => cases e2
  | rt d => cases e2
end
section
variable {X : Cx} {T : List Addr} {k j ar : Nat} {x : Str} {p pos : Pos} {e : Expr} {es : List Expr} {f : Sl → Option (List D)} {F : List D → Option D} {G : List D → Option SD}
def dfn (ar : Nat) (F : List D → Option D) (f : Sl → Option (List D)) : Sl → Option D := fun δ => (f δ).bind fun ds => if ds.length = ar then F ds else none
def ffn (ar : Nat) (G : List D → Option SD) (f : Sl → Option (List D)) : Sl → Option SD := fun δ => (f δ).bind fun ds => if ds.length = ar then G ds else none
/-- a call of a def -/
theorem pd_fn (c : Cal X.prog X.w X.K X.mg X.base k x (spD X.prog X.w T ar F)) (hr : Room j X.A) (hk : k ≤ j) (hg : Gl X x) (ha : PAd T X (e :: es) f) (hl : (e :: es).length = ar := by rfl)
    (hdb : (x == ("__debug__" : Str)) = false := by decide) (he : starEach (e :: es) X.env = (false, eval e X.env) :: starEach es X.env := by rfl) (hpl : (backTo pos (starEach es X.env)).any (·.1) = false := by rfl) :
    PD T X (.Call (.Name x p) (e :: es) [] pos) (dfn ar F f) := by
  obtain ⟨ff, fd, ps, FF, hm, kp, b⟩ := c.ex
  refine PE_imp (pe_call FF (hr.mono hk) hg hm kp b .nil pass0 ha hdb he hpl) fun σ H Q q => ?_
  obtain ⟨B, S, δ, d, kk, ed, q⟩ := q
  obtain ⟨ds, e1, e2⟩ := Option.bind_eq_some_iff.mp ed
  split at e2
  · rename_i hz
    refine ⟨B, S, δ, ds, kk, e1, fun vs S1 H1 s1 r1 => ?_⟩
    show spD X.prog X.w T ar F (vs ++ []) H1 Q E0
    rw [List.append_nil]
    exact ⟨by rw [r1.length]; exact hz, S1, ds, d, (kk.step s1).okk, r1, e2, fun v S' H' s r => q v S' H' (Step.trans kk.okk s1 s) r⟩
  · cases e2
theorem pf_fn (c : Cal X.prog X.w X.K X.mg X.base k x (spO X.prog X.w T ar G)) (hr : Room j X.A) (hk : k ≤ j) (hg : Gl X x) (ha : PAd T X (e :: es) f) (hl : (e :: es).length = ar := by rfl)
    (hdb : (x == ("__debug__" : Str)) = false := by decide) (he : starEach (e :: es) X.env = (false, eval e X.env) :: starEach es X.env := by rfl) (hpl : (backTo pos (starEach es X.env)).any (·.1) = false := by rfl) :
    PF T X (.Call (.Name x p) (e :: es) [] pos) (ffn ar G f) := by
  obtain ⟨ff, fd, ps, FF, hm, kp, b⟩ := c.ex
  refine PE_imp (pe_call FF (hr.mono hk) hg hm kp b .nil pass0 ha hdb he hpl) fun σ H Q q => ?_
  obtain ⟨B, S, δ, d, kk, ed, q⟩ := q
  obtain ⟨ds, e1, e2⟩ := Option.bind_eq_some_iff.mp ed
  split at e2
  · rename_i hz
    refine ⟨B, S, δ, ds, kk, e1, fun vs S1 H1 s1 r1 => ?_⟩
    show spO X.prog X.w T ar G (vs ++ []) H1 Q E0
    rw [List.append_nil]
    refine ⟨by rw [r1.length]; exact hz, S1, ds, d, (kk.step s1).okk, r1, e2, fun a o S' H' s n nS ea r => q a o S' H' (Step.trans kk.okk s1 s) ?_ nS ea r⟩
    cases e : H a with
    | none => rfl
    | some u => exact absurd n (s1.dom kk.okk (by rw [e]; simp))
  · cases e2
end
end Gd

set_option maxHeartbeats 4000000
/-! GdS: sorted(set(list of ints)). -/
namespace Gd
open PySem PySem.Spec PyProof.Rows L2
section
variable {P : Program} {w : World} {A : Around} {E : Value → Shared → Prop} {s : Shared}
set_option maxRecDepth 100000 in
set_option maxHeartbeats 3200000 in
theorem set_of_list {l : Addr} {items : Array Value} (ns : List Int) {Q : Value → Shared → Prop} (hh : A.handled = none) (hl : s.heap.IsList l items) (hit : IntsAre items.toList ns) (hb : ns.length + 1 < scanBound)
    (h : ∀ (h' : Heap) (tk c : Nat), SetR w h' s.heap.objs.size (fun j => decide (j ∈ ns)) c → c ≤ ns.length → (∀ b o, s.heap.get? b = some o → h'.get? b = some o) → Q (.ref s.heap.objs.size) { s with heap := h', toks := tk }) :
    wpAny (model P w) A (call (.type "set") [.ref l]) Q E s := by
  have hisz : items.size = ns.length := by
    have q := IntsAre.length hit
    rw [Array.length_toList] at q
    exact q
  obtain ⟨c, tl, hmro⟩ := F.called_set.mro
  have hmade := F.called_set.made
  have hsub := F.called_set.sub
  refine wpAny_call (codeAny_of_tree ?_)
  show wpAny _ _ (callAny (.type "set") _) _ _ _
  refine wpAny_pure ⟨Code.quiet_builtin _ (by decide +kernel), codeAny_builtin F.entry_type_call ?_⟩
  rw [Around.under_plain (weight_type_call_type "set" [.ref l] []) rfl]
  have h1 := F.called_set.notType
  have h2 := F.called_set.canCreate
  have hct := F.typeCall_set_1 (.ref l)
  repeat (any_goals (first | assumption | wp_step))

  refine codeAny_mono (code_set_led1 (.ref l) (E := E) (Q₁ := fun obj s₁ => obj = .ref s.heap.objs.size ∧ s₁ = { s with heap := s.heap.push { cls := .type "set", dict := none, data := .set #[] 0 (.fresh 0 0 (!w.params.followText "set-order")) } }) ⟨rfl, rfl⟩) fun r s₁ hr => ?_
  cases r with
  | error e => exact hr
  | ok fl =>
    cases fl with
    | ret obj =>
      obtain ⟨rfl, rfl⟩ := hr
      have hS : (s.heap.push { cls := .type "set", dict := none, data := .set #[] 0 (.fresh 0 0 (!w.params.followText "set-order")) }).get? s.heap.objs.size = some { cls := .type "set", dict := none, data := .set #[] 0 (.fresh 0 0 (!w.params.followText "set-order")) } := Heap.get?_push_size _ rfl
      have hT : Shared.TypeIs { s with heap := s.heap.push { cls := .type "set", dict := none, data := .set #[] 0 (.fresh 0 0 (!w.params.followText "set-order")) } } (.ref s.heap.objs.size) "set" := ⟨_, hS, rfl⟩
      have hli := F.called_set.init.lookup
      have hbi := F.called_set.init.bind (.ref s.heap.objs.size)
      repeat (any_goals (first | assumption | wp_step))

      refine codeAny_mono (codeAny_call_builtin (R := wants (fun r s₂ => r = .none ∧ ∃ h' tk c, s₂ = { s with heap := h', toks := tk } ∧ SetR w h' s.heap.objs.size (fun j => decide (j ∈ ns)) c ∧ c ≤ ns.length ∧
          (∀ b o, s.heap.get? b = some o → h'.get? b = some o)) E) F.called_set.init.plain F.entry_set_init (check_set_init_1 hT ?_)) fun r₂ s₂ hr₂ => ?_
      · obtain ⟨ol, hol, hcl, nl, hdl⟩ := hl
        obtain ⟨ocls, odict, odata, oslots⟩ := ol
        simp only at hcl hdl
        subst hcl; subst hdl
        have hol' : (s.heap.push { cls := .type "set", dict := none, data := .set #[] 0 (.fresh 0 0 (!w.params.followText "set-order")) }).get? l = some { cls := .type "list", dict := odict, data := .seq items nl, slots := oslots } := Heap.get?_push_of_some _ hol
        have hsls := F.sub_list_set
        have hslf := F.sub_list_frozenset
        have hne : (Value.type "list" == Value.type "dict") = false := by decide
        have hl1 : (s.heap.push { cls := .type "set", dict := none, data := .set #[] 0 (.fresh 0 0 (!w.params.followText "set-order")) }).IsList l items := ⟨_, hol', rfl, nl, rfl⟩
        unfold Builtin.«set.__init__» noKeywords Builtin.Frozenset.updateFrom
        generalize hPI : pyIter = PI
        wp_walk
        subst hPI

        refine wpAny_pyIter_list hl1 ?_
        refine wpAny_bind (wpAny_runValue ?_)
        have hlS : l < s.heap.objs.size := Heap.lt_size hol
        have hh3 : A.in1.in1.in1.handled = none := by simp [hh]
        have hz1 : (s.heap.push { cls := .type "set", dict := none, data := .set #[] 0 (.fresh 0 0 (!w.params.followText "set-order")) }).objs.size = s.heap.objs.size + 1 := Heap.size_push ..
        have hneI : l ≠ (s.heap.push { cls := .type "set", dict := none, data := .set #[] 0 (.fresh 0 0 (!w.params.followText "set-order")) }).objs.size := by
          rw [Heap.size_push]; exact Nat.ne_of_lt (Nat.lt_succ_of_lt hlS)
        have hSf : s.heap.objs.size ∉ [(s.heap.push { cls := .type "set", dict := none, data := .set #[] 0 (.fresh 0 0 (!w.params.followText "set-order")) }).objs.size, l] := by
          rw [Heap.size_push]; simp only [List.mem_cons, List.mem_singleton, List.not_mem_nil, or_false, not_or]
          exact ⟨Nat.ne_of_lt (Nat.lt_succ_self _), Nat.ne_of_gt hlS⟩
        have hval : ∀ (i : Nat) (v : Value), items[i]? = some v → ∃ k t, ns[i]? = some k ∧ v = .int k t := fun i v hv => by
          have hi : i < ns.length := by rw [← hisz]; exact (Array.getElem?_eq_some_iff.mp hv).1
          obtain ⟨t, e⟩ := PyProof.Rows.IntsAre.int_at hit i v (by rw [Array.getElem?_toList]; exact hv)
          refine ⟨ns[i], t, List.getElem?_eq_getElem hi, ?_⟩
          rw [e, List.getD_eq_getElem?_getD, List.getElem?_eq_getElem hi] <;> rfl
        refine set_update_ints ((Walks.list hh3 _ l hneI items).toS) s.heap.objs.size
          hSf ns hisz hb hval (items.size - 0) 0 _ (by omega) (Nat.zero_le _)
          ⟨⟨_, Heap.get?_push_size _ rfl, rfl, rfl⟩, (hl1.push _)⟩ ?hS0 ?hR
        case hS0 =>
          have hget : ((s.heap.push { cls := .type "set", dict := none, data := .set #[] 0 (.fresh 0 0 (!w.params.followText "set-order")) }).push { cls := .type "list_iterator", data := .fields #[.ref l, .int 0 0] }).get? s.heap.objs.size
              = some { cls := .type "set", dict := none, data := .set #[] 0 (.fresh 0 0 (!w.params.followText "set-order")) } := Heap.get?_push_of_some _ hS
          exact ⟨0, Nat.le_refl 0, setR_new_at hget⟩
        case hR =>
          intro s' c' hm hc' hS'
          obtain ⟨h', g2, d', tk', os'⟩ := s'
          have eg : g2 = s.gens := hm.gens
          have ed : d' = s.drawn := hm.drawn
          have eo : os' = s.os := hm.os
          subst eg; subst ed; subst eo
          show wpAny _ _ _ _ _ _
          refine wpAny_pure ?_
          show wpAny _ _ (ret Value.none) _ _ _
          rw [hisz] at hc'
          refine wpAny_pure ⟨rfl, h', tk', c', rfl, hS', hc', fun b o e => ?_⟩
          have hb0 : b < s.heap.objs.size := Heap.lt_size e
          have hb1 : b ≠ s.heap.objs.size := Nat.ne_of_lt hb0
          have hb2 : b ≠ (s.heap.push { cls := .type "set", dict := none, data := .set #[] 0 (.fresh 0 0 (!w.params.followText "set-order")) }).objs.size := by
            rw [Heap.size_push]; exact Nat.ne_of_lt (Nat.lt_succ_of_lt hb0)
          exact hm.heap b o (by simp only [List.mem_cons, List.mem_singleton, List.not_mem_nil, or_false, not_or]; exact ⟨hb1, hb2⟩) (Heap.get?_push_of_some _ (Heap.get?_push_of_some _ e))

      · cases r₂ with
        | error e => exact hr₂
        | ok fl₂ =>
          cases fl₂ with
          | ret r =>
            obtain ⟨rfl, h', tk, c', rfl, hS', hc', hk'⟩ := hr₂
            repeat (any_goals (first | assumption | wp_step))
            exact h _ _ _ hS' hc' hk'
          | _ => exact hr₂.elim
    | _ => exact hr.elim

end
def sins (x : Int) : List Int → List Int
  | [] => [x]
  | y :: ys => if x < y then x :: y :: ys else if x = y then y :: ys else y :: sins x ys
def zset : List Int → List Int
  | [] => []
  | x :: xs => sins x (zset xs)
theorem mem_sins {x z : Int} : ∀ {l : List Int}, z ∈ sins x l ↔ z = x ∨ z ∈ l
  | [] => by simp [sins]
  | y :: ys => by
    unfold sins
    split
    · simp
    · split
      · rename_i h
        subst h
        constructor
        · exact fun h => .inr h
        · rintro (h | h)
          · subst h; simp
          · exact h
      · rw [List.mem_cons, mem_sins, List.mem_cons]
        constructor
        · rintro (h | h | h)
          · exact .inr (.inl h)
          · exact .inl h
          · exact .inr (.inr h)
        · rintro (h | h | h)
          · exact .inr (.inl h)
          · exact .inl h
          · exact .inr (.inr h)
theorem sins_pair {x : Int} : ∀ {l : List Int}, l.Pairwise (· < ·) → (sins x l).Pairwise (· < ·)
  | [], _ => List.pairwise_singleton ..
  | y :: ys, h => by
    obtain ⟨h1, h2⟩ := List.pairwise_cons.mp h
    unfold sins
    split
    · rename_i q
      refine List.pairwise_cons.mpr ⟨fun z hz => ?_, h⟩
      rcases List.mem_cons.mp hz with e | e
      · rw [e]; exact q
      · have := h1 z e
        omega
    · split
      · exact h
      · rename_i q1 q2
        refine List.pairwise_cons.mpr ⟨fun z hz => ?_, sins_pair h2⟩
        rcases mem_sins.mp hz with e | e
        · rw [e]; omega
        · exact h1 z e
theorem mem_zset {z : Int} : ∀ {l : List Int}, z ∈ zset l ↔ z ∈ l
  | [] => Iff.rfl
  | x :: xs => by
    show z ∈ sins x (zset xs) ↔ _
    rw [mem_sins, mem_zset, List.mem_cons]
theorem zset_pair : ∀ l : List Int, (zset l).Pairwise (· < ·)
  | [] => List.Pairwise.nil
  | x :: xs => sins_pair (zset_pair xs)
theorem pair_one : ∀ {a b : List Int}, a.Pairwise (· < ·) → b.Pairwise (· < ·) → (∀ z, z ∈ a ↔ z ∈ b) → a = b
  | [], [], _, _, _ => rfl
  | [], y :: b, _, _, h => absurd ((h y).mpr (List.mem_cons_self ..)) (by simp)
  | x :: a, [], _, _, h => absurd ((h x).mp (List.mem_cons_self ..)) (by simp)
  | x :: a, y :: b, ha, hb, h => by
    obtain ⟨a1, a2⟩ := List.pairwise_cons.mp ha
    obtain ⟨b1, b2⟩ := List.pairwise_cons.mp hb
    have e : x = y := by
      have h1 := (h x).mp (List.mem_cons_self ..)
      have h2 := (h y).mpr (List.mem_cons_self ..)
      rcases List.mem_cons.mp h1 with q | q
      · exact q
      · rcases List.mem_cons.mp h2 with r | r
        · exact r.symm
        · have := a1 y r
          have := b1 x q
          omega
    subst e
    rw [pair_one a2 b2 fun z => ?_]
    have hz := h z
    rw [List.mem_cons, List.mem_cons] at hz
    constructor
    · intro q
      rcases hz.mp (.inr q) with r | r
      · have := a1 z q
        omega
      · exact r
    · intro q
      rcases hz.mpr (.inr q) with r | r
      · have := b1 z q
        omega
      · exact r
/-- sorted(set(list of ints)) -/
def ssetD : D → Option D
  | .list xs => (intsOf xs).bind fun ns => if ns.length ≤ 60 then some (.list ((zset ns).map .int)) else none
  | _ => none
section
variable {X : Cx} {T : List Addr} {a : Expr} {ga : Sl → Option D} {p p2 q pos : Pos}
theorem pd_sortedSet (hc : X.calm = true) (hg : Gl X "sorted") (hm : X.mg "sorted" = none) (hg2 : Gl X "set") (hm2 : X.mg "set" = none) (ha : PD T X a ga) (na : starEach [a] X.env = (false, eval a X.env) :: starEach [] X.env := by rfl) :
    PD T X (.Call (.Name "sorted" p) [.Call (.Name "set" p2) [a] [] q] [] pos) (d1 ssetD ga) := by
  refine ⟨fun pins s σ H Q I h => ?_⟩
  obtain ⟨B, S, δ, d, kB, ed, qq⟩ := h
  obtain ⟨x, e1, ed⟩ := Option.bind_eq_some_iff.mp ed
  refine Call_ (ld_blt I hg hm (u := .builtin "sorted") rfl ?_)
  refine PyProof.Rows.callWith_builtin1 (PyProof.Rows.args_cons ?_ rfl) rfl rfl
  refine Call_ (ld_blt I hg2 hm2 PyProof.Rows.boot_set ?_)
  refine PyProof.Rows.callWith_type1 (PyProof.Rows.args_cons (thn (ha.run pins s σ H (fun v H1 => ∃ S1, Step T S H S1 H1 ∧ Rp X.prog X.w S1 v x) I ⟨B, S, δ, x, kB, e1, fun v S1 H1 s1 r1 => ⟨S1, s1, r1⟩⟩) fun v s1 ⟨x', H1, I1, r1, S1, st1, rp⟩ => PyProof.Rows.args_nil ?_) na) na rfl
  cases rp with
  | @lst l vs ds e r =>
    obtain ⟨ns, e2, ed⟩ := Option.bind_eq_some_iff.mp (show ((intsOf ds).bind fun ns => if ns.length ≤ 60 then some (PyData.list ((zset ns).map .int)) else none) = some d from ed)
    split at ed
    · rename_i hl
      cases ed
      cases r1
      have z := rpl_ints' r e2
      subst z
      obtain ⟨its, rv, pl, hz⟩ := I1.list (SqL.of (st1.sh _ _ e))
      refine set_of_list ns (I1.ok.hd hc) pl.isList (by simpa using rv.ints) (by unfold scanBound; omega) fun h' tk c R hcn hk => ?_
      refine PyProof.Rows.args_nil ?_
      have I2 : Inv X pins σ H1 { s1 with heap := h', toks := tk } := I1.kept fun b o e => hk b o e
      refine sorted_set R (I1.ok.hd hc) (by omega) fun s' pp out cc ns' kp hg' hos hp he hints hpair hmem hlen => ?_
      have e3 : ns' = zset ns := pair_one hpair (zset_pair ns) fun z => by rw [hmem z, mem_zset]; simp
      subst e3
      have k1 := kB.okk.step st1
      have nP : H1 pp = none := I2.hok.fresh hp
      obtain ⟨s2, r2⟩ := k1.lst (ds := (zset ns).map .int) (vs := (zset ns).map V.int) nP (RpL.ints _)
      have I3 : Inv X pins σ (upd H1 pp (.lst ((zset ns).map V.int))) { s1 with heap := s'.heap, toks := tk } := I2.laid (t' := tk) kp hp ⟨by rw [List.length_map, hlen, sizeLine_eq]; omega, out.toList, cc, vals_of_ints hints, by rw [Array.toArray_toList]; exact he⟩
      exact ⟨.ref pp, _, inv_move I3 hos (fun _ _ e => e) (by rw [hg']; exact I2.bare), rfl, qq _ _ _ (Step.trans kB.okk st1 s2) r2⟩
    · cases ed
  | _ => cases ed
end
end Gd

set_option maxHeartbeats 2000000
/-! GdP: several assigned at once; dicts displayed, made by comprehensions, walked. -/
namespace Gd
open PySem PySem.Spec PyProof.Rows L2
/-! ### a, b = x, y -/
inductive New (P : Program) (w : World) (T : List Addr) : Hp × Hp → Hp × Hp → List V → List SD → Prop
  | nil {B E : Hp × Hp} : Step T B.1 B.2 E.1 E.2 → New P w T B E [] []
  | sh {B M E : Hp × Hp} {v : V} {d : D} {vs : List V} {sds : List SD} : Step T B.1 B.2 M.1 M.2 → Rp P w M.1 v d → New P w T M E vs sds → New P w T B E (v :: vs) (.sh d :: sds)
  | own {B M E : Hp × Hp} {a : Addr} {o : HO} {sd : SD} {vs : List V} {sds : List SD} : Step T B.1 B.2 M.1 M.2 → B.2 a = none → M.1 a = none → M.2 a = some o → OwR P w M.1 a sd o → New P w T M E vs sds → New P w T B E (.ref a :: vs) (sd :: sds)
def setV : L2.St → List Nat → List V → L2.St
  | σ, i :: is, v :: vs => setV (σ.set i (some v)) is vs
  | σ, _, _ => σ
def setD : Sl → List Nat → List SD → Sl
  | δ, i :: is, d :: ds => setD (δ.set i (some d)) is ds
  | δ, _, _ => δ
theorem new_set {P : Program} {w : World} {T : List Addr} {B : Hp × Hp} {M E : Hp × Hp} {vs : List V} {sds : List SD} (h : New P w T M E vs sds) : ∀ {σ : L2.St} {δ : Sl} {is : List Nat}, SOk P w T B M.1 σ M.2 δ → is.length = vs.length →
    SOk P w T B E.1 (setV σ is vs) E.2 (setD δ is sds) ∧ Same M.1 E.1 := by
  induction h with
  | nil st =>
    intro σ δ is k hl
    cases is with
    | nil => exact ⟨k.step st, st.ss⟩
    | cons i is => simp at hl
  | sh st r _ ih =>
    intro σ δ is k hl
    cases is with
    | nil => simp at hl
    | cons i is =>
      obtain ⟨h1, h2⟩ := ih ((k.step st).setS i r) (by simpa using hl)
      exact ⟨h1, st.ss.trans h2⟩
  | own st n nS ea r _ ih =>
    intro σ δ is k hl
    cases is with
    | nil => simp at hl
    | cons i is =>
      obtain ⟨h1, h2⟩ := ih (SOk.setO k (k.step st) i r.is n (SlotR.mk r nS ea)) (by simpa using hl)
      exact ⟨h1, st.ss.trans h2⟩
def tDO (P : Program) (w : World) (T : List Addr) (f : Sl → Option (List SD)) : TA := fun σ H Q => ∃ (B : Hp × Hp) (S : Hp) (δ : Sl) (sds : List SD), SOk P w T B S σ H δ ∧ f δ = some sds ∧ ∀ vs S' H', New P w T (S, H) (S', H') vs sds → Q vs H'
abbrev PAo (T : List Addr) (X : Cx) (es : List Expr) (f : Sl → Option (List SD)) : Prop := PA X es (tDO X.prog X.w T f)
def aon : Sl → Option (List SD) := fun _ => some []
def aoc (a : Sl → Option D) (r : Sl → Option (List SD)) : Sl → Option (List SD) := fun δ => (a δ).bind fun x => (r δ).map fun xs => .sh x :: xs
def aof (a : Sl → Option SD) (r : Sl → Option (List SD)) : Sl → Option (List SD) := fun δ => (a δ).bind fun x => (r δ).map fun xs => x :: xs
section
variable {T : List Addr} {X : Cx} {tg a b e c : Expr} {es : List Expr} {ga gb : Sl → Option D} {gf : Sl → Option SD} {gr : Sl → Option (List SD)} {pos p : Pos}
theorem pao_n : PAo T X [] aon := by
  refine PA_imp pa_nil fun σ H Q q => ?_
  obtain ⟨B, S, δ, d, k, ed, q⟩ := q
  cases ed
  exact q [] S H (.nil k.okk.refl)
theorem pao_c (ha : PD T X e ga) (hr : PAo T X es gr) (hs : starEach (e :: es) X.env = (false, eval e X.env) :: starEach es X.env := by rfl) : PAo T X (e :: es) (aoc ga gr) := by
  refine PA_imp (pa_cons ha hr hs) fun σ H Q q => ?_
  obtain ⟨B, S, δ, d, k, ed, q⟩ := q
  obtain ⟨x, e1, ed⟩ := Option.bind_eq_some_iff.mp ed
  obtain ⟨xs, e2, rfl⟩ := Option.map_eq_some_iff.mp ed
  exact ⟨B, S, δ, x, k, e1, fun v S1 H1 s1 r1 => ⟨B, S1, δ, xs, k.step s1, e2, fun vs S2 H2 nw => q _ S2 H2 (.sh (M := (S1, H1)) s1 r1 nw)⟩⟩
theorem pao_f (ha : PF T X e gf) (hr : PAo T X es gr) (hs : starEach (e :: es) X.env = (false, eval e X.env) :: starEach es X.env := by rfl) : PAo T X (e :: es) (aof gf gr) := by
  refine PA_imp (pa_cons ha hr hs) fun σ H Q q => ?_
  obtain ⟨B, S, δ, d, k, ed, q⟩ := q
  obtain ⟨x, e1, ed⟩ := Option.bind_eq_some_iff.mp ed
  obtain ⟨xs, e2, rfl⟩ := Option.map_eq_some_iff.mp ed
  exact ⟨B, S, δ, x, k, e1, fun a o S1 H1 s1 n nS ea r1 => ⟨B, S1, δ, xs, k.step s1, e2, fun vs S2 H2 nw => q _ S2 H2 (.own (M := (S1, H1)) s1 n nS ea r1 nw)⟩⟩
def spar (is : List Nat) (f : Sl → Option (List SD)) : Sl → Option Out := fun δ => (f δ).bind fun sds => if sds.length = is.length then some (.nx (setD δ is sds)) else none
theorem New.len {P : Program} {w : World} {T : List Addr} {M E : Hp × Hp} {vs : List V} {sds : List SD} (h : New P w T M E vs sds) : vs.length = sds.length := by
  induction h with
  | nil _ => rfl
  | sh _ _ _ ih => rw [List.length_cons, List.length_cons, ih]
  | own _ _ _ _ _ _ ih => rw [List.length_cons, List.length_cons, ih]
theorem psd_par2 {i j : Nat} {x y : Str} {px py pt : Pos} {kt k2 pt2} (hc : X.calm = true) (hN : X.N.Nodup) (hi : X.N[i]? = some x) (hj : X.N[j]? = some y) (hij : i ≠ j)
    (hx : X.env.scope.names.lookup x = some .local) (hy : X.env.scope.names.lookup y = some .local) (ha : PAo T X [a, b] gr)
    (hw : swappedStores [.Tuple [.Name x px, .Name y py] kt pt] (.Tuple [a, b] k2 pt2) X.env = pure (some [x, y]))
    (hs : swapsWithSole [.Tuple [.Name x px, .Name y py] kt pt] (.Tuple [a, b] k2 pt2) pos.line X.env = pure false := by rfl) :
    PSd T X (.Assign [.Tuple [.Name x px, .Name y py] kt pt] (.Tuple [a, b] k2 pt2) pos) (spar [i, j] gr) := by
  refine PS_imp (ps_par hc hN hi hj hij hx hy ha hw hs) fun D σ H q => ?_
  obtain ⟨B, S, δ, o, k, ed, q⟩ := q
  obtain ⟨sds, e1, e2⟩ := Option.bind_eq_some_iff.mp ed
  split at e2
  · rename_i hl
    cases e2
    refine ⟨B, S, δ, sds, k, e1, fun vs S1 H1 nw => ?_⟩
    have hvl : vs.length = 2 := nw.len.trans hl
    obtain ⟨h1, h2⟩ := new_set (is := [i, j]) nw k (by rw [hvl]; rfl)
    match vs, hvl with
    | [v, u], _ => exact ⟨v, u, rfl, q S1 _ H1 h1 h2⟩
  · cases e2
theorem psd_par3 {i j l : Nat} {x y z : Str} {px py pz pt : Pos} {kt k2 pt2} (hc : X.calm = true) (hN : X.N.Nodup) (hi : X.N[i]? = some x) (hj : X.N[j]? = some y) (hl : X.N[l]? = some z) (hij : i ≠ j) (hil : i ≠ l) (hjl : j ≠ l)
    (hx : X.env.scope.names.lookup x = some .local) (hy : X.env.scope.names.lookup y = some .local) (hz : X.env.scope.names.lookup z = some .local) (ha : PAo T X [a, b, c] gr)
    (hw : swappedStores [.Tuple [.Name x px, .Name y py, .Name z pz] kt pt] (.Tuple [a, b, c] k2 pt2) X.env = pure (some [x, y, z]))
    (hs : swapsWithSole [.Tuple [.Name x px, .Name y py, .Name z pz] kt pt] (.Tuple [a, b, c] k2 pt2) pos.line X.env = pure false := by rfl) :
    PSd T X (.Assign [.Tuple [.Name x px, .Name y py, .Name z pz] kt pt] (.Tuple [a, b, c] k2 pt2) pos) (spar [i, j, l] gr) := by
  refine PS_imp (ps_par3 hc hN hi hj hl hij hil hjl hx hy hz ha hw hs) fun D σ H q => ?_
  obtain ⟨B, S, δ, o, k, ed, q⟩ := q
  obtain ⟨sds, e1, e2⟩ := Option.bind_eq_some_iff.mp ed
  split at e2
  · rename_i hlen
    cases e2
    refine ⟨B, S, δ, sds, k, e1, fun vs S1 H1 nw => ?_⟩
    have hvl : vs.length = 3 := nw.len.trans hlen
    obtain ⟨h1, h2⟩ := new_set (is := [i, j, l]) nw k (by rw [hvl]; rfl)
    match vs, hvl with
    | [v, u, t], _ => exact ⟨v, u, t, rfl, q S1 _ H1 h1 h2⟩
  · cases e2
/-- .. with a captured name among them: the tuple is made and undone -/
theorem psd_parC2 {i j : Nat} {x y : Str} {px py pt : Pos} {kt k2 pt2} (hc : X.calm = true) (hN : X.N.Nodup) (hi : X.N[i]? = some x) (hj : X.N[j]? = some y) (hx : Loc X.env.scope x) (hy : Loc X.env.scope y) (ha : PAo T X [a, b] gr)
    (hf : X.fn x = true ∨ X.env.scope.names.lookup x = some .local := by first | exact .inl rfl | exact .inr rfl | assumption) (hf2 : X.fn y = true ∨ X.env.scope.names.lookup y = some .local := by first | exact .inl rfl | exact .inr rfl | assumption)
    (hs : swapsWithSole [.Tuple [.Name x px, .Name y py] kt pt] (.Tuple [a, b] k2 pt2) pos.line X.env = pure false := by rfl) (hw : swappedStores [.Tuple [.Name x px, .Name y py] kt pt] (.Tuple [a, b] k2 pt2) X.env = pure none := by rfl)
    (h1 : (assignEach [.Tuple [.Name x px, .Name y py] kt pt] X.env).map (·.2) = [assign (.Tuple [.Name x px, .Name y py] kt pt) X.env] := by rfl) :
    PSd T X (.Assign [.Tuple [.Name x px, .Name y py] kt pt] (.Tuple [a, b] k2 pt2) pos) (spar [i, j] gr) := by
  refine PS_imp (ps_asg (pe_tup ha) (pg_tup (n := 2) hc (pgs_cons (pg_name hN hi hx hf) (pgs_cons (pg_name hN hj hy hf2) pgs_nil))) hs hw h1) fun D σ H q => ?_
  obtain ⟨B, S, δ, o, k, ed, q⟩ := q
  obtain ⟨sds, e1, e2⟩ := Option.bind_eq_some_iff.mp ed
  split at e2
  · rename_i hl
    cases e2
    refine ⟨B, S, δ, sds, k, e1, fun vs S1 H1 nw => ?_⟩
    have hvl : vs.length = 2 := nw.len.trans hl
    obtain ⟨h1, h2⟩ := new_set (is := [i, j]) nw k (by rw [hvl]; rfl)
    match vs, hvl with
    | [v, u], _ =>
      refine ⟨by show 2 ≤ sizeLine; decide, fun p np => ⟨p, _, rfl, SqT.of upd_same, rfl, v, _, rfl, u, _, rfl, rfl, q S1 _ _ (h1.step (h1.okk.newO np)) h2⟩⟩
  · cases e2
theorem psd_parC3 {i j l : Nat} {x y z : Str} {px py pz pt : Pos} {kt k2 pt2} (hc : X.calm = true) (hN : X.N.Nodup) (hi : X.N[i]? = some x) (hj : X.N[j]? = some y) (hk : X.N[l]? = some z) (hx : Loc X.env.scope x) (hy : Loc X.env.scope y) (hz : Loc X.env.scope z) (ha : PAo T X [a, b, c] gr)
    (hf : X.fn x = true ∨ X.env.scope.names.lookup x = some .local := by first | exact .inl rfl | exact .inr rfl | assumption) (hf2 : X.fn y = true ∨ X.env.scope.names.lookup y = some .local := by first | exact .inl rfl | exact .inr rfl | assumption)
    (hf3 : X.fn z = true ∨ X.env.scope.names.lookup z = some .local := by first | exact .inl rfl | exact .inr rfl | assumption)
    (hs : swapsWithSole [.Tuple [.Name x px, .Name y py, .Name z pz] kt pt] (.Tuple [a, b, c] k2 pt2) pos.line X.env = pure false := by rfl) (hw : swappedStores [.Tuple [.Name x px, .Name y py, .Name z pz] kt pt] (.Tuple [a, b, c] k2 pt2) X.env = pure none := by rfl)
    (h1 : (assignEach [.Tuple [.Name x px, .Name y py, .Name z pz] kt pt] X.env).map (·.2) = [assign (.Tuple [.Name x px, .Name y py, .Name z pz] kt pt) X.env] := by rfl) :
    PSd T X (.Assign [.Tuple [.Name x px, .Name y py, .Name z pz] kt pt] (.Tuple [a, b, c] k2 pt2) pos) (spar [i, j, l] gr) := by
  refine PS_imp (ps_asg (pe_tup ha) (pg_tup (n := 3) hc (pgs_cons (pg_name hN hi hx hf) (pgs_cons (pg_name hN hj hy hf2) (pgs_cons (pg_name hN hk hz hf3) pgs_nil)))) hs hw h1) fun D σ H q => ?_
  obtain ⟨B, S, δ, o, k, ed, q⟩ := q
  obtain ⟨sds, e1, e2⟩ := Option.bind_eq_some_iff.mp ed
  split at e2
  · rename_i hl
    cases e2
    refine ⟨B, S, δ, sds, k, e1, fun vs S1 H1 nw => ?_⟩
    have hvl : vs.length = 3 := nw.len.trans hl
    obtain ⟨h1, h2⟩ := new_set (is := [i, j, l]) nw k (by rw [hvl]; rfl)
    match vs, hvl with
    | [v, u, t], _ =>
      refine ⟨by show 3 ≤ sizeLine; decide, fun p np => ⟨p, _, rfl, SqT.of upd_same, rfl, v, _, rfl, u, _, rfl, t, _, rfl, rfl, q S1 _ _ (h1.step (h1.okk.newO np)) h2⟩⟩
  · cases e2
/-- target = a value -/
def sasg (t : Tg) (a : Sl → Option D) : Sl → Option Out := fun δ => (a δ).bind fun d => (t d δ).map .nx
theorem psd_asg {t : Tg} {is : List Nat} (he : PD T X e ga) (hg : PGd T X tg is t) (hs : swapsWithSole [tg] e pos.line X.env = pure false := by rfl) (hw : swappedStores [tg] e X.env = pure none := by rfl)
    (h1 : (assignEach [tg] X.env).map (·.2) = [assign tg X.env] := by rfl) : PSd T X (.Assign [tg] e pos) (sasg t ga) := by
  refine PS_imp (ps_asg he hg hs hw h1) fun D σ H q => ?_
  obtain ⟨B, S, δ, o, k, ed, q⟩ := q
  obtain ⟨d, e1, e2⟩ := Option.bind_eq_some_iff.mp ed
  obtain ⟨δ', e3, rfl⟩ := Option.map_eq_some_iff.mp e2
  exact ⟨B, S, δ, d, k, e1, fun v S1 H1 s1 r1 => ⟨B, S1, δ, d, δ', k.step s1, r1, e3, fun σ' k' _ => q S1 σ' H1 k' s1.ss⟩⟩

/-! ### dicts with tuple keys -/
theorem d_dictSetN {k : Nat} (hr : Room k X.A) {pins : List (Addr × Obj)} {σ : L2.St} {H S : Hp} {s : Shared} {E : Value → Shared → Prop} {L : Addr} {ob : Obj} {xs : List Ent} {kvs : List (D × D)} {v z : V} {u r : Value} {d dz : D} {key : NestedKey} {Q : Unit → Shared → Prop}
    (I : Inv X pins σ H s) (sh : Same S H) (hD : H L = some (DN X.prog X.w L ob xs)) (re : EntL X.prog X.w S xs kvs) (ry : RelV v u) (hy : Rp X.prog X.w S v d) (ek : tkey d = some key) (rv : RelV z r) (hz : Rp X.prog X.w S z dz) (hl : kvs.length < 1000000)
    (h : ∀ ob' xs' s', EntL X.prog X.w S xs' (dput kvs d dz) → Inv X pins σ (upd H L (DN X.prog X.w L ob' xs')) s' → Q () s') : wpAny (model X.prog X.w) X.A (dictSet L u r) Q E s := by
  obtain ⟨h1, h2, h3⟩ := dn_at I sh hD re
  obtain ⟨bb, rfl, rfl, hk⟩ := tkey_is I sh hy ry ek
  obtain ⟨_, ek', hdep⟩ := tkey_of ek
  have hroom : (nestedKind X.prog X.w).room X.A := by
    show X.A.units + 8 < cLine
    have := hr.un; omega
  refine wpAny_dictSet_heap (hsz := h2) hroom hk h3 fun h' hm' hs => ?_
  have r' := ent_put re ek' hdep hy rv hz
  obtain ⟨q1, es, ep, hq, x2, x3, x4, _, x5⟩ := id hm'
  have hlen : (storedH xs key bb r).length ≤ sizeLine := by
    rw [ent_len r']
    have := len_dput kvs d dz
    have := line_big (n := kvs.length + 1) (by omega)
    omega
  exact h _ _ _ r' (d_write I (by rw [hD]; exact True.intro) hs ⟨q1, hq⟩ (dn_ok h1 hlen x5 hq ⟨es, ep, x2, x3, x4⟩))
/-- {k: v}, one's own -/
def fd1 (k v : Sl → Option D) : Sl → Option SD := fun δ => (k δ).bind fun x => (v δ).bind fun y => (tkey x).map fun _ => .own (dput [] x y)
theorem pf_dn1 {k : Nat} (hr : Room k X.A) (ha : PD T X a ga) (hb : PD T X b gb) : PF T X (.Dict [some a] [b] pos) (fd1 ga gb) := by
  refine ⟨fun pins s σ H Q I q => ?_⟩
  obtain ⟨B, S, δ, sd, kB, ed, q⟩ := q
  obtain ⟨x, e1, ed⟩ := Option.bind_eq_some_iff.mp ed
  obtain ⟨y, e2, ed⟩ := Option.bind_eq_some_iff.mp ed
  obtain ⟨key, e3, rfl⟩ := Option.map_eq_some_iff.mp ed
  have nH : H s.heap.objs.size = none := I.hok.fresh (Nat.le_refl _)
  refine wpAny_Dict_any rfl rfl (by simp) (by simp) ?_
  generalize hL : s.heap.objs.size = L at nH
  have I1 : Inv X pins σ (upd H L (DN X.prog X.w L { cls := .type "dict", data := .dict #[] } [])) { s with heap := s.heap.push { cls := .type "dict", data := .dict #[] } } := by
    refine I.laid (t' := s.toks) (fun _ _ q => Heap.get?_push_of_some _ q) (Nat.le_of_eq hL) ?_
    rw [← hL]
    exact dn_ok (beq_eq_false_iff_ne.mpr (Ne.symm (Nat.ne_of_lt I.big))) (Nat.zero_le _) List.nodup_nil (Heap.get?_push_size _ rfl) ⟨#[], 0, ⟨rfl, rfl, rfl⟩, rfl, rfl⟩
  have s1 := kB.okk.newO nH (o := DN X.prog X.w L { cls := .type "dict", data := .dict #[] } [])
  have nS : S L = none := kB.okk.sh.free nH
  have k1 := kB.step s1
  have nT : L ∉ T := k1.okk.nT upd_same (fun ps z => by unfold DN at z; cases z)
  show wpAny _ _ (evalPairs [(eval a X.env, do let x ← eval b X.env; standAt pos; pure x)]) _ _ _
  unfold evalPairs
  refine wpAny_bind (thn (ha.run pins _ σ _ (fun v H2 => ∃ S2, Step T S (upd H L (DN X.prog X.w L { cls := .type "dict", data := .dict #[] } [])) S2 H2 ∧ Rp X.prog X.w S2 v x) I1 ⟨B, S, δ, x, k1, e1, fun v S2 H2 s2 r2 => ⟨S2, s2, r2⟩⟩) fun u s2 ⟨v, H2, I2, rv, S2, st2, rp2⟩ => ?_)
  refine wpAny_bind (wpAny_holding (wpAny_bind (thn (hb.run pins s2 σ H2 (fun v H3 => ∃ S3, Step T S2 H2 S3 H3 ∧ Rp X.prog X.w S3 v y) I2 ⟨B, S2, δ, y, k1.step st2, e2, fun v S3 H3 s3 r3 => ⟨S3, s3, r3⟩⟩) fun u3 s3 ⟨v3, H3, I3, rv3, S3, st3, rp3⟩ => wpAny_bind (wpAny_standAt (wpAny_pure ?_)))))
  refine wpAny_bind (wpAny_holding ?_)
  unfold evalPairs
  refine wpAny_pure (wpAny_pure ?_)
  have st23 := Step.trans k1.okk st2 st3
  have eL : H3 L = some (DN X.prog X.w L { cls := .type "dict", data := .dict #[] } []) := st23.keep L _ upd_same nT
  have nS3 : S3 L = none := by rw [st23.only L (by rw [upd_same]; simp)]; exact nS
  unfold storeAll
  simp only [List.forIn_cons, List.forIn_nil]
  refine wpAny_bind (wpAny_bind (d_dictSetN hr I3 st23.sh eL .nil rv (rp2.mono st3.ss) e3 rv3 rp3 (by simp) fun ob' xs' s' re I' => wpAny_pure (wpAny_pure ?_)))
  have s3 := Step.trans kB.okk s1 st23
  refine ⟨.ref L, _, I', rfl, q L _ S3 _ ⟨s3.ss, fun b w e => ?_, fun b w e n => ?_, s3.only, fun p hp => ?_⟩ nH nS3 upd_same (.own re)⟩
  · rw [upd_ne (ne_of_none e nS3)]; exact s3.sh b w e
  · rw [upd_ne (ne_of_none e nH)]; exact s3.keep b w e n
  · have hb : p ≠ L := fun z => nT (z ▸ hp)
    rw [upd_ne hb]; exact s3.tb p hp
end
end Gd

set_option maxHeartbeats 2000000
/-! GdQ: dict comprehensions with tuple keys. -/
namespace Gd
open PySem PySem.Spec PyProof.Rows L2
def ed0 : Obj := { cls := .type "dict", data := .dict #[] }
section
variable {X : Cx}
def tDcN (P : Program) (w : World) (wi : TI) (g : TG) (tt : TT) (tk tv : TE) (vs : List Nat) : TE := fun σ H Q => wi σ H fun J H1 => ∀ L, H1 L = none → ∃ W : Nat → Nat → Hp → Prop, (∃ m, W 0 m (upd H1 L (DN P w L ed0 []))) ∧ ∀ i m H, W i m H →
  (J.stop i H ∧ Q (.ref L) H) ∨ (J.go i H ∧ ∃ Nx : Hp → Prop, (∀ H', Nx H' → ∃ m', m' < m ∧ W (i + 1) m' H') ∧ ∀ x H', J.yld i H x H' → g x (wipe σ vs) H' fun σ2 H2 => wipe σ2 vs = wipe σ vs ∧ tt σ2 H2 fun b H3 =>
    if b = true then tk σ2 H3 fun y H4 => tv σ2 H4 fun z H5 => ∃ (S : Hp) (ob : Obj) (xs : List Ent) (kvs : List (D × D)) (dk dz : D) (key : NestedKey), Same S H5 ∧ H5 L = some (DN P w L ob xs) ∧ EntL P w S xs kvs ∧ Rp P w S y dk ∧ tkey dk = some key ∧ Rp P w S z dz ∧ kvs.length < 1000000 ∧
      ∀ ob' xs', EntL P w S xs' (dput kvs dk dz) → Nx (upd H5 L (DN P w L ob' xs')) else Nx H3)
theorem dcn_core {kk : Nat} (hr : Room kk X.A) {pins : List (Addr × Obj)} {s : Shared} {σ : L2.St} {H : Hp} {Q : VK} {kx vx tg iter : Expr} {ifs : List Expr} {scope : Scope} {own : List (Str × Nat)} {pos pos' : Pos} {wi : TI} {g : TG} {tt : TT} {tk tv : TE} {use : Option (Value → Sem Unit)} {Qf : Value → Shared → Prop}
    (hc : X.calm = true) (hN : X.N.Nodup) (I : Inv X pins σ H s) (hi : PI X tg iter wi) (ok : BlkOk X.N X.env.scope scope own)
    (hg : ∀ (s : Shared) (H : Hp) (C : Addr) (cl : List (Str × Addr)) (fp : List Addr), PG (X.blk s H scope (compEnvC scope cl C X.env) fp) tg g) (ht : ∀ (s : Shared) (H : Hp) (C : Addr) (cl : List (Str × Addr)) (fp : List Addr), PTs (X.blk s H scope (compEnvC scope cl C X.env) fp) ifs tt)
    (hk : ∀ (s : Shared) (H : Hp) (C : Addr) (cl : List (Str × Addr)) (fp : List Addr), PE (X.blk s H scope (compEnvC scope cl C X.env) fp) kx tk)
    (he : ∀ (s : Shared) (H : Hp) (C : Addr) (cl : List (Str × Addr)) (fp : List Addr), PE (X.blk s H scope (compEnvC scope cl C X.env) fp) vx tv) (hs : ∀ x, foldedSetIterable iter X.env x = pure x)
    (h : tDcN X.prog X.w wi g tt tk tv (own.map (·.2)) σ H Q)
    (hRR : ∀ D C s' m H', Inv X pins σ H' s' → Q (.ref D) H' → s'.heap.Ns C m → FpOk X pins H' C → compPost (model X.prog X.w) X.A X.xe use Qf (.ref D) C (.ok .next) s') :
    wpAny (model X.prog X.w) X.A (comprehension (.DictComp kx vx [⟨tg, iter, ifs, 0⟩] scope pos) scope X.env pos' newDict false (eval iter X.env) use) Qf X.xe s := by
  have hfree : ∀ y ∈ scope.names, y.2 = .free → ∃ c, X.env.cells.lookup y.1 = some c := fun y hy e => by
    rcases ok.free y hy e with k | k
    · exact I.ok.has _ (.inl k)
    · exact I.ok.has _ (.inr k)
  refine wpAny_comprehension_free (use := use) rfl hs (closure_ok hfree) ok.kind (fun y hy e => by rw [ok.uniq y hy, e])
    (thn (hi.run pins s σ H _ I h) fun xv s1 hx => thn hx fun itv s2 h2 => ?_)
  obtain ⟨it, fp, tn, J, H2, e, I2, T, st2, f2, q⟩ := h2
  subst e
  refine wpAny_newObj_type (newEnv_comp ?_)
  generalize hD : s2.heap.objs.size = D
  have hDn : H2 D = none := I2.hok.fresh (Nat.le_of_eq hD)
  obtain ⟨W, ⟨m0, w0⟩, turn⟩ := q D hDn
  -- the new list
  generalize hs3 : ({ s2 with heap := s2.heap.push { cls := .type "dict", data := .dict #[] } } : Shared) = s3
  have I3 : Inv X pins σ (upd H2 D (DN X.prog X.w D ed0 [])) s3 := by
    rw [← hs3]
    refine I2.laid (t' := s2.toks) (fun b o e => Heap.get?_push_of_some _ e) (Nat.le_of_eq hD) ?_
    rw [← hD]
    exact dn_ok (beq_eq_false_iff_ne.mpr (Ne.symm (Nat.ne_of_lt I2.big))) (Nat.zero_le _) List.nodup_nil (Heap.get?_push_size _ rfl) ⟨#[], 0, ⟨rfl, rfl, rfl⟩, rfl, rfl⟩
  have h3 : s3.heap = s2.heap.push { cls := .type "dict", data := .dict #[] } := by rw [← hs3]
  have sz : ∀ b ∈ fp, b < s2.heap.objs.size := fun b hb => by
    obtain ⟨o, e, _⟩ := T.obj _ _ st2 b hb
    exact Heap.lt_size e
  have f3 : ∀ b ∈ fp, FpOk X pins (upd H2 D (DN X.prog X.w D ed0 [])) b ∧ b < s3.heap.objs.size := fun b hb => by
    have hlt := sz b hb
    refine ⟨⟨?_, (f2 b hb).2⟩, by rw [h3, Heap.size_push]; exact Nat.lt_succ_of_lt hlt⟩
    rw [upd_ne (by rw [← hD]; exact Nat.ne_of_lt hlt)]
    exact (f2 b hb).1
  have st3 : tn 0 s3.heap := T.keep _ _ _ st2 fun b _ o e => by rw [h3]; exact Heap.get?_push_of_some _ e
  have I4 := block_start I3 ok hN f3
  have pg := hg s3 (upd H2 D (DN X.prog X.w D ed0 [])) s3.heap.objs.size (cellsFrom (s3.heap.objs.size + 1) scope.names (cloFrom X.env.cells scope.names [])) fp
  have pt := ht s3 (upd H2 D (DN X.prog X.w D ed0 [])) s3.heap.objs.size (cellsFrom (s3.heap.objs.size + 1) scope.names (cloFrom X.env.cells scope.names [])) fp
  have pk := hk s3 (upd H2 D (DN X.prog X.w D ed0 [])) s3.heap.objs.size (cellsFrom (s3.heap.objs.size + 1) scope.names (cloFrom X.env.cells scope.names [])) fp
  have pe := he s3 (upd H2 D (DN X.prog X.w D ed0 [])) s3.heap.objs.size (cellsFrom (s3.heap.objs.size + 1) scope.names (cloFrom X.env.cells scope.names [])) fp
  show codeAny _ _ (.compStart (.DictComp kx vx [⟨tg, iter, ifs, 0⟩] scope pos) 0 (.ref it) (.ref D) (compEnvC scope (cellsFrom (s3.heap.objs.size + 1) scope.names (cloFrom X.env.cells scope.names [])) s3.heap.objs.size X.env)) (compPost (model X.prog X.w) X.A X.xe use Qf (.ref D) s3.heap.objs.size) { s3 with heap := pushCells (s3.heap.push { cls := .type "dict", data := .dict #[] }) scope.names }
  have nfp : ∀ b ∈ fp, (upd H2 D (DN X.prog X.w D ed0 [])) b = none := fun b hb => (f3 b hb).1.1
  generalize hce : compEnvC scope (cellsFrom (s3.heap.objs.size + 1) scope.names (cloFrom X.env.cells scope.names [])) s3.heap.objs.size X.env = ce at I4 pg pt pk pe ⊢
  have cL : ce.locals = s3.heap.objs.size := by subst hce; rfl
  generalize hH3 : upd H2 D (DN X.prog X.w D ed0 []) = H3 at I3 I4 pg pt pk pe w0 nfp f3
  generalize hs4 : ({ s3 with heap := pushCells (s3.heap.push { cls := .type "dict", data := .dict #[] }) scope.names } : Shared) = s4 at I4 ⊢
  have st4 : tn 0 s4.heap := T.keep _ _ _ st3 fun b _ o e => by rw [← hs4]; exact pushCells_keeps _ _ _ _ (Heap.get?_push_of_some _ e)
  have stat : ∀ {σ' : L2.St} {H' : Hp} {s' : Shared}, Inv (X.blk s3 H3 scope ce fp) [] σ' H' s' → (∀ b ∈ fp, H' b = none) → ∀ b ∈ fp, FpOk (X.blk s3 H3 scope ce fp) [] H' b := fun {σ' H' s'} I' hn b hb =>
    ⟨hn b hb, (I'.ok.exf b hb).1, I'.ok.exfs b hb, .inl hb, fun x c e => (I'.ok.exf b hb).2 x c e, fun p hp => absurd (show p ∈ ([] : List (Addr × Obj)) ++ [] from hp) (by simp)⟩
  have loop : codeAny (model X.prog X.w) X.A (.compLoop (.DictComp kx vx [⟨tg, iter, ifs, 0⟩] scope pos) 0 (.ref it) (.ref D) ce) (compPost (model X.prog X.w) X.A X.xe use Qf (.ref D) s3.heap.objs.size) s4 := by
    refine compLoop_anyD (fun n s' => ∃ i H', Inv (X.blk s3 H3 scope ce fp) [] (wipe σ (own.map (·.2))) H' s' ∧ tn i s'.heap ∧ (∀ b ∈ fp, H' b = none) ∧ W i n H') ?_ m0 ⟨0, H3, I4, st4, nfp, w0⟩
    rintro n s5 ⟨i, H5, I5, st5, n5, w5⟩
    rcases turn i n H5 w5 with ⟨stop, qq⟩ | ⟨go, Nx, hNx, step⟩
    · have td := T.done (X.blk s3 H3 scope ce fp) rfl rfl rfl hc i [] s5 _ H5 (fun _ _ => False) I5 (stat I5 n5) st5 stop
      refine thnF td fun r s6 ⟨hr, I6⟩ => ?_
      subst hr
      -- back in the def's context
      have I7 : Inv X pins σ H5 s6 := I3.call' (ch := fp) I6.os I6.base I6.hok I6.bare fun b hb => ⟨(f3 b hb).1.2.2.2.1, (f3 b hb).1.2.1, (f3 b hb).1.2.2.2.2.1, (f3 b hb).1.2.2.2.2.2⟩
      have nC : H5 s3.heap.objs.size = none := by
        have z : H5 ce.locals = none := I6.free
        rw [cL] at z
        exact z
      obtain ⟨m, hn, _⟩ := I6.loc
      have hn : s6.heap.Ns ce.locals m := hn
      rw [cL] at hn
      exact hRR D s3.heap.objs.size s6 m H5 I7 qq hn (I3.fpOk (Nat.le_refl _) nC)
    · have ti := T.item (X.blk s3 H3 scope ce fp) rfl rfl rfl hc i [] s5 _ H5 (fun _ _ => False) I5 (stat I5 n5) st5 go
      refine thnF ti fun r s6 ⟨u, hr, h6⟩ => ?_
      subst hr
      refine thnF h6 fun _ s7 ⟨x, H7, I7, r7, y7, st7, n7⟩ => ?_
      have I7' := I7.pinned (stat I7 n7) (T.obj _ _ st7)
      refine thnF (pg.run _ s7 _ H7 x u _ I7' r7 (step x H7 y7)) fun _ s8 ⟨σ8, H8, I8, hw8, q8⟩ => ?_
      refine thnF (pt.run _ s8 σ8 H8 _ I8 q8) fun b s9 ⟨H9, I9, q9⟩ => ?_
      -- the turn's end
      have fin : ∀ {s' : Shared} {H' : Hp}, Inv (X.blk s3 H3 scope ce fp) ([] ++ pinsAt fp s7.heap) σ8 H' s' → Nx H' → ∃ m, m < n ∧ ∃ i H', Inv (X.blk s3 H3 scope ce fp) [] (wipe σ (own.map (·.2))) H' s' ∧ tn i s'.heap ∧ (∀ b ∈ fp, H' b = none) ∧ W i m H' := fun {s' H'} I' nx => by
        obtain ⟨m', hm, w'⟩ := hNx H' nx
        have pin' : ∀ b ∈ fp, ∀ o, s7.heap.get? b = some o → s'.heap.get? b = some o ∧ H' b = none := fun b hb o e =>
          let z := I'.pin (b, o) (List.mem_append_right _ (List.mem_append_right _ (mem_pinsAt hb e)))
          ⟨z.1, z.2.1⟩
        have hl : (wipe σ (own.map (·.2))).length = σ8.length := by rw [← hw8, wipe_length]
        refine ⟨m', hm, i + 1, H', (I'.unpinned (pins := [])).weak hl (fun j v e => ?_), T.keep _ _ _ st7 fun b hb o e => (pin' b hb o e).1, fun b hb => ?_, w'⟩
        · rw [← hw8] at e
          exact (wipe_some e).1
        · obtain ⟨o, e, _⟩ := T.obj _ _ st7 b hb
          exact (pin' b hb o e).2
      cases b with
      | false =>
        simp only [Bool.false_eq_true, if_false] at q9 ⊢
        exact fin I9 q9
      | true =>
        simp only [if_true] at q9 ⊢
        refine thnF (pk.run _ s9 σ8 H9 _ I9 q9) fun z s10 ⟨yk, H10, I10, r10, q10⟩ => ?_
        refine thnF (pe.run _ s10 σ8 H10 _ I10 q10) fun z2 s11 ⟨yv, H11, I11, r11, Sx, obx, xs, kvs, dk, dz, key, sh, hD11, re, hy, ek, hz, hl, nx⟩ => ?_
        exact d_dictSetN (X := X.blk s3 H3 scope ce fp) hr I11 sh hD11 re r10 hy ek r11 hz hl fun ob' xs' s12 re' I12 => fin I12 (nx ob' xs' re')
  exact codeAny_compStart_dict loop (T.self X.A 0 _ _ _ st4 loop)

variable {T : List Addr} {tg e kx vx : Expr} {ifs : List Expr} {scope : Scope} {own : List (Str × Nat)} {pos : Pos} {f : Sl → Option (List D)} {t : Tg} {is : List Nat} {fc : Sl → Option Bool} {gk gv : Sl → Option D}
def dcL (t : Tg) (c : Sl → Option Bool) (k v : Sl → Option D) : List D → Sl → List (D × D) → Option (List (D × D))
  | [], _, acc => some acc
  | d :: ds, δ, acc => (t d δ).bind fun δ1 => (c δ1).bind fun x => if x = true then (k δ1).bind fun y => (v δ1).bind fun z => (tkey y).bind fun _ => if acc.length < 1000000 then dcL t c k v ds δ (dput acc y z) else none else dcL t c k v ds δ acc
def fdc (vs : List Nat) (f : Sl → Option (List D)) (t : Tg) (c : Sl → Option Bool) (k v : Sl → Option D) : Sl → Option SD := fun δ => (f δ).bind fun ds => (dcL t c k v ds (wipeD δ vs) []).map .own
theorem tdc_of {J : It} {P : Program} {w : World} {vs : List Nat} {B : Hp × Hp} {S S1 H H1 : Hp} {σ : L2.St} {δ : Sl} {ds : List D} {res : List (D × D)} {Q : VK}
    (k : SOk P w T B S σ H δ) (s1 : Step T S H S1 H1) (ok : ItOk P w T J S1 ds) (hv : ∀ i ∈ is, i ∈ vs) (e : dcL t fc gk gv ds (wipeD δ vs) [] = some res)
    (q : ∀ b o S' H', Step T S H S' H' → H b = none → S' b = none → H' b = some o → OwR P w S' b (.own res) o → Q (.ref b) H') :
    ∀ L, H1 L = none → ∃ W : Nat → Nat → Hp → Prop, (∃ m, W 0 m (upd H1 L (DN P w L ed0 []))) ∧ ∀ i m H, W i m H →
      (J.stop i H ∧ Q (.ref L) H) ∨ (J.go i H ∧ ∃ Nx : Hp → Prop, (∀ H', Nx H' → ∃ m', m' < m ∧ W (i + 1) m' H') ∧ ∀ x H', J.yld i H x H' → tG P w T is t x (wipe σ vs) H' fun σ2 H2 => wipe σ2 vs = wipe σ vs ∧ tDT P w T fc σ2 H2 fun b H3 =>
        if b = true then tD P w T gk σ2 H3 fun y H4 => tD P w T gv σ2 H4 fun z H5 => ∃ (S : Hp) (ob : Obj) (xs : List Ent) (kvs : List (D × D)) (dk dz : D) (key : NestedKey), Same S H5 ∧ H5 L = some (DN P w L ob xs) ∧ EntL P w S xs kvs ∧ Rp P w S y dk ∧ tkey dk = some key ∧ Rp P w S z dz ∧ kvs.length < 1000000 ∧
          ∀ ob' xs', EntL P w S xs' (dput kvs dk dz) → Nx (upd H5 L (DN P w L ob' xs')) else Nx H3) := by
  intro L nL
  have k1 := k.okk.step s1
  have nS1 : S1 L = none := k1.sh.free nL
  have nH : H L = none := by
    cases z : H L with
    | none => rfl
    | some u => exact absurd nL (s1.dom k.okk (by rw [z]; simp))
  let PV : Nat → Hp → Prop := fun i H2 => ∃ S2 ob xs acc, Step T S1 H1 S2 H2 ∧ S2 L = none ∧ H2 L = some (DN P w L ob xs) ∧ EntL P w S2 xs acc ∧ dcL t fc gk gv (ds.drop i) (wipeD δ vs) acc = some res
  have p0 : PV 0 (upd H1 L (DN P w L ed0 [])) := ⟨S1, _, [], [], k1.newO nL, nS1, upd_same, .nil, e⟩
  refine ⟨fun i m H2 => m = ds.length - i ∧ i ≤ ds.length ∧ PV i H2, ⟨ds.length, by simp, Nat.zero_le _, p0⟩, ?_⟩
  rintro i m H2 ⟨rfl, hi, S2, ob, xs, acc, s2, nS2, eL, r, er⟩
  have s12 := Step.trans k.okk s1 s2
  by_cases hlt : i < ds.length
  · refine .inr ?_
    have hdi : ds[i]? = some ds[i] := by simp [hlt]
    obtain ⟨g1, g2⟩ := ok.go i S2 H2 ds[i] (k1.step s2) s2.ss hdi
    rw [List.drop_eq_getElem_cons hlt] at er
    obtain ⟨δ3, e4, e5⟩ := Option.bind_eq_some_iff.mp (show ((t ds[i] (wipeD δ vs)).bind fun δ1 => (fc δ1).bind fun x => if x = true then (gk δ1).bind fun y => (gv δ1).bind fun z => (tkey y).bind fun _ => if acc.length < 1000000 then dcL t fc gk gv (ds.drop (i + 1)) (wipeD δ vs) (dput acc y z) else none else dcL t fc gk gv (ds.drop (i + 1)) (wipeD δ vs) acc) = some res from er)
    obtain ⟨b, e6, e7⟩ := Option.bind_eq_some_iff.mp e5
    refine ⟨g1, PV (i + 1), fun H' p => ⟨ds.length - (i + 1), by omega, rfl, hlt, p⟩, fun x H3 y => ?_⟩
    obtain ⟨S3, s3, r3⟩ := g2 x H3 y
    have kw : SOk P w T B S3 (wipe σ vs) H3 (wipeD δ vs) := ((k.step s12).step s3).wiped vs
    refine ⟨B, S3, wipeD δ vs, ds[i], δ3, kw, r3, e4, fun σ4 k4 hw => ⟨?_, B, S3, δ3, b, k4, e6, fun S5 H5 s5 => ?_⟩⟩
    · rw [hw vs hv]
      exact wipe_sub vs fun i hi => hi
    · have s25 : Step T S2 H2 S5 H5 := Step.trans (k1.step s2) s3 s5
      have s35 : Step T S1 H1 S5 H5 := Step.trans k1 s2 s25
      have nLT : L ∉ T := (k1.step s2).nT eL (fun ps z => by unfold DN at z; cases z)
      cases b with
      | true =>
        obtain ⟨yv, e8, e9⟩ := Option.bind_eq_some_iff.mp (show ((gk δ3).bind fun y => (gv δ3).bind fun z => (tkey y).bind fun _ => if acc.length < 1000000 then dcL t fc gk gv (ds.drop (i + 1)) (wipeD δ vs) (dput acc y z) else none) = some res from e7)
        obtain ⟨zv, e10, e11⟩ := Option.bind_eq_some_iff.mp e9
        obtain ⟨key, e12, e13⟩ := Option.bind_eq_some_iff.mp e11
        split at e13
        · rename_i hlen
          show tD P w T gk σ4 H5 _
          refine ⟨B, S5, δ3, yv, k4.step s5, e8, fun v6 S6 H6 s6 r6 => ⟨B, S6, δ3, zv, (k4.step s5).step s6, e10, fun v7 S7 H7 s7 r7 => ?_⟩⟩
          have s27 : Step T S2 H2 S7 H7 := Step.trans (k1.step s2) s25 (Step.trans ((k1.step s2).step s25) s6 s7)
          have eL7 : H7 L = some (DN P w L ob xs) := s27.keep L _ eL nLT
          have nS7 : S7 L = none := by rw [s27.only L (by rw [eL]; simp)]; exact nS2
          have s17 : Step T S1 H1 S7 H7 := Step.trans k1 s2 s27
          refine ⟨S7, ob, xs, acc, yv, zv, key, s17.sh, eL7, r.mono s27.ss, r6.mono s7.ss, e12, r7, hlen, fun ob' xs' re => ⟨S7, ob', xs', _, ?_, nS7, upd_same, re, e13⟩⟩
          refine ⟨s17.ss, fun b u z => ?_, fun b u z n => ?_, s17.only, fun p hp => ?_⟩
          · rw [upd_ne (ne_of_none z nS7)]; exact s17.sh b u z
          · rw [upd_ne (ne_of_none z nL)]; exact s17.keep b u z n
          · have hb : p ≠ L := fun z => nLT (z ▸ hp)
            rw [upd_ne hb]; exact s17.tb p hp
        · cases e13
      | false =>
        show PV (i + 1) H5
        exact ⟨S5, ob, xs, acc, s35, by rw [s25.only L (by rw [eL]; simp)]; exact nS2, s25.keep L _ eL nLT, r.mono s25.ss, e7⟩
  · have ei : i = ds.length := by omega
    subst ei
    refine .inl ⟨ok.stop _ S2 H2 (k1.step s2) s2.ss (Nat.le_refl _), ?_⟩
    rw [List.drop_length] at er
    cases er
    exact q L _ S2 H2 s12 nH nS2 eL (.own r)
theorem pf_dc {k : Nat} (hr : Room k X.A) (hc : X.calm = true) (hN : X.N.Nodup) (hi : PId T X tg e f) (ok : BlkOk X.N X.env.scope scope own)
    (hg : ∀ (s : Shared) (H : Hp) (C : Addr) (cl : List (Str × Addr)) (fp : List Addr), PGd T (X.blk s H scope (compEnvC scope cl C X.env) fp) tg is t) (ht : ∀ (s : Shared) (H : Hp) (C : Addr) (cl : List (Str × Addr)) (fp : List Addr), PTsd T (X.blk s H scope (compEnvC scope cl C X.env) fp) ifs fc)
    (hk : ∀ (s : Shared) (H : Hp) (C : Addr) (cl : List (Str × Addr)) (fp : List Addr), PD T (X.blk s H scope (compEnvC scope cl C X.env) fp) kx gk)
    (he : ∀ (s : Shared) (H : Hp) (C : Addr) (cl : List (Str × Addr)) (fp : List Addr), PD T (X.blk s H scope (compEnvC scope cl C X.env) fp) vx gv) (hv : ∀ i ∈ is, i ∈ own.map (·.2) := by decide) (hs : ∀ x, foldedSetIterable e X.env x = pure x := by intro _; rfl) :
    PF T X (.DictComp kx vx [⟨tg, e, ifs, 0⟩] scope pos) (fdc (own.map (·.2)) f t fc gk gv) := by
  refine ⟨fun pins s σ H Q I q => ?_⟩
  obtain ⟨B, S, δ, sd, kB, ed, q⟩ := q
  obtain ⟨ds, e1, e2⟩ := Option.bind_eq_some_iff.mp ed
  obtain ⟨res, e3, rfl⟩ := Option.map_eq_some_iff.mp e2
  rw [arm_eval_DictComp]
  refine dcn_core (g := tG X.prog X.w T is t) (tt := tDT X.prog X.w T fc) (tk := tD X.prog X.w T gk) (tv := tD X.prog X.w T gv) (Q := Q) hr hc hN I hi ok hg ht hk he hs ⟨B, S, δ, ds, kB, e1, fun J S1 H1 s1 ok => tdc_of kB s1 ok hv e3 q⟩ fun L C s' m H' I' q' hn f => ⟨m, hn, fun h'' sb => ?_⟩
  obtain ⟨f0, f1, f2, f3, f4, f5⟩ := f
  exact ⟨.ref L, H', I'.turned (t' := s'.toks) (fun b o hb e => (sb.2 b hb).trans e) f0 f1 f3 f4 f5, rfl, q'⟩
end
end Gd

set_option maxHeartbeats 2000000
/-! GdR: dicts walked, listed, sorted; dict(pairs); list(range); list.index. -/
namespace Gd
open PySem PySem.Spec PyProof.Rows L2
def Itn (P : Program) (w : World) (d : Addr) (ob : Obj) (xs : List Ent) : It :=
  ⟨fun i H => H d = some (DN P w d ob xs) ∧ i < xs.length, fun i H x H' => H' = H ∧ ∃ e, xs[i]? = some e ∧ x = .ref e.2.1, fun i H => H d = some (DN P w d ob xs) ∧ xs.length ≤ i⟩
theorem turn_dn {P : Program} {w : World} {K : PySem.W.Frag} {tg : Expr} {d it : Addr} {ob : Obj} {xs : List Ent} {es : Array DictEntry} {ep : Nat} (hx : ob.ExactDict) (hd : ob.data = .dict es ep) (he : es.toList = xs.map (entryOfKey (nestedKind P w))) :
    Turn P w K tg (Itn P w d ob xs) [it] it (fun i h => h.IsKeyIter it d i es.size ep) where
  mem := by simp
  obj := fun i h st b hb => by
    have e : b = it := by simpa using hb
    subst e
    obtain ⟨o, e, c, dd⟩ := st
    exact ⟨o, e, fun v z => by rw [dd] at z; cases z⟩
  keep := fun i h h' st k => st.at fun o e => k it (by simp) o e
  item := by
    intro X hP hw hK hc i pins s σ H E I hf st hg
    subst hP hw hK
    obtain ⟨hdn, hi⟩ := hg
    obtain ⟨f0, f1, f2, f3, f4, f5⟩ := hf it (by simp)
    obtain ⟨hob, _⟩ := dn_ob I hdn
    have hx' : es[i]? = some (entryOfKey (nestedKind X.prog X.w) xs[i]) := by rw [entry_at he, List.getElem?_eq_getElem hi]; rfl
    refine next_key_item st hob hd rfl hx' fun h' st' sb => ?_
    have I1 : Inv X pins σ H { s with heap := h' } := I.turned (t' := s.toks) (fun b o hb e => (sb.2 b hb).trans e) f0 f1 f3 f4 f5
    obtain ⟨o, e, c, dd⟩ := id st'
    exact ⟨_, rfl, go_of (s := { s with heap := h' }) e c dd (by decide) ⟨.ref xs[i].2.1, H, I1, rfl, ⟨rfl, xs[i], List.getElem?_eq_getElem hi, rfl⟩, st', fun b hb => (hf b hb).1⟩⟩
  done := by
    intro X hP hw hK hc i pins s σ H E I hf st hg
    subst hP hw hK
    obtain ⟨hdn, hi⟩ := hg
    obtain ⟨f0, f1, f2, f3, f4, f5⟩ := hf it (by simp)
    obtain ⟨hob, _⟩ := dn_ob I hdn
    have hl : es.size = xs.length := size_of_entries he
    exact next_key_end (I.ok.hd hc) st hob hd rfl (by omega) fun h' eb => ⟨rfl, I.turned (t' := s.toks) (fun b o hb e => eb b o hb e) f0 f1 f3 f4 f5⟩
  self := fun _ _ _ _ _ st h => wpAny_pyIter_keyiter st h
theorem ent_at {P : Program} {w : World} {S : Hp} : ∀ {xs : List Ent} {kvs : List (D × D)} {i : Nat} {p : D × D}, EntL P w S xs kvs → kvs[i]? = some p → ∃ e, xs[i]? = some e ∧ Rp P w S (.ref e.2.1) p.1
  | _, _, i, _, .nil, h => by simp at h
  | _, _, 0, _, .cons e1 e2 r ru rv t, h => by simp at h; subst h; exact ⟨_, rfl, r⟩
  | _, _, i + 1, _, .cons e1 e2 r ru rv t, h => by
    obtain ⟨e, e3, r3⟩ := ent_at (i := i) t (by simpa using h)
    exact ⟨e, by simpa using e3, r3⟩
/-- its keys are tuples -/
def tupKeys : List (D × D) → Bool
  | (.tuple _, _) :: _ => true
  | _ => false
def keysD (kvs : List (D × D)) : List D := kvs.map (·.1)
section
variable {T : List Addr} {X : Cx} {tg a b e c : Expr} {ga gb : Sl → Option D} {pos p : Pos}
theorem itok_dn {P : Program} {w : World} {S : Hp} {d : Addr} {ob : Obj} {xs : List Ent} {kvs : List (D × D)} (e : S d = some (DN P w d ob xs)) (r : EntL P w S xs kvs) : ItOk P w T (Itn P w d ob xs) S (keysD kvs) := by
  refine ⟨fun i S' H' k kk ss hd => ?_, fun i S' H' kk ss hi => ⟨kk.sh _ _ (ss _ _ e), by rw [ent_len r]; simpa [keysD] using hi⟩⟩
  unfold keysD at hd
  rw [List.getElem?_map] at hd
  obtain ⟨p, hp, rfl⟩ := Option.map_eq_some_iff.mp hd
  obtain ⟨en, e1, r1⟩ := ent_at r hp
  refine ⟨⟨kk.sh _ _ (ss _ _ e), (List.getElem?_eq_some_iff.mp e1).1⟩, fun x H2 y => ?_⟩
  obtain ⟨rfl, en', e2, rfl⟩ := y
  rw [e1] at e2
  cases e2
  exact ⟨S', kk.refl, r1.mono ss⟩
theorem kv_nokeys {P : Program} {w : World} {S : Hp} {ks : List (Key × V)} {kvs : List (D × D)} (h : KvL P w S ks kvs) : tupKeys kvs = false := by
  cases h <;> rfl
def idct (a : Sl → Option D) : Sl → Option (List D) := fun δ => (a δ).bind fun x => match x with
  | .dict kvs => if tupKeys kvs = true then some (keysD kvs) else none
  | _ => none
theorem pi_dct (ha : PD T X a ga) : PId T X tg a (idct ga) := by
  refine ⟨fun pins s σ H R I h => ?_⟩
  obtain ⟨B, S, δ, ds, k, ed, q⟩ := h
  obtain ⟨d, e1, e2⟩ := Option.bind_eq_some_iff.mp ed
  refine thn (ha.run pins s σ H (fun v H1 => ∃ S1, Step T S H S1 H1 ∧ Rp X.prog X.w S1 v d) I ⟨B, S, δ, d, k, e1, fun v S1 H1 s1 r1 => ⟨S1, s1, r1⟩⟩) fun v s1 ⟨x, H1, I1, r1, S1, st1, rp⟩ => ?_
  cases rp with
  | @dn l ob xs kvs e r =>
    have e2 : (if tupKeys kvs = true then some (keysD kvs) else none) = some ds := e2
    split at e2
    · cases e2
      cases r1
      obtain ⟨lo, _⟩ := dn_at I1 st1.sh (st1.sh _ _ e) r
      obtain ⟨hob, es, ep, hx, hd, he⟩ := dn_ob I1 (st1.sh _ _ e)
      refine iter_keys lo hob hx hd ?_
      refine ⟨s1.heap.objs.size, [s1.heap.objs.size], _, _, H1, rfl, I1.kept (t' := s1.toks) fun b o e => Heap.get?_push_of_some _ e, turn_dn hx hd he, ⟨_, Heap.get?_push_size _ rfl, rfl, rfl⟩, fun b hb => ?_, q _ S1 H1 st1 (itok_dn e r)⟩
      have e : b = s1.heap.objs.size := by simpa using hb
      subst e
      exact I1.fpOk (Nat.le_refl _) (I1.hok.fresh (Nat.le_refl _))
    · cases e2
  | @dk l ks kvs e r =>
    have e2 : (if tupKeys kvs = true then some (keysD kvs) else none) = some ds := e2
    rw [kv_nokeys r] at e2
    cases e2
  | _ => cases e2
/-! ### list(d), sorted(d) -/
theorem ent_refs {P : Program} {w : World} {S : Hp} : ∀ {xs : List Ent} {kvs : List (D × D)}, EntL P w S xs kvs → ∃ vs, RpL P w S vs (keysD kvs) ∧ Vals vs (xs.map fun x => Value.ref x.2.1)
  | _, _, .nil => ⟨[], .nil, .nil⟩
  | _, _, .cons e1 e2 r ru rv t => by
    obtain ⟨vs, h1, h2⟩ := ent_refs t
    exact ⟨_, .cons r h1, .cons rfl h2⟩
theorem items_refs {P : Program} {w : World} {S : Hp} {xs : List Ent} {kvs : List (D × D)} {es : Array DictEntry} {acc : Array Value} (r : EntL P w S xs kvs) (he : es.toList = xs.map (entryOfKey (nestedKind P w)))
    (it : ItemsOf (fun i v => ∃ en : DictEntry, es[i]? = some en ∧ v = en.key) acc es.size) : ∃ vs, RpL P w S vs (keysD kvs) ∧ Vals vs acc.toList := by
  have l1 : es.size = xs.length := size_of_entries he
  have ea : acc.toList = xs.map fun x => Value.ref x.2.1 := by
    have hl : acc.toList.length = xs.length := by rw [Array.length_toList, it.1]; exact l1
    apply List.ext_getElem?
    intro j
    rw [List.getElem?_map]
    cases hj : acc.toList[j]? with
    | none =>
      have h1 := List.getElem?_eq_none_iff.mp hj
      rw [List.getElem?_eq_none (by omega)]
      rfl
    | some v =>
      obtain ⟨en, hen, hv⟩ := it.2 j v (by rw [← Array.getElem?_toList]; exact hj)
      have qe := entry_at he j
      rw [hen] at qe
      cases hb : xs[j]? with
      | none =>
        rw [hb] at qe
        exact nomatch (show some en = none from qe)
      | some b =>
        rw [hb] at qe
        have e2 : en = entryOfKey (nestedKind P w) b := Option.some.inj qe
        rw [hv, e2]
        rfl
  rw [ea]
  exact ent_refs r
def listN : List D → Option D
  | [.dict kvs] => if tupKeys kvs = true then some (.list (keysD kvs)) else none
  | _ => none
theorem ent_lt {X : Cx} {pins : List (Addr × Obj)} {σ : L2.St} {H S : Hp} {s : Shared} {a : Addr} {ob : Obj} {xs : List Ent} {kvs : List (D × D)} (I : Inv X pins σ H s) (sh : Same S H) (e : H a = some (DN X.prog X.w a ob xs)) (r : EntL X.prog X.w S xs kvs) : kvs.length ≤ sizeLine := by
  obtain ⟨_, h2, _⟩ := dn_at I sh e r
  rw [← ent_len r]; exact h2
theorem cr_listN (hc : X.calm = true) : CallR X (.type "list") (rC X.prog X.w T listN) := by
  intro pins s σ H xs us Q I rv h
  obtain ⟨S, ds, d, kk, r, hg, q⟩ := h
  cases r with
  | nil => cases hg
  | @cons v vs x xs r0 r1 =>
    cases r1 with
    | cons _ _ => cases r0 <;> cases hg
    | nil =>
      cases r0 with
      | @dn l ob xs kvs e r =>
        have hg : (if tupKeys kvs = true then some (PyData.list (keysD kvs)) else none) = some d := hg
        split at hg
        · cases hg
          obtain rfl := Vals.ref1 rv
          obtain ⟨lo, hl, _⟩ := dn_at I kk.sh (kk.sh _ _ e) r
          obtain ⟨hob, es, ep, hx, hd, he⟩ := dn_ob I (kk.sh _ _ e)
          have l1 : es.size = xs.length := size_of_entries he
          refine PySem.W.kdl_call (kdl_raw lo hx hd) (I.ok.hd hc) hob (by omega) fun h' tk acc' c' kp e' it => ?_
          obtain ⟨vs, h1, h2⟩ := items_refs r he it
          obtain ⟨s2, r2⟩ := kk.lst (I.hok.fresh (Nat.le_refl _)) h1
          refine ⟨.ref s.heap.objs.size, _, I.laid (t' := tk) (o := .lst vs) kp (Nat.le_refl _) ?_, rfl, q _ _ _ s2 r2⟩
          exact ⟨by rw [h1.length]; simpa [keysD] using ent_lt I kk.sh (kk.sh _ _ e) r, acc'.toList, c', h2, by rw [Array.toArray_toList]; exact e'⟩
        · cases hg
      | @dk l ks kvs e r =>
        have hg : (if tupKeys kvs = true then some (PyData.list (keysD kvs)) else none) = some d := hg
        rw [kv_nokeys r] at hg
        cases hg
      | _ => cases hg
/-- list(d), keys ints -/
def intKeys : List (D × D) → Bool
  | (.int _, _) :: _ => true
  | _ => false
def listK : List D → Option D
  | [.dict kvs] => if intKeys kvs = true then some (.list (keysD kvs)) else none
  | _ => none
theorem ent_nokeys {P : Program} {w : World} {S : Hp} {xs : List Ent} {kvs : List (D × D)} (h : EntL P w S xs kvs) : intKeys kvs = false := by
  cases h with
  | nil => rfl
  | cons e1 e2 r ru rv t => cases r <;> rfl
theorem kv_vals {P : Program} {w : World} {S : Hp} : ∀ {ks : List (Key × V)} {kvs : List (D × D)}, KvL P w S ks kvs → RpL P w S (ks.map fun kv => kV kv.1) (keysD kvs)
  | _, _, .nil => .nil
  | _, _, .cons (i := i) r t => .cons (.int i) (kv_vals t)
theorem cr_listK (hc : X.calm = true) : CallR X (.type "list") (rC X.prog X.w T listK) := by
  intro pins s σ H xs us Q I rv h
  obtain ⟨S, ds, d, kk, r, hg, q⟩ := h
  cases r with
  | nil => cases hg
  | @cons v vs x xs r0 r1 =>
    cases r1 with
    | cons _ _ => cases r0 <;> cases hg
    | nil =>
      cases r0 with
      | @dk l ks kvs e r =>
        have hg : (if intKeys kvs = true then some (PyData.list (keysD kvs)) else none) = some d := hg
        split at hg
        · cases hg
          refine call_list_dK hc pins s σ H _ us Q I rv ⟨l, ks, rfl, kk.sh _ _ e, fun p np => ?_⟩
          obtain ⟨s2, r2⟩ := kk.lst np (kv_vals r)
          exact q _ _ _ s2 r2
        · cases hg
      | @dn l ob xs kvs e r =>
        have hg : (if intKeys kvs = true then some (PyData.list (keysD kvs)) else none) = some d := hg
        rw [ent_nokeys r] at hg
        cases hg
      | _ => cases hg
/-! sorted(d) -/
mutual
theorem key_noad : ∀ {d : D} {h : Heap} {v : Value} {as : List Addr} {k : NestedKey}, keyOf d = some k → Reads h v d as → as = []
  | .none, _, _, _, _, _, r => by cases r; rfl
  | .int _, _, _, _, _, _, r => by cases r; rfl
  | .tuple ds, _, _, _, _, e, r => by
    rw [keyOf] at e
    obtain ⟨ks, e1, _⟩ := Option.map_eq_some_iff.mp e
    cases r with
    | tuple h1 h2 h3 h4 => exact keys_noad e1 h4
  | .bool _, _, _, _, _, h, _ => by simp [keyOf] at h
  | .str _, _, _, _, _, h, _ => by simp [keyOf] at h
  | .list _, _, _, _, _, h, _ => by simp [keyOf] at h
  | .dict _, _, _, _, _, h, _ => by simp [keyOf] at h
theorem keys_noad : ∀ {ds : List D} {h : Heap} {vs : List Value} {as : List Addr} {ks : List NestedKey}, keysOf ds = some ks → ReadsAll h vs ds as → as = []
  | [], _, _, _, _, _, r => by cases r; rfl
  | d :: ds, _, _, _, _, e, r => by
    rw [keysOf] at e
    obtain ⟨k, e1, e⟩ := Option.bind_eq_some_iff.mp e
    obtain ⟨ks, e2, _⟩ := Option.map_eq_some_iff.mp e
    cases r with
    | cons h1 h2 => rw [key_noad e1 h1, keys_noad e2 h2]; rfl
end
theorem ent_keys {P : Program} {w : World} {S : Hp} : ∀ {xs : List Ent} {kvs : List (D × D)}, EntL P w S xs kvs → ∀ d ∈ keysD kvs, ∃ k, keyOf d = some k
  | _, _, .nil, d, h => by cases h
  | _, _, .cons e1 e2 r ru rv t, d, h => by
    rcases List.mem_cons.mp h with z | z
    · rw [z]; exact ⟨_, e1⟩
    · exact ent_keys t d z
def sortedN : List D → Option D
  | [.dict kvs] => if tupKeys kvs = true then (sortL (keysD kvs)).map .list else none
  | _ => none
theorem sort_prem {es : List D} (ok : sortOk es = true) : es.length ≤ 1000000 ∧ nods es = true ∧ PySem.W.AllAlike (es.map id) ∧ PySem.W.Sortable (es.map id) ∧ ∀ d ∈ es, d.depth ≤ 60 := by
  unfold sortOk at ok
  rw [Bool.and_eq_true, Bool.and_eq_true, Bool.and_eq_true, Bool.and_eq_true] at ok
  obtain ⟨⟨⟨⟨o1, o2⟩, o3⟩, o4⟩, o5⟩ := ok
  refine ⟨of_decide_eq_true o1, o2, ?_, ?_, fun d hd => of_decide_eq_true (List.all_eq_true.mp o5 d hd)⟩
  · rw [List.map_id]
    intro d hd d' hd'
    exact (List.all_eq_true.mp (List.all_eq_true.mp o3 d hd)) d' hd'
  · rw [List.map_id]
    rw [Bool.or_eq_true] at o4
    rcases o4 with o4 | o4
    · refine .inl fun d hd => ?_
      have z := List.all_eq_true.mp o4 d hd
      unfold isTupC at z
      split at z
      · exact ⟨_, _, rfl⟩
      · cases z
    · refine .inr fun d hd => ?_
      have z := List.all_eq_true.mp o4 d hd
      unfold noTup at z
      split at z
      · cases z
      · cases z
      · rename_i h1 h2
        exact ⟨h1, fun xs e => h2 xs e⟩
theorem each_and {α β : Type} {R R' : α → β → Prop} : ∀ {as : List α} {bs : List β}, PySem.W.EachIs R as bs → (∀ a b, b ∈ bs → R a b → R' a b) → PySem.W.EachIs R' as bs
  | _, _, .nil, _ => .nil
  | _, _, .cons h t, f => .cons (f _ _ (List.mem_cons_self ..) h) (each_and t fun a b hb => f a b (List.mem_cons_of_mem _ hb))
theorem cr_sortedN {k : Nat} (hr : Room k X.A) (hc : X.calm = true) : CallR X (.builtin "sorted") (rC X.prog X.w T sortedN) := by
  intro pins s σ H xs us Q I rv h
  obtain ⟨S, ds, d, kk, r, hg, q⟩ := h
  cases r with
  | nil => cases hg
  | @cons v vs x xs r0 r1 =>
    cases r1 with
    | cons _ _ => cases r0 <;> cases hg
    | nil =>
      cases r0 with
      | @dn l ob xs kvs e r =>
        have hg : (if tupKeys kvs = true then (sortL (keysD kvs)).map PyData.list else none) = some d := hg
        split at hg
        · obtain ⟨res, hl, rfl⟩ := Option.map_eq_some_iff.mp hg
          unfold sortL at hl
          split at hl
          · rename_i ok
            cases hl
            obtain ⟨o1, o2, o3, o4, o5⟩ := sort_prem ok
            obtain rfl := Vals.ref1 rv
            obtain ⟨lo, hln, _⟩ := dn_at I kk.sh (kk.sh _ _ e) r
            obtain ⟨hob, es, ep, hx, hd, he⟩ := dn_ob I (kk.sh _ _ e)
            have l1 : es.size = xs.length := size_of_entries he
            refine Calls.call_function_entry PyProof.Rows.kind_sorted PyProof.Rows.plain_sorted PyProof.Rows.entry_sorted (PyProof.Rows.args_sorted1 _) ?_
            unfold Builtin.«sorted»
            refine wpAny_bind (m := checkCount "sorted" 1 1 _) (wpAny_pure ?_)
            refine wpAny_bind (PySem.W.kdu_collect (A := X.A.in1) (kdl_raw lo hx hd) (I.ok.hd hc) hob (by omega) fun h' tk acc hk hacc => ?_)
            obtain ⟨ws, h1, h2⟩ := items_refs r he hacc
            have I1 : Inv X pins σ H { s with heap := h', toks := tk } := I.kept hk
            have hal : acc.toList.length = (keysD kvs).length := by rw [← h2.length, h1.length]
            refine wpAny_bind (wpAny_newList ?_ (by rw [hal]; exact line_le o1))
            have hoL : (h'.push (seqObj "list" acc.toList.toArray 0)).get? h'.objs.size = some (seqObj "list" acc.toList.toArray 0) := Heap.get?_push_size _ rfl
            have I2 : Inv X pins σ H { s with heap := h'.push (seqObj "list" acc.toList.toArray 0), toks := tk } := I1.kept (t' := tk) fun b o e => Heap.get?_push_of_some _ e
            have er := rpl_reads I2 kk.sh h1 h2 o2
            have er' : PySem.W.EachIs (fun v b => ∃ as, Reads (h'.push (seqObj "list" acc.toList.toArray 0)) v (id b) as ∧ h'.objs.size ∉ as) acc.toList (keysD kvs) := each_and er fun v b hb ⟨as, ha⟩ => by
              obtain ⟨key, hkey⟩ := ent_keys r b hb
              have := key_noad hkey ha
              subst this
              exact ⟨[], ha, by simp⟩
            refine wpAny_bind (wpAny_holding (PySem.W.list_sort_data (enc := id) (s := { s with heap := h'.push (seqObj "list" acc.toList.toArray 0), toks := tk }) hoL (rpl_each h1 h2) er' o3 o4 (line_le o1) (fun b hb => ?_) fun out hlo eo => ?_))
            · have := o5 b hb
              have := hr.un
              show X.A.units + 1 + 1 + b.depth < cLine
              omega
            · have e1 : (keysD kvs).mergeSort (PySem.W.dataLe false id) = isort leD' (keysD kvs) := (isort_eq (le := leD') (PySem.W.sortLe_total (listOrd itemOrd) false fun b : D => PySem.W.keyToks b) (keysD kvs)).symm
              rw [e1] at eo
              obtain ⟨vs', r3, q3⟩ := each_rpl eo
              obtain ⟨e', he'⟩ := PyProof.Rows.sortedHeap_at (vs := acc.toList) (out := out.toArray) hoL
              obtain ⟨s2, r4⟩ := kk.lst (I1.hok.fresh (Nat.le_refl _)) r3
              refine wpAny_pure ⟨_, rfl, .ref h'.objs.size, upd H h'.objs.size (.lst vs'), I1.laid (t' := tk) (fun b u e => ?_) (Nat.le_refl _) ⟨by rw [r3.length, len_isort]; exact line_le o1, out, e', q3, he'⟩, rfl, q _ _ _ s2 r4⟩
              have hb : b < h'.objs.size := Heap.lt_size e
              rw [PyProof.Rows.sortedHeap_old (Nat.ne_of_lt hb) (by rw [size_push']; exact Nat.lt_succ_of_lt hb)]
              exact Heap.get?_push_of_some _ e
          · cases hl
        · cases hg
      | @dk l ks kvs e r =>
        have hg : (if tupKeys kvs = true then (sortL (keysD kvs)).map PyData.list else none) = some d := hg
        rw [kv_nokeys r] at hg
        cases hg
      | _ => cases hg
/-! ### list(range(n)) -/
def lrg (a : Sl → Option D) : Sl → Option D := fun δ => (a δ).bind fun x => match x with
  | .int n => if 0 ≤ n ∧ n ≤ 1000000 then some (.list (rgL 0 n.toNat)) else none
  | _ => none
theorem rgV_rp {P : Program} {w : World} {S : Hp} (lo : Int) : ∀ n : Nat, RpL P w S ((List.range n).map fun i => V.int (lo + (i : Nat))) (rgL lo n) := by
  intro n
  unfold rgL
  generalize List.range n = l
  induction l with
  | nil => exact .nil
  | cons x l ih => exact .cons (.int _) ih
theorem pd_listRg {p2 q2 : Pos} (hc : X.calm = true) (hg : Gl X "list") (hm : X.mg "list" = none) (hg2 : Gl X "range") (hm2 : X.mg "range" = none) (ha : PD T X a ga)
    (na : starEach [a] X.env = (false, eval a X.env) :: starEach [] X.env := by rfl) : PD T X (.Call (.Name "list" p) [.Call (.Name "range" p2) [a] [] q2] [] pos) (lrg ga) := by
  refine PE_imp (pe_listRg hc hg hm (prg_1 hg2 hm2 ha na)) fun σ H Q q => ?_
  obtain ⟨B, S, δ, d, k, ed, q⟩ := q
  obtain ⟨x, e1, ed⟩ := Option.bind_eq_some_iff.mp ed
  refine ⟨B, S, δ, x, k, e1, fun v S1 H1 s1 r1 => ?_⟩
  cases r1 with
  | int n =>
    have ed : (if 0 ≤ n ∧ n ≤ 1000000 then some (PyData.list (rgL 0 n.toNat)) else none) = some d := ed
    split at ed
    · rename_i hz
      cases ed
      refine ⟨n, rfl, RgOk.of_le (by omega) (by omega) (by omega) (by omega), fun q2 nq => ?_⟩
      have e : rgV 0 n = (List.range n.toNat).map fun i => V.int (0 + (i : Nat)) := by unfold rgV; rw [Int.sub_zero]
      rw [e]
      obtain ⟨s2, r2⟩ := (k.step s1).okk.lst nq (rgV_rp 0 n.toNat)
      exact q _ _ _ (Step.trans k.okk s1 s2) r2
    · cases ed
  | _ => cases ed
/-! ### xs.index(y) -/
def idxN (ds : List D) (y : D) : Option Nat := match ds with
  | [] => none
  | z :: r => if PyData.eqv z y = true then some 0 else (idxN r y).map (· + 1)
theorem idxN_some : ∀ {ds : List D} {y : D} {j : Nat}, idxN ds y = some j → ∃ z, ds[j]? = some z ∧ PyData.eqv z y = true ∧ ∀ (m : Nat) (z' : D), m < j → ds[m]? = some z' → PyData.eqv z' y = false
  | [], _, _, h => by cases h
  | z :: r, y, j, h => by
    unfold idxN at h
    split at h
    · rename_i q
      cases h
      exact ⟨z, rfl, q, fun m z' hm => by omega⟩
    · rename_i q
      obtain ⟨i, e, rfl⟩ := Option.map_eq_some_iff.mp h
      obtain ⟨z2, h1, h2, h3⟩ := idxN_some e
      refine ⟨z2, by simpa using h1, h2, fun m z' hm e' => ?_⟩
      cases m with
      | zero => cases e'; simpa using q
      | succ m => exact h3 m z' (by omega) (by simpa using e')
def didx (a b : Sl → Option D) : Sl → Option D := fun δ => (a δ).bind fun x => (b δ).bind fun y => match x with
  | .list ds => if okd x && okd y then (idxN ds y).map fun j => .int (j : Nat) else none
  | _ => none
theorem pd_index {k : Nat} (hr : Room k X.A) {p1 p2 p3 : Pos} (ho : PD T X a ga) (hb : PD T X b gb)
    (hbase : attributeBase a "index" X.env (eval a X.env) = eval a X.env := by rfl)
    (hfew : ((backTo p3 (starEach [b] X.env)).all (fun x => !x.1) && (backToKw p3 (keywordEach [] X.env)).all (fun x => x.1.isSome)
      && decide ([b].length + ([] : List Keyword).length + (if ([] : List Keyword).isEmpty then 0 else 1) < 30)) = true := by rfl)
    (hline : (p2.endLine == p3.line) = true := by rfl) (hs : starEach [b] X.env = (false, eval b X.env) :: starEach [] X.env := by rfl) : PD T X (.Call (.Attribute a "index" p2) [b] [] p3) (didx ga gb) := by
  refine PE_imp (pe_bm PySem.F.plainAttrs_list PySem.F.slot_list_index PySem.F.type_list_index (mt_indexD (room65 hr)) ho (pa_cons hb pa_nil hs) hbase hfew hline hs) fun σ H Q q => ?_
  obtain ⟨B, S, δ, d, kk, ed, q⟩ := q
  obtain ⟨x, e1, ed⟩ := Option.bind_eq_some_iff.mp ed
  obtain ⟨y, e2, ed⟩ := Option.bind_eq_some_iff.mp ed
  refine ⟨B, S, δ, x, kk, e1, fun v S1 H1 s1 r1 => ?_⟩
  cases r1 with
  | @lst l vs ds e r =>
    have ed : (if okd (.list ds) && okd y then (idxN ds y).map fun j => PyData.int (j : Nat) else none) = some d := ed
    split at ed
    · rename_i hz
      obtain ⟨j, ej, rfl⟩ := Option.map_eq_some_iff.mp ed
      obtain ⟨⟨n1, sh1⟩, n2, sh2⟩ := okd_and hz
      refine ⟨.inl ⟨rfl, vs, SqL.of (s1.sh _ _ e)⟩, B, S1, δ, y, kk.step s1, e2, fun v2 S2 H2 s2 r2 => ?_⟩
      obtain ⟨z, h1, h2, h3⟩ := idxN_some ej
      have s12 := Step.trans kk.okk s1 s2
      exact ⟨l, v2, y, ds, j, z, rfl, rfl, Rp.dp s12.sh (.lst (s2.ss _ _ e) (r.mono s2.ss)) n1, r2.dp s12.sh n2, sh1, sh2, h1, h2, h3, q _ S2 H2 s12 (.int _)⟩
    · cases ed
  | _ => cases ed
end
end Gd

set_option maxHeartbeats 2000000
/-! GdT: dict(list of pairs). -/
namespace Gd
open PySem PySem.Spec PyProof.Rows L2
/-- the pairs of a list -/
def pairsOf : List D → Option (List (D × D))
  | [] => some []
  | .tuple [k, v] :: r => (tkey k).bind fun _ => (pairsOf r).map fun ps => (k, v) :: ps
  | _ => none
def dputs : List (D × D) → List (D × D) → List (D × D)
  | acc, [] => acc
  | acc, (k, v) :: r => dputs (dput acc k v) r
section
variable {X : Cx} {T : List Addr} {pins : List (Addr × Obj)} {σ : L2.St} {H S : Hp} {s : Shared}
/-- a pair, told by its parts -/
structure PairE (P : Program) (w : World) (S : Hp) (x : Ent × D × D) : Prop where
  key : keyOf x.2.1 = some x.1.1
  dep : x.1.1.depth ≤ 8
  rk : Rp P w S (.ref x.1.2.1) x.2.1
  val : ∃ v, RelV v x.1.2.2 ∧ Rp P w S v x.2.2
theorem stored_ent {P : Program} {w : World} {S : Hp} : ∀ {ps : List (Ent × D × D)} {xs : List Ent} {kvs : List (D × D)}, (∀ x ∈ ps, PairE P w S x) → EntL P w S xs kvs →
    EntL P w S (storedAllH xs (ps.map (·.1))) (dputs kvs (ps.map (·.2)))
  | [], _, _, _, r => r
  | x :: ps, xs, kvs, h, r => by
    obtain ⟨e, d, rk, v, ru, rv⟩ := h x (List.mem_cons_self ..)
    exact stored_ent (ps := ps) (fun y hy => h y (List.mem_cons_of_mem _ hy)) (ent_put r e d rk ru rv)
theorem pairs_at (I : Inv X pins σ H s) (sh : Same S H) : ∀ {ds : List D} {vs : List V} {us : List Value} {ps : List (D × D)}, RpL X.prog X.w S vs ds → Vals vs us → pairsOf ds = some ps →
    ∃ (es : List (Ent × D × D)) (Ts : List Addr), es.map (·.2) = ps ∧ (∀ x ∈ es, PairE X.prog X.w S x) ∧ us = Ts.map Value.ref ∧ Ts.length = es.length ∧ ∀ (j : Nat) (x : Ent × D × D) (T : Addr), es[j]? = some x → Ts[j]? = some T → s.heap.IsTuple T #[.ref x.1.2.1, x.1.2.2]
  | [], _, _, _, .nil, .nil, h => by cases h; exact ⟨[], [], rfl, fun x hx => (by cases hx), rfl, rfl, fun j x T h => (by cases j <;> cases h)⟩
  | .tuple [k, v] :: r, _, _, _, .cons r1 rest, .cons q1 qs, h => by
    obtain ⟨key, ek, h⟩ := Option.bind_eq_some_iff.mp (show ((tkey k).bind fun _ => (pairsOf r).map fun ps => (k, v) :: ps) = some _ from h)
    obtain ⟨ps, e2, rfl⟩ := Option.map_eq_some_iff.mp h
    obtain ⟨es, Ts, h1, h2, h3, h4, h5⟩ := pairs_at I sh rest qs e2
    cases r1 with
    | @tup a vs' _ e t =>
      cases t with
      | @cons vk vs1 _ _ rk t =>
        cases t with
        | @cons vv vs2 _ _ rv t =>
          cases t
          cases q1
          obtain ⟨_, its, rvs, p⟩ : [vk, vv].length ≤ sizeLine ∧ ∃ its : List Value, Vals [vk, vv] its ∧ IsTup s.heap a its.toArray := I.hok a _ (sh _ _ e)
          cases rvs with
          | @cons _ uk _ us1 qk t =>
            cases t with
            | @cons _ uv _ us2 qv t =>
              cases t
              obtain ⟨bb, rfl, rfl, hk⟩ := tkey_is I sh rk qk ek
              obtain ⟨_, ek', hdep⟩ := tkey_of ek
              refine ⟨((key, bb, uv), k, v) :: es, a :: Ts, by rw [List.map_cons, h1], fun x hx => ?_, by rw [h3]; rfl, by rw [List.length_cons, List.length_cons, h4], fun j x T hj hT => ?_⟩
              · rcases List.mem_cons.mp hx with z | z
                · rw [z]; exact ⟨ek', hdep, rk, vv, qv, rv⟩
                · exact h2 x z
              · cases j with
                | zero =>
                  cases hj
                  cases hT
                  exact p
                | succ j => exact h5 j x T (by simpa using hj) (by simpa using hT)
  | .tuple [] :: _, _, _, _, _, _, h => by cases h
  | .tuple [_] :: _, _, _, _, _, _, h => by cases h
  | .tuple (_ :: _ :: _ :: _) :: _, _, _, _, _, _, h => by cases h
  | .none :: _, _, _, _, _, _, h => by cases h
  | .bool _ :: _, _, _, _, _, _, h => by cases h
  | .int _ :: _, _, _, _, _, _, h => by cases h
  | .str _ :: _, _, _, _, _, _, h => by cases h
  | .list _ :: _, _, _, _, _, _, h => by cases h
  | .dict _ :: _, _, _, _, _, _, h => by cases h
theorem pairE_is (I : Inv X pins σ H s) (sh : Same S H) {x : Ent × D × D} (h : PairE X.prog X.w S x) : (nestedKind X.prog X.w).is s.heap x.1.1 x.1.2.1 := ⟨rp_nest I sh h.rk rfl h.key, h.dep⟩
theorem len_dputs : ∀ (ps acc : List (D × D)), (dputs acc ps).length ≤ acc.length + ps.length
  | [], acc => by simp [dputs]
  | (k, v) :: r, acc => by
    have h1 := len_dputs r (dput acc k v)
    have h2 := len_dput acc k v
    show (dputs (dput acc k v) r).length ≤ _
    rw [List.length_cons]; omega
def dictD : List D → Option SD
  | [.list ds] => (pairsOf ds).bind fun ps => if ps.length ≤ 1000000 then some (.own (dputs [] ps)) else none
  | _ => none
/-- a call's answer is a new object of one's own -/
def rCo (P : Program) (w : World) (T : List Addr) (g : List D → Option SD) : List V → Hp → VK → Prop := fun vs H Q => ∃ S ds sd, Okk T S H ∧ RpL P w S vs ds ∧ g ds = some sd ∧ ∀ a o S' H', Step T S H S' H' → H a = none → S' a = none → H' a = some o → OwR P w S' a sd o → Q (.ref a) H'
theorem cr_dict {k : Nat} (hr : Room k X.A) (hc : X.calm = true) : CallR X (.type "dict") (rCo X.prog X.w T dictD) := by
  intro pins s σ H xs us Q I rv h
  obtain ⟨S, ds, sd, kk, r, hg, q⟩ := h
  cases r with
  | nil => cases hg
  | @cons v vs x xs r0 r1 =>
    cases r1 with
    | cons _ _ => cases r0 <;> cases hg
    | nil =>
      cases r0 with
      | @lst l ws es e r =>
        obtain ⟨ps, e1, hg⟩ := Option.bind_eq_some_iff.mp (show ((pairsOf es).bind fun ps => if ps.length ≤ 1000000 then some (SD.own (dputs [] ps)) else none) = some sd from hg)
        split at hg
        · rename_i hl
          cases hg
          obtain rfl := Vals.ref1 rv
          obtain ⟨hz, its, n, rvs, ho⟩ : ws.length ≤ sizeLine ∧ ∃ (its : List Value) (n : Nat), Vals ws its ∧ s.heap.get? l = some { cls := .type "list", data := .seq its.toArray n } := I.hok l _ (kk.sh _ _ e)
          obtain ⟨pe, Ts, h1, h2, h3, h4, h5⟩ := pairs_at I kk.sh r rvs e1
          have hpl : pe.length = ps.length := by rw [← h1, List.length_map]
          have hil : its.length = pe.length := by rw [h3, List.length_map, h4]
          let pv : List (Value × Value) := pe.map fun x => (Value.ref x.1.2.1, x.1.2.2)
          have hpv : pv.length = pe.length := by simp [pv]
          have pvj : ∀ (j : Nat) (k' v' : Value), pv[j]? = some (k', v') → ∃ x : Ent × D × D, pe[j]? = some x ∧ k' = .ref x.1.2.1 ∧ v' = x.1.2.2 := fun j k' v' hj => by
            rw [List.getElem?_map] at hj
            obtain ⟨x, hx, e⟩ := Option.map_eq_some_iff.mp hj
            cases e
            exact ⟨x, hx, rfl, rfl⟩
          have okl : PlainSeq "list" s.heap l its.toArray ∧ PairItems s.heap its.toArray (fun j => Ts.getD j 0) pv := by
            refine ⟨⟨_, n, ho, rfl, rfl, rfl⟩, by rw [List.size_toArray, hpv, hil], fun j k' v' hj => ?_⟩
            obtain ⟨x, hx, rfl, rfl⟩ := pvj j k' v' hj
            have hjl : j < pe.length := (List.getElem?_eq_some_iff.mp hx).1
            have hT : Ts[j]? = some (Ts.getD j 0) := by
              rw [List.getD_eq_getElem?_getD, List.getElem?_eq_getElem (by omega)]
              rfl
            refine ⟨?_, .inl (h5 j x _ hx hT)⟩
            rw [List.getElem?_toArray, h3, List.getElem?_map, hT]
            rfl
          have hroom : (nestedKind X.prog X.w).room X.A.in1.in1 := by
            show X.A.units + 1 + 1 + 8 < cLine
            have := hr.un; omega
          refine call_dict_pairsH (knd := nestedKind X.prog X.w) (ps := pe.map (·.1)) (PairArg.list l its.toArray (fun j => Ts.getD j 0) pv) (I.ok.hd hc) hroom okl ⟨by rw [List.length_map, hpv], fun i key v hr => ?_⟩ (fun h' hk x hx => ?_) (by rw [hpv, hpl]; exact line_le hl) fun h' tk hd hk => ?_
          · obtain ⟨x, hx, rfl, rfl⟩ := pvj i key v hr
            exact ⟨x.1.1, x.1.2.1, by rw [List.getElem?_map, hx]; rfl, rfl⟩
          · obtain ⟨y, hy, rfl⟩ := List.mem_map.mp hx
            have hy' := pairE_is I kk.sh (h2 y hy)
            exact nestedKind_stays.stays (fun b o vs n e _ => hk b o (Nat.ne_of_lt (Heap.lt_size e)) (by simp) e) hy'
          · have kp : ∀ b o, s.heap.get? b = some o → h'.get? b = some o := fun b o e => hk b o (by simp) e
            obtain ⟨ob, es', ep', hob, hx1, hx2, hx3, _, hx5⟩ := hd
            have re := stored_ent (P := X.prog) (w := X.w) h2 .nil
            rw [h1] at re
            have nH : H s.heap.objs.size = none := I.hok.fresh (Nat.le_refl _)
            have hlen : (storedAllH [] (pe.map (·.1))).length ≤ sizeLine := by
              rw [ent_len re]
              have := len_dputs ps []
              have := line_big (n := ps.length) hl
              simp at *
              omega
            have I2 : Inv X pins σ (upd H s.heap.objs.size (DN X.prog X.w s.heap.objs.size ob (storedAllH [] (pe.map (·.1))))) { s with heap := h', toks := tk } :=
              I.laid kp (Nat.le_refl _) (dn_ok (beq_eq_false_iff_ne.mpr (Ne.symm (Nat.ne_of_lt I.big))) hlen hx5 hob ⟨es', ep', hx1, hx2, hx3⟩)
            exact ⟨.ref s.heap.objs.size, _, I2, rfl, q _ _ _ _ (kk.newO nH) nH (kk.sh.free nH) upd_same (.own re)⟩
        · cases hg
      | _ => cases hg
def fcl (g : List D → Option SD) (f : Sl → Option (List D)) : Sl → Option SD := fun δ => (f δ).bind g
variable {e : Expr} {es : List Expr} {pos : Pos}
theorem pf_callTy {x : Str} {p : Pos} {id : String} {g : List D → Option SD} {f : Sl → Option (List D)} (hc : CallR X (.type id) (rCo X.prog X.w T g)) (hg : Gl X x) (hm : X.mg x = none) (hv : bootBuiltins x = some (.type id)) (ha : PAd T X (e :: es) f)
    (hn : x ≠ "__name__" := by decide) (hdb : (x == ("__debug__" : Str)) = false := by decide)
    (he : starEach (e :: es) X.env = (false, eval e X.env) :: starEach es X.env := by rfl) (hpl : (backTo pos (starEach es X.env)).any (·.1) = false := by rfl) : PF T X (.Call (.Name x p) (e :: es) [] pos) (fcl g f) := by
  refine PE_imp (pe_callTy hc hg hm hv ha hn hdb he hpl) fun σ H Q q => ?_
  obtain ⟨B, S, δ, d, kk, ed, q⟩ := q
  obtain ⟨ds, e1, e2⟩ := Option.bind_eq_some_iff.mp ed
  refine ⟨B, S, δ, ds, kk, e1, fun vs S1 H1 s1 r1 => ⟨S1, ds, d, (kk.step s1).okk, r1, e2, fun a o S' H' s n nS ea r => q a o S' H' (Step.trans kk.okk s1 s) ?_ nS ea r⟩⟩
  cases z : H a with
  | none => rfl
  | some u => exact absurd n (s1.dom kk.okk (by rw [z]; simp))
end
end Gd

set_option maxHeartbeats 2000000
/-! GdU: enumerate(tuple), dict(zip(list, tuple)). -/
namespace Gd
open PySem PySem.Spec PyProof.Rows L2
/-! ### enumerate(v) -/
theorem meets_enum1 {v : Value} {o : Obj} {H : Heap → Prop} (B : Begins v o H) :
    Meets (Builtin.«enumerate.__new__» ⟨[.type "enumerate", v], []⟩) (fun _ R s => H s.heap ∧
      R (.ok (.ret (.ref (s.heap.push o).objs.size))) { s with heap := (s.heap.push o).push { cls := .type "enumerate", data := .fields #[.none, .bool false, .ref s.heap.objs.size, rawInt 0, .none, .none] } }) :=
  .of_wp fun prog w A R s h => by
    obtain ⟨hp, g, d, tk, os⟩ := s; obtain ⟨h1, h⟩ := h
    have hsub := sub_enumerate
    have q1 : ∀ {A' : Around} {E : Value → Shared → Prop} {Q : Value → Shared → Prop}, Q (.ref hp.objs.size) ⟨hp.push o, g, d, tk, os⟩ → wpAny (model prog w) A' (pyIter v) Q E ⟨hp, g, d, tk, os⟩ :=
      fun q => B.iter prog w _ _ ⟨hp, g, d, tk, os⟩ _ h1 q
    wp_walk using q1
    refine wpAny_stack_any fun st => wpAny_pure ?_
    split
    · rename_i c _ _ _ _ _
      cases (c == Value.type "enumerate")
      · wp_walk using q1
        exact ⟨_, rfl, h⟩
      · wp_walk using q1
        exact ⟨_, rfl, h⟩
    · wp_walk using q1
      exact ⟨_, rfl, h⟩
theorem enum_begins1 {prog : Program} {w : World} {A : Around} {E : Value → Shared → Prop} {s : Shared} {v : Value} {o : Obj} {H : Heap → Prop} {Q : Value → Shared → Prop} (B : Begins v o H) (h1 : H s.heap)
    (h : ∀ h', IsEnum h' (s.heap.objs.size + 1) s.heap.objs.size 0 .none → h'.get? s.heap.objs.size = some o → h'.objs.size = s.heap.objs.size + 2 →
      (∀ b o, s.heap.get? b = some o → h'.get? b = some o) → Q (.ref (s.heap.objs.size + 1)) { s with heap := h' }) :
    wpAny (model prog w) A (call (.type "enumerate") [v]) Q E s := by
  refine callType_new F.called_enumerate (by decide) (F.typeCall_enumerate_1 _) (F.newCall_enumerate_1 _) (fun obj => F.args_object_init_2 obj _) F.entry_enumerate_new
    (meets_enum1 B) ⟨h1, ?_⟩
  have hz : (s.heap.push o).objs.size = s.heap.objs.size + 1 := Heap.size_push ..
  show _ ∧ _
  rw [hz]
  have he : IsEnum ((s.heap.push o).push { cls := .type "enumerate", data := .fields #[.none, .bool false, .ref s.heap.objs.size, rawInt 0, .none, .none] }) (s.heap.objs.size + 1) s.heap.objs.size 0 .none := by
    have := Heap.get?_push_size (s.heap.push o) (o := { cls := .type "enumerate", data := .fields #[.none, .bool false, .ref s.heap.objs.size, rawInt 0, .none, .none] }) rfl
    rw [hz] at this; exact this
  refine ⟨⟨_, he, rfl⟩, h _ he (Heap.get?_push_of_some _ (Heap.get?_push_size _ B.free)) (by rw [Heap.size_push, hz]) fun b o x => Heap.get?_push_of_some _ (Heap.get?_push_of_some _ x)⟩
/-- the tuple at a, each item in a new pair -/
def IteT (K : PySem.W.Frag) (a : Addr) : It :=
  ⟨fun i H => ∃ (xs : List V) (x : V), SqT K H a xs ∧ xs[i]? = some x ∧ H a ≠ none, fun i H v H' => ∃ T x, v = .ref T ∧ H T = none ∧ H' = upd H T (.tup [.int (i : Nat), x]) ∧ ∀ xs, SqT K H a xs → xs[i]? = some x, fun i H => ∃ xs : List V, SqT K H a xs ∧ xs.length ≤ i ∧ H a ≠ none⟩
theorem turn_enumT {P : Program} {w : World} {K : PySem.W.Frag} {elts : List Expr} {kk : Nat} {tpos : Pos} (a e it : Addr) :
    Turn P w K (.Tuple elts kk tpos) (IteT K a) [e, it] e (fun i h => (∃ old, IsEnum h e it ((i : Nat) : Int) old) ∧ h.IsTupleIter it a i ∧ e ≠ it) where
  mem := by simp
  obj := fun i h st b hb => by
    obtain ⟨⟨old, he⟩, ⟨o, ho, hc, hd⟩, _⟩ := st
    have e' : b = e ∨ b = it := by simpa using hb
    rcases e' with z | z
    · rw [z]; exact ⟨_, he, fun v q => nomatch q⟩
    · rw [z]; exact ⟨o, ho, fun v q => by rw [hd] at q; cases q⟩
  keep := fun i h h' st k => let ⟨⟨old, he⟩, hi, hne⟩ := st; ⟨⟨old, k e (by simp) _ he⟩, hi.at fun o q => k it (by simp) o q, hne⟩
  item := by
    intro X hP hw hK hc i pins s σ H E I hf st hg
    subst hP hw hK
    obtain ⟨⟨old, he⟩, hit, hne⟩ := st
    obtain ⟨xs, x, hq, hx, hna⟩ := hg
    obtain ⟨its, rv, p, hz⟩ := I.tuple hq
    obtain ⟨u, hu, ru⟩ := rv.get hx
    have hel : e < s.heap.objs.size := Heap.lt_size he
    have hil : it < s.heap.objs.size := by obtain ⟨_, q, _⟩ := hit; exact Heap.lt_size q
    have hai : a ≠ it := fun z => hna (by rw [z]; exact (hf it (by simp)).1)
    have hae : a ≠ e := fun z => hna (by rw [z]; exact (hf e (by simp)).1)
    have hlt : i < its.toArray.size := by
      have := (List.getElem?_eq_some_iff.mp hu).1
      simpa using this
    refine wpAny_pyNext_enum_itemC (Draws.tuple (A := X.A.in1) (I.ok.hd hc) it a hai its.toArray) he ⟨hit, show s.heap.IsTuple a its.toArray from p⟩ hlt hne (by simp only [List.mem_cons, List.not_mem_nil, or_false, not_or]; exact ⟨hne, Ne.symm hae⟩) fun y h' tk hP ho hst' hT hsz hk => ?_
    have ey : y = u := by
      have hP : its.toArray[i]? = some y := hP
      rw [List.getElem?_toArray, hu] at hP
      exact (Option.some.inj hP).symm
    subst ey
    obtain ⟨hit', _⟩ := hst'
    refine ⟨_, rfl, wpAny_letOwnedTupleGo_enum (s := { s with heap := h', toks := tk + 1 }) ho fun h'' he' sb => ?_⟩
    have hT2 : h''.get? s.heap.objs.size = some { cls := .type "tuple", data := .seq #[.int i tk, y] } := (sb.2 _ (Nat.ne_of_gt hel)).trans hT
    have new : ObjOk X.prog X.w (upd H s.heap.objs.size (.tup [.int (i : Nat), x])) h'' s.heap.objs.size (.tup [.int (i : Nat), x]) :=
      ⟨by show 2 ≤ sizeLine; decide, [.int i tk, y], .cons ⟨_, rfl⟩ (.cons ru .nil), ⟨_, hT2, rfl, _, rfl⟩⟩
    have I1 : Inv X pins σ (upd H s.heap.objs.size (.tup [.int (i : Nat), x])) { s with heap := h'', toks := tk + 1 } :=
      I.turnedNew (ch := [e, it]) (fun b ob hb q => (sb.2 b (fun z => hb (by simp [z]))).trans (hk b ob (fun z => hb (by simp [z])) (fun z => hb (by simp [z])) q)) hf (Nat.le_refl _) new
    refine ⟨.ref s.heap.objs.size, _, I1, rfl, ⟨_, x, rfl, I.hok.fresh (Nat.le_refl _), rfl, fun ys hy => by rw [I.tuple_inj hy hq]; exact hx⟩, ⟨⟨y, ?_⟩, hit'.at fun o q => (sb.2 it (Ne.symm hne)).trans q, hne⟩, fun b hb => ?_⟩
    · have e1 : ((i + 1 : Nat) : Int) = (i : Int) + 1 := by omega
      rw [e1]; exact he'
    · have hb' : b < s.heap.objs.size := by
        have e' : b = e ∨ b = it := by simpa using hb
        rcases e' with z | z
        · rw [z]; exact hel
        · rw [z]; exact hil
      rw [upd_ne (Nat.ne_of_lt hb')]
      exact (hf b hb).1
  done := by
    intro X hP hw hK hc i pins s σ H E I hf st hg
    subst hP hw hK
    obtain ⟨⟨old, he⟩, hit, hne⟩ := st
    obtain ⟨xs, hq, hx, hna⟩ := hg
    obtain ⟨its, rv, p, hz⟩ := I.tuple hq
    obtain ⟨f0, f1, f2, f3, f4, f5⟩ := hf it (by simp)
    have hl := rv.length
    have hT : s.TypeIs (.ref e) "enumerate" := ⟨_, he, rfl⟩
    unfold pyNext
    refine wpAny_bind (wpAny_attempt (wpAny_callSpecial?_slot (name := Str.ofString "__next__") hT F.slot_enumerate_next
      (wpAny_call_entry F.slot_enumerate_next hT F.entry_enumerate_next ?_ (F.args_enumerate_next_1 _))))
    show wpAny _ _ (field (.ref e) 2 >>= _) _ _ _
    refine wpAny_bind (wpAny_field he rfl (x := .ref it) rfl ?_)
    refine wpAny_bind (wpAny_nextOf_tuple_end (I.ok.hd hc) hit (show s.heap.IsTuple a its.toArray from p) (by simp; omega) fun h' x he' hx' => ?_)
    obtain ⟨o, ho, hc'⟩ := hx'
    refine wpAny_bind (wpAny_isInstance (T := "StopIteration") (b := true) ⟨o, ho, hc'⟩ isSubtype_stop ?_)
    exact wpAny_pure ⟨rfl, I.turned (t' := s.toks) (fun b o hb q => he' b o hb q) f0 f1 f3 f4 f5⟩
  self := fun A i s Q E st h => let ⟨⟨_, he⟩, _⟩ := st; wpAny_pyIter_enum he h
section
variable {T : List Addr} {X : Cx} {a : Expr} {ga : Sl → Option D} {pos p : Pos}
/-- enumerate(tuple) -/
def ienumT (a : Sl → Option D) : Sl → Option (List D) := fun δ => (a δ).bind fun x => match x with
  | .tuple ds => some (ds.mapIdx fun i d => .tuple [.int (i : Nat), d])
  | _ => none
theorem pi_enumT {elts : List Expr} {kk : Nat} {tpos : Pos} (hg : Gl X "enumerate") (hm : X.mg "enumerate" = none) (ha : PD T X a ga) (hs : starEach [a] X.env = [(false, eval a X.env)] := by rfl) :
    PId T X (.Tuple elts kk tpos) (.Call (.Name "enumerate" p) [a] [] pos) (ienumT ga) := by
  refine ⟨fun pins s σ H R I h => ?_⟩
  obtain ⟨B, S, δ, ds, k, ed, q⟩ := h
  obtain ⟨d, e1, e2⟩ := Option.bind_eq_some_iff.mp ed
  have haa := (pa_cons ha pa_nil hs).run pos pins s σ H (fun vs H1 => ∃ v S1, vs = [v] ∧ Step T S H S1 H1 ∧ Rp X.prog X.w S1 v d) I ⟨B, S, δ, d, k, e1, fun v S1 H1 s1 r1 => ⟨v, S1, rfl, s1, r1⟩⟩
  refine Call_ (ld_blt I hg hm boot_enumerate (PyProof.Rows.callWith_type1 (thn haa fun us s1 ⟨vs, H1, I1, r1, v, S1, ev, st1, rp⟩ => ?_) hs rfl))
  subst ev
  cases r1 with
  | cons r rr =>
    cases rr
    cases rp with
    | @tup l ws es e rp =>
      cases e2
      cases r
      have hS := SqT.of (K := X.K) (st1.sh _ _ e)
      obtain ⟨its, rv, p', hz⟩ := I1.tuple hS
      refine enum_begins1 (begins_tuple l its.toArray) (show s1.heap.IsTuple l its.toArray from p') fun h' he hit hsz hk => wpAny_pyIter_enum he ?_
      have I2 : Inv X pins σ H1 { s1 with heap := h' } := I1.kept (t' := s1.toks) hk
      refine ⟨s1.heap.objs.size + 1, [s1.heap.objs.size + 1, s1.heap.objs.size], _, _, H1, rfl, I2, turn_enumT l (s1.heap.objs.size + 1) s1.heap.objs.size, ⟨⟨.none, he⟩, ⟨_, hit, rfl, rfl⟩, Nat.succ_ne_self _⟩, fun b hb => ?_, q _ S1 H1 st1 ⟨fun i S2 H2 d k2 ss hd => ?_, fun i S2 H2 k2 ss hi => ?_⟩⟩
      · have e' : b = s1.heap.objs.size + 1 ∨ b = s1.heap.objs.size := by simpa using hb
        have hle : s1.heap.objs.size ≤ b := by
          rcases e' with z | z
          · rw [z]; exact Nat.le_add_right _ _
          · rw [z]; exact Nat.le_refl _
        exact I1.fpOk hle (I1.hok.fresh hle)
      · have eH := k2.sh _ _ (ss _ _ e)
        rw [List.getElem?_mapIdx] at hd
        obtain ⟨d0, hd0, rfl⟩ := Option.map_eq_some_iff.mp hd
        obtain ⟨v, ev, rv⟩ := rp.get' hd0
        refine ⟨⟨ws, v, SqT.of eH, ev, by rw [eH]; simp⟩, fun x H3 y => ?_⟩
        obtain ⟨TT, x', rfl, nT, rfl, y⟩ := y
        have z := y ws (SqT.of eH)
        rw [ev] at z
        cases z
        obtain ⟨s3, r3⟩ := k2.tup nT (.cons (.int (i : Nat)) (.cons (rv.mono ss) .nil))
        exact ⟨_, s3, r3⟩
      · have eH := k2.sh _ _ (ss _ _ e)
        rw [List.length_mapIdx] at hi
        exact ⟨ws, SqT.of eH, by rw [rp.length]; exact hi, by rw [eH]; simp⟩
    | _ => cases e2
end
end Gd

set_option maxHeartbeats 2000000
/-! GdV: dict(zip(list, tuple)). -/
namespace Gd
open PySem PySem.Spec PyProof.Rows L2
section
variable {prog : Program} {w : World} {A : Around} {E : Value → Shared → Prop} {s : Shared}
theorem zlt_next_item_held {z TI TO T i1 i2 l1 l2 : Addr} {f : Bool} {oT : Obj} {k1 k2 : Nat} {xs ys : Array Value} {x y : Value} {Q : Value → Shared → Prop} (D : ZipApart z TI TO i1 i2 l1 l2)
    (hz : IsZipHeld s.heap z TI TO T f) (hT : s.heap.get? T = some oT) (hTI : IsPair s.heap TI (.ref i1) (.ref i2))
    (h1 : s.heap.IsListIter i1 l1 k1) (h2 : s.heap.IsTupleIter i2 l2 k2) (hl1 : s.heap.IsList l1 xs) (hl2 : s.heap.IsTuple l2 ys) (hx : xs[k1]? = some x) (hy : ys[k2]? = some y)
    (hQ : ∀ h', IsZipHeld h' z TI TO T true → h'.IsListIter i1 l1 (k1 + 1) → h'.IsTupleIter i2 l2 (k2 + 1) → IsPair h' s.heap.objs.size x y → h'.objs.size = s.heap.objs.size + 1 →
      (∀ c o, c ≠ z → c ≠ i1 → c ≠ i2 → s.heap.get? c = some o → h'.get? c = some o) → Q (.ref s.heap.objs.size) { s with heap := h' }) :
    wpAny (model prog w) A (Builtin.«zip.__next__» ⟨[.ref z], []⟩) (fun fin s' => ∃ v, fin = .done (.ret v) ∧ Q v s') E s := by
  show wpAny _ _ (field (.ref z) 2 >>= _) _ _ _
  refine wpAny_bind (wpAny_field hz rfl (x := .bool false) rfl ?_)
  show wpAny _ _ (field (.ref z) 3 >>= _) _ _ _
  refine wpAny_bind (wpAny_field hz rfl (x := .ref TI) rfl ?_)
  refine wpAny_bind (wpAny_seqItems hTI rfl ?_)
  show wpAny _ _ (Builtin.SmallTypes.ownedTupleIsFree (.ref z) >>= _) _ _ _
  refine wpAny_bind (wpAny_tupleHeld_zip hz hT fun h₁ hz₁ hs₁ => ?_)
  simp only [Bool.false_eq_true, if_false]
  refine wpAny_bind ?_
  rw [← Array.forIn_toList]
  simp only [List.forIn_cons, List.forIn_nil]
  refine wpAny_bind (wpAny_bind (wpAny_holding ?_))
  show wpAny _ _ (Builtin.SmallTypes.nextOf (.ref i1) >>= _) _ _ _
  refine wpAny_bind (wpAny_nextOf_list_item (s := { s with heap := h₁ }) (h1.extBut hs₁.extBut D.i1z) (hl1.extBut hs₁.extBut D.l1z) hx fun h₂ h1₂ hs₂ => wpAny_pure ?_)
  refine wpAny_pure ?_
  refine wpAny_bind (wpAny_bind (wpAny_holding ?_))
  show wpAny _ _ (Builtin.SmallTypes.nextOf (.ref i2) >>= _) _ _ _
  refine wpAny_bind (wpAny_nextOf_tuple_item (s := { s with heap := h₂ }) ((h2.extBut hs₁.extBut D.i2z).extBut hs₂.extBut D.i12.symm) ((hl2.extBut hs₁.extBut D.l2z).extBut hs₂.extBut D.l2i1) hy fun h₃ h2₃ hs₃ => wpAny_pure ?_)
  refine wpAny_pure (wpAny_pure ?_)
  show wpAny _ _ (newTuple [x, y] >>= _) _ _ _
  refine wpAny_bind (wpAny_newTuple ?_)
  have hsz : h₃.objs.size = s.heap.objs.size := by rw [hs₃.1, hs₂.1, hs₁.1]
  have hz₃ : IsZipHeld h₃ z TI TO T true := hs₃.extBut _ _ D.i2z.symm (hs₂.extBut _ _ D.i1z.symm hz₁)
  have hk : ∀ c o, c ≠ z → c ≠ i1 → c ≠ i2 → s.heap.get? c = some o → h₃.get? c = some o := fun c o c1 c2 c3 e => hs₃.extBut _ _ c3 (hs₂.extBut _ _ c2 (hs₁.extBut _ _ c1 e))
  have h1₃ : h₃.IsListIter i1 l1 (k1 + 1) := h1₂.extBut hs₃.extBut D.i12
  refine wpAny_pure ⟨_, rfl, ?_⟩
  show Q (.ref h₃.objs.size) _
  have hp : IsPair (h₃.push { cls := .type "tuple", data := .seq #[x, y] }) h₃.objs.size x y := Heap.get?_push_size _ rfl
  have hz4 : (h₃.push { cls := .type "tuple", data := .seq #[x, y] }).objs.size = h₃.objs.size + 1 := Heap.size_push ..
  rw [hsz] at hp hz4 ⊢
  exact hQ _ (Heap.get?_push_of_some _ hz₃) (h1₃.at fun o e => Heap.get?_push_of_some _ e) (h2₃.at fun o e => Heap.get?_push_of_some _ e) hp hz4 fun c o c1 c2 c3 e => Heap.get?_push_of_some _ (hk c o c1 c2 c3 e)

theorem zlt_next_end_held {z TI TO T i1 i2 l1 l2 : Addr} {f : Bool} {oT : Obj} {k1 k2 : Nat} {xs ys : Array Value} {Q : Fin → Shared → Prop} (hh : A.handled = none) (D : ZipApart z TI TO i1 i2 l1 l2)
    (hz : IsZipHeld s.heap z TI TO T f) (hT : s.heap.get? T = some oT) (hTI : IsPair s.heap TI (.ref i1) (.ref i2))
    (h1 : s.heap.IsListIter i1 l1 k1) (h2 : s.heap.IsTupleIter i2 l2 k2) (hl1 : s.heap.IsList l1 xs) (hl2 : s.heap.IsTuple l2 ys) (hend : xs[k1]? = none ∨ ys[k2]? = none)
    (hE : ∀ h' e, (∀ c o, c ≠ z → c ≠ i1 → c ≠ i2 → s.heap.get? c = some o → h'.get? c = some o) → (∃ o, h'.get? e = some o ∧ o.cls = .type "StopIteration") → E (.ref e) { s with heap := h' }) :
    wpAny (model prog w) A (Builtin.«zip.__next__» ⟨[.ref z], []⟩) Q E s := by
  show wpAny _ _ (field (.ref z) 2 >>= _) _ _ _
  refine wpAny_bind (wpAny_field hz rfl (x := .bool false) rfl ?_)
  show wpAny _ _ (field (.ref z) 3 >>= _) _ _ _
  refine wpAny_bind (wpAny_field hz rfl (x := .ref TI) rfl ?_)
  refine wpAny_bind (wpAny_seqItems hTI rfl ?_)
  show wpAny _ _ (Builtin.SmallTypes.ownedTupleIsFree (.ref z) >>= _) _ _ _
  refine wpAny_bind (wpAny_tupleHeld_zip hz hT fun h₁ hz₁ hs₁ => ?_)
  simp only [Bool.false_eq_true, if_false]
  refine wpAny_bind ?_
  rw [← Array.forIn_toList]
  simp only [List.forIn_cons, List.forIn_nil]
  refine wpAny_bind (wpAny_bind (wpAny_holding ?_))
  show wpAny _ _ (Builtin.SmallTypes.nextOf (.ref i1) >>= _) _ _ _
  cases hx : xs[k1]? with
  | none =>
    refine wpAny_bind (wpAny_nextOf_list_end (s := { s with heap := h₁ }) hh (h1.extBut hs₁.extBut D.i1z) (hl1.extBut hs₁.extBut D.l1z) hx fun h₂ e hs₂ he => ?_)
    exact hE h₂ e (fun c o c1 c2 _ x => hs₂ _ _ c2 (hs₁.extBut _ _ c1 x)) he
  | some x =>
    have hy : ys[k2]? = none := by rcases hend with h | h; rw [hx] at h; cases h; exact h
    refine wpAny_bind (wpAny_nextOf_list_item (s := { s with heap := h₁ }) (h1.extBut hs₁.extBut D.i1z) (hl1.extBut hs₁.extBut D.l1z) hx fun h₂ h1₂ hs₂ => wpAny_pure ?_)
    refine wpAny_pure ?_
    refine wpAny_bind (wpAny_bind (wpAny_holding ?_))
    show wpAny _ _ (Builtin.SmallTypes.nextOf (.ref i2) >>= _) _ _ _
    refine wpAny_bind (wpAny_nextOf_tuple_end (s := { s with heap := h₂ }) hh ((h2.extBut hs₁.extBut D.i2z).extBut hs₂.extBut D.i12.symm) ((hl2.extBut hs₁.extBut D.l2z).extBut hs₂.extBut D.l2i1) hy fun h₃ e hs₃ he => ?_)
    exact hE h₃ e (fun c o c1 c2 c3 x => hs₃ _ _ c3 (hs₂.extBut _ _ c2 (hs₁.extBut _ _ c1 x))) he

theorem wpAny_pyNext_zlt_item_held {z TI TO T i1 i2 l1 l2 : Addr} {f : Bool} {oT : Obj} {k1 k2 : Nat} {xs ys : Array Value} {x y : Value} {Q : Option Value → Shared → Prop} (D : ZipApart z TI TO i1 i2 l1 l2)
    (hz : IsZipHeld s.heap z TI TO T f) (hT : s.heap.get? T = some oT) (hTI : IsPair s.heap TI (.ref i1) (.ref i2))
    (h1 : s.heap.IsListIter i1 l1 k1) (h2 : s.heap.IsTupleIter i2 l2 k2) (hl1 : s.heap.IsList l1 xs) (hl2 : s.heap.IsTuple l2 ys) (hx : xs[k1]? = some x) (hy : ys[k2]? = some y)
    (hQ : ∀ h', IsZipHeld h' z TI TO T true → h'.IsListIter i1 l1 (k1 + 1) → h'.IsTupleIter i2 l2 (k2 + 1) → IsPair h' s.heap.objs.size x y → h'.objs.size = s.heap.objs.size + 1 →
      (∀ c o, c ≠ z → c ≠ i1 → c ≠ i2 → s.heap.get? c = some o → h'.get? c = some o) → Q (some (.ref s.heap.objs.size)) { s with heap := h' }) :
    wpAny (model prog w) A (pyNext (.ref z)) Q E s := by
  have hTy : s.TypeIs (.ref z) "zip" := ⟨_, hz, rfl⟩
  unfold pyNext
  exact wpAny_bind (wpAny_attempt (wpAny_callSpecial?_slot (name := Str.ofString "__next__") hTy F.slot_zip_next
    (wpAny_call_entry F.slot_zip_next hTy F.entry_zip_next
      (zlt_next_item_held D hz hT hTI h1 h2 hl1 hl2 hx hy fun h' a1 a3 a4 a5 a6 a7 => wpAny_pure (hQ h' a1 a3 a4 a5 a6 a7)) (F.args_zip_next_1 _))))
theorem wpAny_pyNext_zlt_end_held {z TI TO T i1 i2 l1 l2 : Addr} {f : Bool} {oT : Obj} {k1 k2 : Nat} {xs ys : Array Value} {Q : Option Value → Shared → Prop} (hh : A.handled = none) (D : ZipApart z TI TO i1 i2 l1 l2)
    (hz : IsZipHeld s.heap z TI TO T f) (hT : s.heap.get? T = some oT) (hTI : IsPair s.heap TI (.ref i1) (.ref i2))
    (h1 : s.heap.IsListIter i1 l1 k1) (h2 : s.heap.IsTupleIter i2 l2 k2) (hl1 : s.heap.IsList l1 xs) (hl2 : s.heap.IsTuple l2 ys) (hend : xs[k1]? = none ∨ ys[k2]? = none)
    (hQ : ∀ h', (∀ c o, c ≠ z → c ≠ i1 → c ≠ i2 → s.heap.get? c = some o → h'.get? c = some o) → Q none { s with heap := h' }) : wpAny (model prog w) A (pyNext (.ref z)) Q E s := by
  have hTy : s.TypeIs (.ref z) "zip" := ⟨_, hz, rfl⟩
  unfold pyNext
  refine wpAny_bind (wpAny_attempt (wpAny_callSpecial?_slot (name := Str.ofString "__next__") hTy F.slot_zip_next
    (wpAny_call_entry F.slot_zip_next hTy F.entry_zip_next (zlt_next_end_held hh D hz hT hTI h1 h2 hl1 hl2 hend fun h' e hk he => ?_) (F.args_zip_next_1 _))))
  obtain ⟨o, ho, hc⟩ := he
  refine wpAny_bind (wpAny_isInstance (T := "StopIteration") (b := true) ⟨o, ho, hc⟩ isSubtype_stop ?_)
  exact wpAny_pure (hQ _ hk)

end
theorem zsep {z TI TO i1 i2 l1 l2 : Addr} (D : ZipApart z TI TO i1 i2 l1 l2) : ZipSep2 z TI TO i1 i2 [i1, l1] [i2, l2] where
  TIz := D.TIz
  TOz := D.TOz
  TITO := D.TITO
  TIi1 := D.TIi1
  mem1 := by simp
  zf1 := by simp only [List.mem_cons, List.not_mem_nil, or_false, not_or]; exact ⟨D.i1z.symm, D.l1z.symm⟩
  Tf1 := by simp only [List.mem_cons, List.not_mem_nil, or_false, not_or]; exact ⟨D.TOi1, D.l1TO.symm⟩
  TIi2 := D.TIi2
  mem2 := by simp
  zf2 := by simp only [List.mem_cons, List.not_mem_nil, or_false, not_or]; exact ⟨D.i2z.symm, D.l2z.symm⟩
  Tf2 := by simp only [List.mem_cons, List.not_mem_nil, or_false, not_or]; exact ⟨D.TOi2, D.l2TO.symm⟩
  sep1_2 := by simp only [List.mem_cons, List.not_mem_nil, or_false, not_or]; exact ⟨D.i12, D.l2i1.symm⟩
  sep2_1 := by simp only [List.mem_cons, List.not_mem_nil, or_false, not_or]; exact ⟨D.i12.symm, D.l1i2.symm⟩
section
variable {prog : Program} {w : World}
theorem pairArg_zlt (z TI TO i1 i2 l1 l2 : Addr) (D : ZipApart z TI TO i1 i2 l1 l2) (xs ys : Array Value) :
    PairArg prog w "zip" z [z, TI, TO, i1, i2, l1, l2] [z, TO, i1, i2] (min xs.size ys.size) (fun i k v => xs[i]? = some k ∧ ys[i]? = some v)
      (fun h => IsZip h z TI TO .none ∧ IsPair h TI (.ref i1) (.ref i2) ∧ (∃ a b, IsPair h TO a b) ∧ h.IsListIter i1 l1 0 ∧ h.IsTupleIter i2 l2 0 ∧ h.IsList l1 xs ∧ h.IsTuple l2 ys) where
  type := fun s ok => ⟨_, ok.1, rfl⟩
  notDict := by decide
  keep := fun h h' ok hk => by
    obtain ⟨hz, hTI, ⟨a, b, hTO⟩, h1, h2, hl1, hl2⟩ := ok
    exact ⟨hk _ _ hz, hk _ _ hTI, ⟨a, b, hk _ _ hTO⟩, h1.at fun o e => hk _ o e, h2.at fun o e => hk _ o e, hl1.at fun o e => hk _ o e, hl2.at fun o e => hk _ o e⟩
  there := fun h ok b hb => by
    obtain ⟨hz, hTI, ⟨a, c, hTO⟩, ⟨o1, h1, _⟩, ⟨o2, h2, _⟩, ⟨o3, hl1, _⟩, ⟨o4, hl2, _⟩⟩ := ok
    simp only [List.mem_cons, List.not_mem_nil, or_false] at hb
    rcases hb with rfl | rfl | rfl | rfl | rfl | rfl | rfl
    all_goals first | exact ⟨_, hz⟩ | exact ⟨_, hTI⟩ | exact ⟨_, hTO⟩ | exact ⟨_, h1⟩ | exact ⟨_, h2⟩ | exact ⟨_, hl1⟩ | exact ⟨_, hl2⟩
  sub := fun b hb => by simp at hb ⊢; rcases hb with rfl | rfl | rfl | rfl <;> simp
  noKeys := fun A s Q E hA ok h => getAttrOr_miss_zip ok.1 rfl rfl rfl zip_no_keys (by decide +kernel) hA h
  iter := fun A s d Q E hA ok hd hdf h => by
    obtain ⟨hz, hTI, ⟨a, b, hTO⟩, h1, h2, hl1, hl2⟩ := ok
    simp only [List.mem_cons, List.not_mem_nil, or_false, not_or] at hdf
    obtain ⟨dz, dTI, dTO, di1, di2, dl1, dl2⟩ := hdf
    refine wpAny_pyIter_zip hz (h z [z, TO, i1, i2] (fun i h => IsPair h TI (.ref i1) (.ref i2) ∧ h.IsListIter i1 l1 i ∧ h.IsTupleIter i2 l2 i ∧ h.IsList l1 xs ∧ h.IsTuple l2 ys ∧
      ((IsZip h z TI TO .none ∧ ∃ a b, IsPair h TO a b) ∨ ∃ T f oT, IsZipHeld h z TI TO T f ∧ h.get? T = some oT ∧ T ≠ z ∧ T ≠ i1 ∧ T ≠ i2 ∧ T ≠ d)) s.heap s.toks ?_
      ⟨hTI, h1, h2, hl1, hl2, .inl ⟨hz, a, b, hTO⟩⟩ (fun _ _ e => e) fun b hb => .inl hb)
    exact {
      off := fun hm => by
        simp only [List.mem_cons, List.not_mem_nil, or_false] at hm
        rcases hm with e | e | e | e
        · exact dz e
        · exact dTO e
        · exact di1 e
        · exact di2 e
      frame := fun i h₁ h₂ st hk => by
        obtain ⟨hTI, h1, h2, hl1, hl2, hz⟩ := st
        refine ⟨hk _ _ (Ne.symm dTI) hTI, h1.at fun o e => hk _ o (Ne.symm di1) e, h2.at fun o e => hk _ o (Ne.symm di2) e, hl1.at fun o e => hk _ o (Ne.symm dl1) e, hl2.at fun o e => hk _ o (Ne.symm dl2) e, ?_⟩
        rcases hz with ⟨hz, a, b, hTO⟩ | ⟨T, f, oT, hz, hT, r1, r2, r3, r4⟩
        · exact .inl ⟨hk _ _ (Ne.symm dz) hz, a, b, hk _ _ (Ne.symm dTO) hTO⟩
        · exact .inr ⟨T, f, oT, hk _ _ (Ne.symm dz) hz, hk _ _ r4 hT, r1, r2, r3, r4⟩
      item := fun i s₁ Q₁ E₁ hi st hds hQ => by
        obtain ⟨hTI, h1, h2, hl1, hl2, hz⟩ := st
        have hix : i < xs.size := Nat.lt_of_lt_of_le hi (Nat.min_le_left ..)
        have hiy : i < ys.size := Nat.lt_of_lt_of_le hi (Nat.min_le_right ..)
        have ex := Array.getElem?_eq_getElem hix
        have ey := Array.getElem?_eq_getElem hiy
        have lt : ∀ {c o}, s₁.heap.get? c = some o → s₁.heap.objs.size ≠ c := fun e => Nat.ne_of_gt (Heap.lt_size e)
        have n1 : s₁.heap.objs.size ≠ i1 := let ⟨_, e, _⟩ := h1; lt e
        have n2 : s₁.heap.objs.size ≠ i2 := let ⟨_, e, _⟩ := h2; lt e
        rcases hz with ⟨hz, a, b, hTO⟩ | ⟨T, f, oT, hz, hT, r1, r2, r3, r4⟩
        · refine wpAny_pyNext_zipD2_item (zsep D) (Draws.list (A := A.in1) hA i1 l1 D.l1i1 xs) (Draws.tuple (A := A.in1) hA i2 l2 D.l2i2 ys) hz hTI hTO ⟨h1, hl1⟩ ⟨h2, hl2⟩ hix hiy fun x1 x2 h' tk b1 b2 a1 a2 a3 a4 a5 a6 hk => ?_
          have hb1 : xs[i]? = some x1 := b1
          have hb2 : ys[i]? = some x2 := b2
          exact hQ s₁.heap.objs.size _ _ h' tk ⟨hb1, hb2⟩ (.inl ⟨_, a5, rfl, _, rfl⟩)
            ⟨hk _ _ D.TIz D.TITO D.TIi1 D.TIi2 hTI, a3.1, a4.1, a3.2, a4.2,
              .inr ⟨s₁.heap.objs.size, false, _, a1, a5, lt hz, n1, n2, Nat.ne_of_gt hds⟩⟩
            fun c o hc e => hk c o (fun x => hc (by simp [x])) (fun x => hc (by simp [x])) (fun x => hc (by simp [x])) (fun x => hc (by simp [x])) e
        · refine wpAny_pyNext_zlt_item_held D hz hT hTI h1 h2 hl1 hl2 ex ey fun h' a1 a3 a4 a5 a6 hk => ?_
          exact hQ s₁.heap.objs.size _ _ h' s₁.toks ⟨ex, ey⟩ (.inl ⟨_, a5, rfl, _, rfl⟩)
            ⟨hk _ _ D.TIz D.TIi1 D.TIi2 hTI, a3, a4, hl1.at fun o e => hk _ o D.l1z D.l1i1 D.l1i2 e, hl2.at fun o e => hk _ o D.l2z D.l2i1 D.l2i2 e,
              .inr ⟨T, true, oT, a1, hk _ _ r1 r2 r3 hT, r1, r2, r3, r4⟩⟩
            fun c o hc e => hk c o (fun x => hc (by simp [x])) (fun x => hc (by simp [x])) (fun x => hc (by simp [x])) e
      done := fun s₁ Q₁ E₁ st hQ => by
        obtain ⟨hTI, h1, h2, hl1, hl2, hz⟩ := st
        have hend : xs[min xs.size ys.size]? = none ∨ ys[min xs.size ys.size]? = none := by
          rcases Nat.le_total xs.size ys.size with h | h
          · exact .inl (Array.getElem?_eq_none (by rw [Nat.min_eq_left h]; exact Nat.le_refl _))
          · exact .inr (Array.getElem?_eq_none (by rw [Nat.min_eq_right h]; exact Nat.le_refl _))
        rcases hz with ⟨hz, a, b, hTO⟩ | ⟨T, f, oT, hz, hT, r1, r2, r3, r4⟩
        · refine wpAny_pyNext_zipD2_end (zsep D) (Draws.list (A := A.in1) hA i1 l1 D.l1i1 xs) (Draws.tuple (A := A.in1) hA i2 l2 D.l2i2 ys) hz hTI hTO ⟨h1, hl1⟩ ⟨h2, hl2⟩ (Nat.min_le_left ..) (Nat.min_le_right ..) ?_ fun h' tk hk => hQ h' tk fun c o hc e => hk c o (fun x => hc (by simp [x])) (fun x => hc (by simp [x])) (fun x => hc (by simp [x])) (fun x => hc (by simp [x])) e
          rcases Nat.le_total xs.size ys.size with h | h
          · exact .inl (Nat.min_eq_left h)
          · exact .inr (Nat.min_eq_right h)
        · exact wpAny_pyNext_zlt_end_held hA D hz hT hTI h1 h2 hl1 hl2 hend fun h' hk => hQ h' s₁.toks fun c o hc e => hk c o (fun x => hc (by simp [x])) (fun x => hc (by simp [x])) (fun x => hc (by simp [x])) e }

end
end Gd

set_option maxHeartbeats 2000000
/-! GdW: dict(zip(list, tuple)), as an expression. -/
namespace Gd
open PySem PySem.Spec PyProof.Rows L2
def zipP : List D → List D → Option (List (D × D))
  | k :: ks, v :: vs => (tkey k).bind fun _ => (zipP ks vs).map fun ps => (k, v) :: ps
  | _, _ => some []
section
variable {X : Cx} {T : List Addr} {pins : List (Addr × Obj)} {σ : L2.St} {H S : Hp} {s : Shared}
theorem zip_at (I : Inv X pins σ H s) (sh : Same S H) : ∀ {ks ds : List D} {vs ws : List V} {us ts : List Value} {ps : List (D × D)}, RpL X.prog X.w S vs ks → Vals vs us → RpL X.prog X.w S ws ds → Vals ws ts → zipP ks ds = some ps →
    ∃ es : List (Ent × D × D), es.map (·.2) = ps ∧ (∀ x ∈ es, PairE X.prog X.w S x) ∧ es.length = min ks.length ds.length ∧ ∀ (i : Nat) (k' v' : Value), us[i]? = some k' → ts[i]? = some v' → ∃ x : Ent × D × D, es[i]? = some x ∧ k' = .ref x.1.2.1 ∧ v' = x.1.2.2
  | [], _, _, _, _, _, _, .nil, .nil, _, _, h => by cases h; exact ⟨[], rfl, fun x hx => (by cases hx), by simp, fun i k' v' h => (by cases i <;> cases h)⟩
  | _ :: _, [], _, _, _, _, _, _, _, .nil, .nil, h => by cases h; exact ⟨[], rfl, fun x hx => (by cases hx), by simp, fun i k' v' _ h => (by cases i <;> cases h)⟩
  | _ :: _, _ :: _, _, _, _, [], _, _, _, h1, h2, _ => by cases h2; cases h1
  | k :: ks, d :: ds, _, _, _, u2 :: _, _, .cons r1 t1, .cons q1 p1, .cons r2 t2, .cons q2 p2, h => by
    obtain ⟨key, ek, h⟩ := Option.bind_eq_some_iff.mp (show ((tkey k).bind fun _ => (zipP ks ds).map fun ps => (k, d) :: ps) = some _ from h)
    obtain ⟨ps, e2, rfl⟩ := Option.map_eq_some_iff.mp h
    obtain ⟨es, h1, h2, h3, h4⟩ := zip_at I sh t1 p1 t2 p2 e2
    obtain ⟨bb, rfl, rfl, hk⟩ := tkey_is I sh r1 q1 ek
    obtain ⟨_, ek', hdep⟩ := tkey_of ek
    refine ⟨((key, bb, u2), k, d) :: es, by rw [List.map_cons, h1], fun x hx => ?_, by rw [List.length_cons, h3]; simp only [List.length_cons]; omega, fun i k' v' e3 e4 => ?_⟩
    · rcases List.mem_cons.mp hx with z | z
      · rw [z]; exact ⟨ek', hdep, r1, _, q2, r2⟩
      · exact h2 x z
    · cases i with
      | zero =>
        cases e3
        cases e4
        exact ⟨_, rfl, rfl, rfl⟩
      | succ i =>
        obtain ⟨x, e5, e6, e7⟩ := h4 i k' v' (by simpa using e3) (by simpa using e4)
        exact ⟨x, by simpa using e5, e6, e7⟩
variable {a b : Expr} {ga gb : Sl → Option D} {p p2 q2 pos : Pos}
def fzip (a b : Sl → Option D) : Sl → Option SD := fun δ => (a δ).bind fun x => (b δ).bind fun y => match x, y with
  | .list ks, .tuple ds => (zipP ks ds).bind fun ps => if ks.length ≤ 1000000 then some (.own (dputs [] ps)) else none
  | _, _ => none
theorem pf_dictZip {k : Nat} (hr : Room k X.A) (hc : X.calm = true) (hg : Gl X "dict") (hm : X.mg "dict" = none) (hg2 : Gl X "zip") (hm2 : X.mg "zip" = none) (ha : PD T X a ga) (hb : PD T X b gb)
    (hs : starEach [a, b] X.env = [(false, eval a X.env), (false, eval b X.env)] := by rfl) (hs2 : starEach [b] X.env = [(false, eval b X.env)] := by rfl) :
    PF T X (.Call (.Name "dict" p) [.Call (.Name "zip" p2) [a, b] [] q2] [] pos) (fzip ga gb) := by
  refine ⟨fun pins s σ H Q I h => ?_⟩
  obtain ⟨B, S, δ, sd, kB, ed, q⟩ := h
  obtain ⟨x, e1, ed⟩ := Option.bind_eq_some_iff.mp ed
  obtain ⟨y, e2, ed⟩ := Option.bind_eq_some_iff.mp ed
  have haa := (pa_cons ha (pa_cons hb pa_nil hs2) (by rw [hs, hs2])).run q2 pins s σ H (fun vs H1 => ∃ v u S1, vs = [v, u] ∧ Step T S H S1 H1 ∧ Rp X.prog X.w S1 v x ∧ Rp X.prog X.w S1 u y) I
    ⟨B, S, δ, x, kB, e1, fun v S1 H1 s1 r1 => ⟨B, S1, δ, y, kB.step s1, e2, fun u S2 H2 s2 r2 => ⟨v, u, S2, rfl, Step.trans kB.okk s1 s2, r1.mono s2.ss, r2⟩⟩⟩
  refine Call_ (ld_blt I hg hm PyProof.Rows.boot_dict ?_)
  refine PyProof.Rows.callWith_type1 (PyProof.Rows.args_cons ?_ rfl) rfl rfl
  refine Call_ (ld_blt I hg2 hm2 PyProof.Rows.boot_zip ?_)
  refine PyProof.Rows.callWith_type1 (thn haa fun us s1 ⟨vs, H1, I1, r1, v, u, S1, ev, st1, rp1, rp2⟩ => ?_) (by rw [hs, hs2]) (by rw [hs2]; rfl)
  subst ev
  cases r1 with
  | cons q1 r1 =>
    cases r1 with
    | cons q2 r1 =>
      cases r1
      cases rp1 with
      | @lst l ws ks el rl =>
        cases rp2 with
        | @tup l2 ws2 ds et rt =>
          obtain ⟨ps, e3, ed⟩ := Option.bind_eq_some_iff.mp (show ((zipP ks ds).bind fun ps => if ks.length ≤ 1000000 then some (SD.own (dputs [] ps)) else none) = some sd from ed)
          split at ed
          · rename_i hl
            cases ed
            cases q1
            cases q2
            obtain ⟨its, rv, pl, hz⟩ := I1.list (SqL.of (st1.sh _ _ el))
            obtain ⟨its2, rv2, pt, hz2⟩ := I1.tuple (SqT.of (st1.sh _ _ et))
            have pt' : s1.heap.IsTuple l2 its2.toArray := pt
            obtain ⟨es, h1, h2, h3, h4⟩ := zip_at I1 st1.sh rl rv rt rv2 e3
            have lt1 : l < s1.heap.objs.size := let ⟨_, o, _⟩ := pl.isList; Heap.lt_size o
            have lt2 : l2 < s1.heap.objs.size := let ⟨_, o, _⟩ := pt'; Heap.lt_size o
            refine zip_begins2 (begins_list l its.toArray) (begins_tuple l2 its2.toArray) pl.isList pt' fun h' hz' hTI hTO hi1 hi2 hsz hkp => ?_
            refine PyProof.Rows.args_nil ?_
            have D := PySem.W.ktu_apart s1.heap.objs.size l l2 lt1 lt2
            have I2 : Inv X pins σ H1 { s1 with heap := h' } := I1.kept (t' := s1.toks) hkp
            have okz : IsZip h' (s1.heap.objs.size + 4) (s1.heap.objs.size + 2) (s1.heap.objs.size + 3) .none ∧ IsPair h' (s1.heap.objs.size + 2) (.ref s1.heap.objs.size) (.ref (s1.heap.objs.size + 1)) ∧ (∃ a b, IsPair h' (s1.heap.objs.size + 3) a b) ∧
                h'.IsListIter s1.heap.objs.size l 0 ∧ h'.IsTupleIter (s1.heap.objs.size + 1) l2 0 ∧ h'.IsList l its.toArray ∧ h'.IsTuple l2 its2.toArray :=
              ⟨hz', hTI, ⟨_, _, hTO⟩, ⟨_, hi1, rfl, rfl⟩, ⟨_, hi2, rfl, rfl⟩, pl.isList.at fun o e => hkp _ o e, pt'.at fun o e => hkp _ o e⟩
            have hroom : (nestedKind X.prog X.w).room X.A.in1.in1 := by
              show X.A.units + 1 + 1 + 8 < cLine
              have := hr.un; omega
            have hil1 : its.toArray.size = ks.length := by rw [List.size_toArray, ← rv.length, rl.length]
            have hil2 : its2.toArray.size = ds.length := by rw [List.size_toArray, ← rv2.length, rt.length]
            have old : ∀ b o, s1.heap.get? b = some o → b ∉ [s1.heap.objs.size + 4, s1.heap.objs.size + 3, s1.heap.objs.size, s1.heap.objs.size + 1] := fun b o e => by
              have hb : (b : Nat) < s1.heap.objs.size := Heap.lt_size e
              simp only [List.mem_cons, List.not_mem_nil, or_false, not_or]
              exact ⟨Nat.ne_of_lt (Nat.lt_of_lt_of_le hb (Nat.le_add_right _ _)), Nat.ne_of_lt (Nat.lt_of_lt_of_le hb (Nat.le_add_right _ _)), Nat.ne_of_lt hb, Nat.ne_of_lt (Nat.lt_of_lt_of_le hb (Nat.le_add_right _ _))⟩
            refine call_dict_pairsH (s := { s1 with heap := h' }) (knd := nestedKind X.prog X.w) (ps := es.map (·.1)) (pairArg_zlt _ _ _ _ _ l l2 D its.toArray its2.toArray) (I.ok.hd hc) hroom okz ⟨by rw [List.length_map, h3, hil1, hil2], fun i key v hr => ?_⟩ (fun h'' hk x hx => ?_) (by rw [hil1, hil2]; exact Nat.le_trans (Nat.min_le_left ..) (line_le hl)) fun h'' tk hd hk => ?_
            · obtain ⟨g1, g2⟩ := hr
              obtain ⟨x, hx, rfl, rfl⟩ := h4 i key v (by simpa using g1) (by simpa using g2)
              exact ⟨x.1.1, x.1.2.1, by rw [List.getElem?_map, hx]; rfl, rfl⟩
            · obtain ⟨y, hy, rfl⟩ := List.mem_map.mp hx
              have hy' := pairE_is I1 st1.sh (h2 y hy)
              refine nestedKind_stays.stays (fun b o vs n e _ => hk b o (fun z => ?_) (old b o e) (hkp b o e)) hy'
              have hb := Heap.lt_size e
              rw [z] at hb
              have hsz' : h'.objs.size = s1.heap.objs.size + 5 := hsz
              have hb' : h'.objs.size < s1.heap.objs.size := hb
              rw [hsz'] at hb'
              exact absurd hb' (Nat.not_lt.mpr (Nat.le_add_right _ _))
            · have kp : ∀ b o, s1.heap.get? b = some o → h''.get? b = some o := fun b o e => hk b o (old b o e) (hkp b o e)
              obtain ⟨ob, es', ep', hob, hx1, hx2, hx3, _, hx5⟩ := hd
              have re := stored_ent (P := X.prog) (w := X.w) h2 .nil
              rw [h1] at re
              have hge : s1.heap.objs.size ≤ h'.objs.size := by rw [hsz]; exact Nat.le_add_right _ _
              have nH : H1 h'.objs.size = none := I1.hok.fresh hge
              have hpl : ps.length ≤ ks.length := by rw [← h1, List.length_map, h3]; exact Nat.min_le_left ..
              have hlen : (storedAllH [] (es.map (·.1))).length ≤ sizeLine := by
                rw [ent_len re]
                have := len_dputs ps []
                have := line_big (n := ks.length) hl
                simp at *
                omega
              have I3 : Inv X pins σ (upd H1 h'.objs.size (DN X.prog X.w h'.objs.size ob (storedAllH [] (es.map (·.1))))) { s1 with heap := h'', toks := tk } :=
                I1.laid kp hge (dn_ok (beq_eq_false_iff_ne.mpr (Ne.symm (Nat.ne_of_lt (Nat.lt_of_lt_of_le I1.big hge)))) hlen hx5 hob ⟨es', ep', hx1, hx2, hx3⟩)
              have k1 := kB.okk.step st1
              have s2 := k1.newO nH (o := DN X.prog X.w h'.objs.size ob (storedAllH [] (es.map (·.1))))
              refine ⟨.ref h'.objs.size, _, I3, rfl, q _ _ _ _ (Step.trans kB.okk st1 s2) ?_ (k1.sh.free nH) upd_same (.own re)⟩
              cases z : H h'.objs.size with
              | none => rfl
              | some u => exact absurd nH (st1.dom kB.okk (by rw [z]; simp))
          · cases ed
        | _ => cases ed
      | _ => cases rp2 <;> cases ed
end
end Gd

set_option maxHeartbeats 2000000
/-! GdX: printed by gen.py. -/
namespace Gd
open PySem PySem.Spec PyProof.Rows L2

/-- the text, by places -/
def topS (i : Nat) : Stmt := PySem.Challenge.pw_groupdeeds_k10_whole_prices.main.body.getD i (.Pass ⟨0, 0, 0, 0⟩)
structure Bn (mg : Str → Option Value) : Prop where
  b_len : mg "len" = none
  b_range : mg "range" = none
  b_isinstance : mg "isinstance" = none
  b_tuple : mg "tuple" = none
  b_list : mg "list" = none
  b_int : mg "int" = none
  b_bool : mg "bool" = none
  b_str : mg "str" = none
  b_sorted : mg "sorted" = none
  b_sum : mg "sum" = none
  b_all : mg "all" = none
  b_any : mg "any" = none
  b_enumerate : mg "enumerate" = none
  b_dict : mg "dict" = none
  b_zip : mg "zip" = none
  b_set : mg "set" = none
  b_max : mg "max" = none
structure Cn (mg : Str → Option Value) : Prop where
  e_MOST_PEOPLE : ∃ t, mg "MOST_PEOPLE" = some (.int 6 t)
  e_MOST_PRICE : ∃ t, mg "MOST_PRICE" = some (.int 1000 t)
  e_MOST_CHEAP : ∃ t, mg "MOST_CHEAP" = some (.int 300 t)
/-- the fuel of a while loop -/
def fuel : Nat := 1000000000
def own_val (f : Sl → Option SD) : Sl → Option D := fun δ => (f δ).map SD.val
def scC (N P : List Str) (sc : Scope) : Bool :=
  decide (sc.kind = .function) && !sc.isCoroutine && !sc.isGenerator && decide N.Nodup && decide (N.take P.length = P) && P.all (fun x => decide (sc.names.lookup x = some .local) || decide (sc.names.lookup x = some .cell)) && sc.names.all (fun y => !decide (y.2 = .free))
theorem fnScope_by {N P : List Str} {sc : Scope} (h : scC N P sc = true) : FnScope N P sc := by
  unfold scC at h
  simp only [Bool.and_eq_true, Bool.not_eq_true', decide_eq_true_eq, List.all_eq_true, Bool.or_eq_true, decide_eq_false_iff_not] at h
  obtain ⟨⟨⟨⟨⟨⟨h1, h2⟩, h3⟩, h4⟩, h5⟩, h6⟩, h7⟩ := h
  exact ⟨h1, h2, h3, h4, h5, h6, h7⟩
section
variable {T : List Addr} {X : Cx}
theorem cal_none {P : Program} {w : World} {K : PySem.W.Frag} {mg : Str → Option Value} {base : Heap} {T : List Addr} {x : Str} {st : Stmt} {cdv : Value} {f : Addr} {fd : FuncData} {ps : List Str} (F : Df K mg x st cdv f fd) (hb : L2.Binds K fd ps []) (k : Nat) :
    Cal P w K mg base k x (spD P w T ps.length fun _ => none) :=
  ⟨f, fd, ps, ⟨fun vs H Q E h => h.1, fun A outer s H args us vs Q E hr e0 hb r h => by obtain ⟨_, _, _, _, _, _, h, _⟩ := h; cases h⟩, F.mgf, F.kp, hb⟩
def dlenO (i : Nat) : Sl → Option D := fun δ => match δ[i]? with
  | some (some (.owl ds)) => some (.int ds.length)
  | _ => none
theorem pd_lenO {x : Str} {p p2 pos : Pos} (i : Nat) (hg : Gl X "len") (hm : X.mg "len" = none) (h : PE X (.Name x p) (tVar i))
    (he : starEach [.Name x p] X.env = (false, eval (.Name x p) X.env) :: starEach [] X.env := by rfl) : PD T X (.Call (.Name "len" p2) [.Name x p] [] pos) (dlenO i) := by
  refine PE_imp (pe_callB call_len hg hm (by rfl) (pa_cons h pa_nil he) (by decide) (by decide) he rfl) fun σ H Q q => ?_
  obtain ⟨B, S, δ, d, kk, ed, q⟩ := q
  unfold dlenO at ed
  split at ed
  · rename_i ds hd
    cases ed
    obtain ⟨a, o, ea, nS, eo, r, nT⟩ := slot_own kk hd rfl
    cases r with
    | @owl vs ds r => exact ⟨.ref a, ea, .ref a, vs.length, rfl, .inl ⟨vs, SqL.of eo, rfl⟩, by rw [r.length]; exact q _ S H kk.okk.refl (.int _)⟩
  · cases ed
def sdrop (a : Sl → Option D) : Sl → Option Out := fun δ => (a δ).map fun _ => .nx δ
theorem psd_drop {e : Expr} {ga : Sl → Option D} {pos : Pos} (he : PD T X e ga) (hs : swapsWith e none pos.line X.env = pure false := by rfl) : PSd T X (.Expr e pos) (sdrop ga) := by
  refine PS_imp (ps_expr he hs) fun D σ H q => ?_
  obtain ⟨B, S, δ, o, k, ed, q⟩ := q
  obtain ⟨x, e1, rfl⟩ := Option.map_eq_some_iff.mp ed
  exact ⟨B, S, δ, x, k, e1, fun v S' H' s r => q S' σ H' (k.step s) s.ss⟩
theorem pd_gc {x : Str} {i : Int} {pos : Pos} (hg : Gl X x) (hm : ∃ t, X.mg x = some (.int i t)) (hd : (x == ("__debug__" : Str)) = false := by decide) : PD T X (.Name x pos) (dc (.int i)) := by
  obtain ⟨t, e⟩ := hm
  exact pd_gint hg e hd
end
end Gd

set_option maxHeartbeats 2000000
/-! GdY1: printed by gen.py. -/
namespace Gd
open PySem PySem.Spec PyProof.Rows L2
variable {P : Program} {w : World} {K : PySem.W.Frag} {mg : Str → Option Value} {base : Heap} {T : List Addr}
def s_is_in : Stmt := topS 6
theorem sc_is_in : FnScope ["value", "least", "most"] ["value", "least", "most"] (defScope s_is_in) := fnScope_by (by decide +kernel)
def F_is_in : Sl → Option Out :=
  sret (dand (d1 (isiD .int) (dv 0)) (dand (d1 notD (d1 (isiD .bool) (dv 0))) (dch leD leD (dv 1) (dv 0) (dv 2))))
def A_is_in : List D → Option D := ansD 3 (F_is_in)
theorem ok_is_in {cdv : Value} {f : Addr} {fd : FuncData} (Mb : Bn mg) (Mc : Cn mg) (F : Df K mg "is_in" s_is_in cdv f fd) : Cal P w K mg base 1 "is_in" (spD P w T 3 (A_is_in)) :=
  cal_D F sc_is_in (F.binds (ps := ["value", "least", "most"]) fun _ _ _ _ _ _ us hl => match us, hl with | [_, _, _], _ => rfl) fun A outer s H E hr =>
    show PSsd T _ (defBody s_is_in) (F_is_in) from
    (pssd_one (psd_ret (pd_and (pd_isi .int (by rfl) Mb.b_isinstance (by rfl) Mb.b_int (by rfl) (pd_v 0 (pv 0))) (pd_and (pd_not (pd_isi .bool (by rfl) Mb.b_isinstance (by rfl) Mb.b_bool (by rfl) (pd_v 0 (pv 0)))) (pd_b1 (pd_chain or_le or_le (pd_v 1 (pv 1)) (pd_v 0 (pv 0)) (pd_v 2 (pv 2))))))))
def s_is_lot : Stmt := topS 7
theorem sc_is_lot : FnScope ["size", "value", "k", "one"] ["size", "value"] (defScope s_is_lot) := fnScope_by (by decide +kernel)
def F_is_lot : Sl → Option Out :=
  andT (sif (tor (tnot (tb (d1 (isiD .tuple) (dv 1)))) (tor (tnot (tt1 (dv 1))) (tnot (tb (dall [3] (iseq (dv 1)) (tg1 3) (dfn 3 A_is_in (ac (dv 3) (ac (dc (.int 0)) (ac (d2 subD (dv 0) (dc (.int 1))) (an)))))))))) (sret (dc (.bool false))) (snil)) (sret (dall [2] (irg1 (d2 subD (dl lenD (ac (dv 1) (an))) (dc (.int 1)))) (tg1 2) (d2 ltD (d2 ixD (dv 1) (dv 2)) (d2 ixD (dv 1) (d2 addD (dv 2) (dc (.int 1)))))))
def A_is_lot : List D → Option D := ansD 4 (F_is_lot)
theorem ok_is_lot {c Pt : Addr} {f : Addr} {fd : FuncData} (Mb : Bn mg) (Mc : Cn mg) (c_is_in : Cal P w K mg base 1 "is_in" (spD P w T 3 A_is_in)) (TB : GxR.TabB base mg c Pt) (hP : Pt ∈ T) (F : Df K mg "is_lot" s_is_lot (.ref c) f fd) : Cal P w K mg base 5 "is_lot" (spD P w T 2 (A_is_lot)) :=
  cal_D F sc_is_lot (F.binds (ps := ["size", "value"]) fun _ _ _ _ _ _ us hl => match us, hl with | [_, _], _ => rfl) fun A outer s H E hr =>
    show PSsd T _ (defBody s_is_lot) (F_is_lot) from
    (pssd_cons (psd_if (ptd_w (pw_o (pt_n (pt_b (pd_isi .tuple (by rfl) Mb.b_isinstance (by rfl) Mb.b_tuple (by rfl) (pd_v 1 (pv 1))))) (pw_o (pt_n (pt_t (pd_v 1 (pv 1)))) (pw_o1 (pt_n (pt_b (pd_all (k := 1) (own := [("one", 3)]) hr TB hP rfl rfl sc_is_lot.nd (by rfl) Mb.b_all (blkOk_by (by kernel_rfl)) (by decide +kernel) (by rfl) rfl (pi_seq (pd_v 1 (pv 1))) (fun _ _ _ _ _ _ _ => (pgd_1 (i := 3) sc_is_lot.nd rfl (by first | exact .inl rfl | exact .inr rfl))) (fun _ _ _ _ _ _ _ hr => (pd_fn c_is_in hr (by decide) (by rfl) (pa_c (pd_v 3 (pv 3)) (pa_c pd_int (pa_c (pd_op or_sub (pd_v 0 (pv 0)) pd_int) pa_n)))))))))))) (pssd_one (psd_ret pd_bl)) pssd_nil) (pssd_one (psd_ret (pd_all (k := 1) (own := [("k", 2)]) hr TB hP rfl rfl sc_is_lot.nd (by rfl) Mb.b_all (blkOk_by (by kernel_rfl)) (by decide +kernel) (by rfl) rfl (pi_rg1 (by rfl) Mb.b_range (pd_op or_sub (pd_callB cr_len (by rfl) Mb.b_len (by rfl) (pa_c (pd_v 1 (pv 1)) pa_n)) pd_int)) (fun _ _ _ _ _ _ _ => (pgd_1 (i := 2) sc_is_lot.nd rfl (by first | exact .inl rfl | exact .inr rfl))) (fun _ _ _ _ _ _ _ hr => (pd_cmp (or_lt hr) (pd_ix hr (pd_v 1 (pv 1)) (pd_v 2 (pv 2))) (pd_ix hr (pd_v 1 (pv 1)) (pd_op or_add (pd_v 2 (pv 2)) pd_int))))))))
def s_is_grouping : Stmt := topS 8
theorem sc_is_grouping : FnScope ["value", "people", "lot", "k"] ["value"] (defScope s_is_grouping) := fnScope_by (by decide +kernel)
def F_is_grouping : Sl → Option Out :=
  andT (sif (tor (tnot (tb (d1 (isiD .tuple) (dv 0)))) (tor (tnot (tt1 (dv 0))) (tnot (tb (dall [2] (iseq (dv 0)) (tg1 2) (dfn 2 A_is_lot (ac (dc (.int 6)) (ac (dv 2) (an))))))))) (sret (dc (.bool false))) (snil)) (andT (sset 1 (dl mkL (an))) (andT (sfor (iseq (dv 0)) (tg1 2) (sset 1 (d2 addD (dv 1) (dl listD (ac (dv 2) (an)))))) (andT (sif (tb (d2 neD (dl sortedD (ac (dv 1) (an))) (lrg (dl lenD (ac (dv 1) (an)))))) (sret (dc (.bool false))) (snil)) (sret (dall [3] (irg1 (d2 subD (dl lenD (ac (dv 0) (an))) (dc (.int 1)))) (tg1 3) (d2 ltD (d2 ixD (dv 0) (dv 3)) (d2 ixD (dv 0) (d2 addD (dv 3) (dc (.int 1))))))))))
def A_is_grouping : List D → Option D := ansD 4 (F_is_grouping)
theorem ok_is_grouping {c Pt : Addr} {f : Addr} {fd : FuncData} (Mb : Bn mg) (Mc : Cn mg) (c_is_lot : Cal P w K mg base 5 "is_lot" (spD P w T 2 A_is_lot)) (TB : GxR.TabB base mg c Pt) (hP : Pt ∈ T) (F : Df K mg "is_grouping" s_is_grouping (.ref c) f fd) : Cal P w K mg base 9 "is_grouping" (spD P w T 1 (A_is_grouping)) :=
  cal_D F sc_is_grouping (F.binds (ps := ["value"]) fun _ _ _ _ _ _ us hl => match us, hl with | [_], _ => rfl) fun A outer s H E hr =>
    show PSsd T _ (defBody s_is_grouping) (F_is_grouping) from
    (pssd_cons (psd_if (ptd_w (pw_o (pt_n (pt_b (pd_isi .tuple (by rfl) Mb.b_isinstance (by rfl) Mb.b_tuple (by rfl) (pd_v 0 (pv 0))))) (pw_o (pt_n (pt_t (pd_v 0 (pv 0)))) (pw_o1 (pt_n (pt_b (pd_all (k := 5) (own := [("lot", 2)]) hr TB hP rfl rfl sc_is_grouping.nd (by rfl) Mb.b_all (blkOk_by (by kernel_rfl)) (by decide +kernel) (by rfl) rfl (pi_seq (pd_v 0 (pv 0))) (fun _ _ _ _ _ _ _ => (pgd_1 (i := 2) sc_is_grouping.nd rfl (by first | exact .inl rfl | exact .inr rfl))) (fun _ _ _ _ _ _ _ hr => (pd_fn c_is_lot hr (by decide) (by rfl) (pa_c (pd_gc (by rfl) Mc.e_MOST_PEOPLE) (pa_c (pd_v 2 (pv 2)) pa_n))))))))))) (pssd_one (psd_ret pd_bl)) pssd_nil) (pssd_cons (psd_set (i := 1) sc_is_grouping.nd rfl (by first | exact .inl rfl | exact .inr rfl) (pd_lst pa_n)) (pssd_cons (psd_for PassesOwn.never rfl (pi_seq (pd_v 0 (pv 0))) (pgd_1 (i := 2) sc_is_grouping.nd rfl (by first | exact .inl rfl | exact .inr rfl)) (pssd_one (psd_set (i := 1) sc_is_grouping.nd rfl (by first | exact .inl rfl | exact .inr rfl) (pd_op or_add (pd_v 1 (pv 1)) (pd_callTy cr_list (by rfl) Mb.b_list (by rfl) (pa_c (pd_v 2 (pv 2)) pa_n)))))) (pssd_cons (psd_if (pt_cmp' (or_ne hr) (pd_callB (call_sorted hr) (by rfl) Mb.b_sorted (by rfl) (pa_c (pd_v 1 (pv 1)) pa_n)) (pd_listRg rfl (by rfl) Mb.b_list (by rfl) Mb.b_range (pd_callB cr_len (by rfl) Mb.b_len (by rfl) (pa_c (pd_v 1 (pv 1)) pa_n)))) (pssd_one (psd_ret pd_bl)) pssd_nil) (pssd_one (psd_ret (pd_all (k := 5) (own := [("k", 3)]) hr TB hP rfl rfl sc_is_grouping.nd (by rfl) Mb.b_all (blkOk_by (by kernel_rfl)) (by decide +kernel) (by rfl) rfl (pi_rg1 (by rfl) Mb.b_range (pd_op or_sub (pd_callB cr_len (by rfl) Mb.b_len (by rfl) (pa_c (pd_v 0 (pv 0)) pa_n)) pd_int)) (fun _ _ _ _ _ _ _ => (pgd_1 (i := 3) sc_is_grouping.nd rfl (by first | exact .inl rfl | exact .inr rfl))) (fun _ _ _ _ _ _ _ hr => (pd_cmp (or_lt hr) (pd_ix hr (pd_v 0 (pv 0)) (pd_v 3 (pv 3))) (pd_ix hr (pd_v 0 (pv 0)) (pd_op or_add (pd_v 3 (pv 3)) pd_int)))))))))))
def s_size_of : Stmt := topS 9
theorem sc_size_of : FnScope ["grouping", "lot"] ["grouping"] (defScope s_size_of) := fnScope_by (by decide +kernel)
def F_size_of : Sl → Option Out :=
  sret (dsum [1] (iseq (dv 0)) (tg1 1) (dl lenD (ac (dv 1) (an))))
def A_size_of : List D → Option D := ansD 2 (F_size_of)
theorem ok_size_of {c Pt : Addr} {f : Addr} {fd : FuncData} (Mb : Bn mg) (Mc : Cn mg) (TB : GxR.TabB base mg c Pt) (hP : Pt ∈ T) (F : Df K mg "size_of" s_size_of (.ref c) f fd) : Cal P w K mg base 4 "size_of" (spD P w T 1 (A_size_of)) :=
  cal_D F sc_size_of (F.binds (ps := ["grouping"]) fun _ _ _ _ _ _ us hl => match us, hl with | [_], _ => rfl) fun A outer s H E hr =>
    show PSsd T _ (defBody s_size_of) (F_size_of) from
    (pssd_one (psd_ret (pd_sumG (k := 0) (own := [("lot", 1)]) hr TB hP rfl rfl sc_size_of.nd (by rfl) Mb.b_sum (blkOk_by (by kernel_rfl)) (by decide +kernel) (by rfl) rfl (pi_seq (pd_v 0 (pv 0))) (fun _ _ _ _ _ _ _ => (pgd_1 (i := 1) sc_size_of.nd rfl (by first | exact .inl rfl | exact .inr rfl))) (fun _ _ _ _ _ _ _ hr => (pd_callB cr_len (by rfl) Mb.b_len (by rfl) (pa_c (pd_v 1 (pv 1)) pa_n))))))
def s_need_grouping : Stmt := topS 10
theorem sc_need_grouping : FnScope ["grouping"] ["grouping"] (defScope s_need_grouping) := fnScope_by (by decide +kernel)
def F_need_grouping : Sl → Option Out :=
  sif (tnot (tb (dfn 1 A_is_grouping (ac (dv 0) (an))))) (snever) (snil)
def A_need_grouping : List D → Option D := ansD 1 (F_need_grouping)
theorem ok_need_grouping {cdv : Value} {f : Addr} {fd : FuncData} (Mb : Bn mg) (Mc : Cn mg) (c_is_grouping : Cal P w K mg base 9 "is_grouping" (spD P w T 1 A_is_grouping)) (F : Df K mg "need_grouping" s_need_grouping cdv f fd) : Cal P w K mg base 10 "need_grouping" (spD P w T 1 (A_need_grouping)) :=
  cal_D F sc_need_grouping (F.binds (ps := ["grouping"]) fun _ _ _ _ _ _ us hl => match us, hl with | [_], _ => rfl) fun A outer s H E hr =>
    show PSsd T _ (defBody s_need_grouping) (F_need_grouping) from
    (pssd_one (psd_if (pt_n (pt_b (pd_fn c_is_grouping hr (by decide) (by rfl) (pa_c (pd_v 0 (pv 0)) pa_n)))) (pssd_one psd_never) pssd_nil))
def s_all_groupings : Stmt := topS 11
theorem sc_all_groupings : FnScope ["size", "found", "person", "more", "grouping", "at", "lot"] ["size"] (defScope s_all_groupings) := fnScope_by (by decide +kernel)
def F_all_groupings : Sl → Option Out :=
  andT (sset 1 (dl mkL (ac (dl mkT (an)) (an)))) (andT (sfor (irg1 (dv 0)) (tg1 2) (andT (sown 3 (fl (an))) (andT (sfor (iseq (dv 1)) (tg1 4) (andT (sfor (ienumT (dv 4)) (tg2 5 6) (sapp 3 (dl mkT (as (dsl (dv 4) (pn) (ps1 (dv 5))) (ac (dl mkT (as (dv 6) (ac (dv 2) (an)))) (as (dsl (dv 4) (ps1 (d2 addD (dv 5) (dc (.int 1)))) (pn)) (an))))))) (sapp 3 (dl mkT (as (dv 4) (ac (dl mkT (ac (dv 2) (an))) (an))))))) (sfrz 3 (sset 1 (dv 3)))))) (sret (dl sortedD (ac (dv 1) (an)))))
def A_all_groupings : List D → Option D := ansD 7 (F_all_groupings)
theorem ok_all_groupings {cdv : Value} {f : Addr} {fd : FuncData} (Mb : Bn mg) (Mc : Cn mg) (F : Df K mg "all_groupings" s_all_groupings cdv f fd) : Cal P w K mg base 1 "all_groupings" (spD P w T 1 (A_all_groupings)) :=
  cal_D F sc_all_groupings (F.binds (ps := ["size"]) fun _ _ _ _ _ _ us hl => match us, hl with | [_], _ => rfl) fun A outer s H E hr =>
    show PSsd T _ (defBody s_all_groupings) (F_all_groupings) from
    (pssd_cons (psd_set (i := 1) sc_all_groupings.nd rfl (by first | exact .inl rfl | exact .inr rfl) (pd_lst (pa_c (pd_tup pa_n) pa_n))) (pssd_cons (psd_for PassesOwn.never rfl (pi_rg1 (by rfl) Mb.b_range (pd_v 0 (pv 0))) (pgd_1 (i := 2) sc_all_groupings.nd rfl (by first | exact .inl rfl | exact .inr rfl)) (pssd_cons (psd_own (i := 3) sc_all_groupings.nd rfl (by first | exact .inl rfl | exact .inr rfl) (pf_lst pa_n)) (pssd_cons (psd_for PassesOwn.never rfl (pi_seq (pd_v 1 (pv 1))) (pgd_1 (i := 4) sc_all_groupings.nd rfl (by first | exact .inl rfl | exact .inr rfl)) (pssd_cons (psd_for PassesOwn.never rfl (pi_enumT (by rfl) Mb.b_enumerate (pd_v 4 (pv 4))) (pgd_2 (i := 5) (j := 6) rfl sc_all_groupings.nd rfl rfl (by first | exact .inl rfl | exact .inr rfl) (by first | exact .inl rfl | exact .inr rfl)) (pssd_one (psd_app 3 (pv 3) (pd_tup (pa_s (pd_slice (pd_v 4 (pv 4)) po_n (po_s (pd_v 5 (pv 5)))) (pa_c (pd_tup (pa_s (pd_v 6 (pv 6)) (pa_c (pd_v 2 (pv 2)) pa_n))) (pa_s (pd_slice (pd_v 4 (pv 4)) (po_s (pd_op or_add (pd_v 5 (pv 5)) pd_int)) po_n) pa_n))))))) (pssd_one (psd_app 3 (pv 3) (pd_tup (pa_s (pd_v 4 (pv 4)) (pa_c (pd_tup (pa_c (pd_v 2 (pv 2)) pa_n)) pa_n))))))) (pssd_one (psd_frz 3 (psd_set (i := 1) sc_all_groupings.nd rfl (by first | exact .inl rfl | exact .inr rfl) (pd_v 3 (pv 3)))))))) (pssd_one (psd_ret (pd_callB (call_sorted hr) (by rfl) Mb.b_sorted (by rfl) (pa_c (pd_v 1 (pv 1)) pa_n))))))
def s_is_step : Stmt := topS 12
theorem sc_is_step : FnScope ["size", "value"] ["size", "value"] (defScope s_is_step) := fnScope_by (by decide +kernel)
def F_is_step : Sl → Option Out :=
  sret (dand (dfn 2 A_is_lot (ac (dv 0) (ac (dv 1) (an)))) (d2 leD (dl lenD (ac (dv 1) (an))) (dc (.int 2))))
def A_is_step : List D → Option D := ansD 2 (F_is_step)
theorem ok_is_step {cdv : Value} {f : Addr} {fd : FuncData} (Mb : Bn mg) (Mc : Cn mg) (c_is_lot : Cal P w K mg base 5 "is_lot" (spD P w T 2 A_is_lot)) (F : Df K mg "is_step" s_is_step cdv f fd) : Cal P w K mg base 6 "is_step" (spD P w T 2 (A_is_step)) :=
  cal_D F sc_is_step (F.binds (ps := ["size", "value"]) fun _ _ _ _ _ _ us hl => match us, hl with | [_, _], _ => rfl) fun A outer s H E hr =>
    show PSsd T _ (defBody s_is_step) (F_is_step) from
    (pssd_one (psd_ret (pd_and (pd_fn c_is_lot hr (by decide) (by rfl) (pa_c (pd_v 0 (pv 0)) (pa_c (pd_v 1 (pv 1)) pa_n))) (pd_b1 (pd_cmp or_le (pd_callB cr_len (by rfl) Mb.b_len (by rfl) (pa_c (pd_v 1 (pv 1)) pa_n)) pd_int)))))
def s_lot_with : Stmt := topS 13
theorem sc_lot_with : FnScope ["grouping", "person", "lot"] ["grouping", "person"] (defScope s_lot_with) := fnScope_by (by decide +kernel)
def F_lot_with : Sl → Option Out :=
  sret (d2 ixD (dlc [2] (iseq (dv 0)) (tg1 2) (tb (d2 inD (dv 1) (dv 2))) (dv 2)) (dc (.int 0)))
def A_lot_with : List D → Option D := ansD 3 (F_lot_with)
theorem ok_lot_with {cdv : Value} {f : Addr} {fd : FuncData} (Mb : Bn mg) (Mc : Cn mg) (F : Df K mg "lot_with" s_lot_with cdv f fd) : Cal P w K mg base 1 "lot_with" (spD P w T 2 (A_lot_with)) :=
  cal_D F sc_lot_with (F.binds (ps := ["grouping", "person"]) fun _ _ _ _ _ _ us hl => match us, hl with | [_, _], _ => rfl) fun A outer s H E hr =>
    show PSsd T _ (defBody s_lot_with) (F_lot_with) from
    (pssd_one (psd_ret (pd_ix hr (pd_flc (pf_lc (own := [("lot", 2)]) rfl sc_lot_with.nd (pi_seq (pd_v 0 (pv 0))) (blkOk_by (by kernel_rfl)) (fun _ _ _ _ _ => (pgd_1 (i := 2) sc_lot_with.nd rfl (by first | exact .inl rfl | exact .inr rfl))) (fun _ _ _ _ _ => (ptsd_one (pt_cmp' (or_in hr) (pd_v 1 (pv 1)) (pd_v 2 (pv 2))))) (fun _ _ _ _ _ => (pd_v 2 (pv 2))))) pd_int)))
end Gd

set_option maxHeartbeats 2000000
/-! GdY2: printed by gen.py. -/
namespace Gd
open PySem PySem.Spec PyProof.Rows L2
variable {P : Program} {w : World} {K : PySem.W.Frag} {mg : Str → Option Value} {base : Heap} {T : List Addr}
def s_joined : Stmt := topS 14
theorem sc_joined : FnScope ["grouping", "one", "other", "rest", "first", "second", "lot"] ["grouping", "one", "other"] (defScope s_joined) := fnScope_by (by decide +kernel)
def F_joined : Sl → Option Out :=
  andT (spar [4, 5] (aoc (dfn 2 A_lot_with (ac (dv 0) (ac (dv 1) (an)))) (aoc (dfn 2 A_lot_with (ac (dv 0) (ac (dv 2) (an)))) (aon)))) (andT (sif (tb (d2 eqD (dv 4) (dv 5))) (sret (dv 0)) (snil)) (andT (sset 3 (dlc [6] (iseq (dv 0)) (tg1 6) (tb (d2 notinD (dv 6) (dl mkT (ac (dv 4) (ac (dv 5) (an)))))) (dv 6))) (sret (dl tupleD (ac (dl sortedD (ac (dl mkL (as (dv 3) (ac (dl tupleD (ac (dl sortedD (ac (dl mkL (as (dv 4) (as (dv 5) (an)))) (an))) (an))) (an)))) (an))) (an))))))
def A_joined : List D → Option D := ansD 7 (F_joined)
theorem ok_joined {cdv : Value} {f : Addr} {fd : FuncData} (Mb : Bn mg) (Mc : Cn mg) (c_lot_with : Cal P w K mg base 1 "lot_with" (spD P w T 2 A_lot_with)) (F : Df K mg "joined" s_joined cdv f fd) : Cal P w K mg base 2 "joined" (spD P w T 3 (A_joined)) :=
  cal_D F sc_joined (F.binds (ps := ["grouping", "one", "other"]) fun _ _ _ _ _ _ us hl => match us, hl with | [_, _, _], _ => rfl) fun A outer s H E hr =>
    show PSsd T _ (defBody s_joined) (F_joined) from
    (pssd_cons (psd_parC2 (i := 4) (j := 5) rfl sc_joined.nd rfl rfl (by first | exact .inl rfl | exact .inr rfl) (by first | exact .inl rfl | exact .inr rfl) (pao_c (pd_fn c_lot_with hr (by decide) (by rfl) (pa_c (pd_v 0 (pv 0)) (pa_c (pd_v 1 (pv 1)) pa_n))) (pao_c (pd_fn c_lot_with hr (by decide) (by rfl) (pa_c (pd_v 0 (pv 0)) (pa_c (pd_v 2 (pv 2)) pa_n))) pao_n))) (pssd_cons (psd_if (pt_cmp' (or_eq hr) (pd_v 4 (pv 4)) (pd_v 5 (pv 5))) (pssd_one (psd_ret (pd_v 0 (pv 0)))) pssd_nil) (pssd_cons (psd_setLc (i := 3) (own := [("lot", 6)]) rfl sc_joined.nd rfl rfl (sw_true rfl rfl rfl rfl) (pi_seq (pd_v 0 (pv 0))) (blkOk_by (by kernel_rfl)) (fun _ _ _ _ _ => (pgd_1 (i := 6) sc_joined.nd rfl (by first | exact .inl rfl | exact .inr rfl))) (fun _ _ _ _ _ => (ptsd_one (pt_cmp' (or_notin hr) (pd_v 6 (pv 6)) (pd_tup (pa_c (pd_v 4 (pv 4)) (pa_c (pd_v 5 (pv 5)) pa_n)))))) (fun _ _ _ _ _ => (pd_v 6 (pv 6)))) (pssd_one (psd_ret (pd_callTy cr_tuple (by rfl) Mb.b_tuple (by rfl) (pa_c (pd_callB (call_sorted hr) (by rfl) Mb.b_sorted (by rfl) (pa_c (pd_lst (pa_s (pd_v 3 (pv 3)) (pa_c (pd_callTy cr_tuple (by rfl) Mb.b_tuple (by rfl) (pa_c (pd_callB (call_sorted hr) (by rfl) Mb.b_sorted (by rfl) (pa_c (pd_lst (pa_s (pd_v 4 (pv 4)) (pa_s (pd_v 5 (pv 5)) pa_n))) pa_n)) pa_n)) pa_n))) pa_n)) pa_n)))))))
def s_left : Stmt := topS 15
theorem sc_left : FnScope ["grouping", "person", "lot", "rest", "others", "other", "one"] ["grouping", "person"] (defScope s_left) := fnScope_by (by decide +kernel)
def F_left : Sl → Option Out :=
  andT (sset 2 (dfn 2 A_lot_with (ac (dv 0) (ac (dv 1) (an))))) (andT (sset 3 (dlc [5] (iseq (dv 0)) (tg1 5) (tb (d2 neD (dv 5) (dv 2))) (dv 5))) (andT (sset 4 (dl tupleD (ac (dlc [6] (iseq (dv 2)) (tg1 6) (tb (d2 neD (dv 6) (dv 1))) (dv 6)) (an)))) (sret (dl tupleD (ac (dl sortedD (ac (dl mkL (as (dv 3) (as (dif (tt1 (dv 4)) (dl mkL (ac (dv 4) (an))) (dl mkL (an))) (ac (dl mkT (ac (dv 1) (an))) (an))))) (an))) (an))))))
def A_left : List D → Option D := ansD 7 (F_left)
theorem ok_left {cdv : Value} {f : Addr} {fd : FuncData} (Mb : Bn mg) (Mc : Cn mg) (c_lot_with : Cal P w K mg base 1 "lot_with" (spD P w T 2 A_lot_with)) (F : Df K mg "left" s_left cdv f fd) : Cal P w K mg base 2 "left" (spD P w T 2 (A_left)) :=
  cal_D F sc_left (F.binds (ps := ["grouping", "person"]) fun _ _ _ _ _ _ us hl => match us, hl with | [_, _], _ => rfl) fun A outer s H E hr =>
    show PSsd T _ (defBody s_left) (F_left) from
    (pssd_cons (psd_set (i := 2) sc_left.nd rfl (by first | exact .inl rfl | exact .inr rfl) (pd_fn c_lot_with hr (by decide) (by rfl) (pa_c (pd_v 0 (pv 0)) (pa_c (pd_v 1 (pv 1)) pa_n)))) (pssd_cons (psd_setLc (i := 3) (own := [("other", 5)]) rfl sc_left.nd rfl rfl (sw_true rfl rfl rfl rfl) (pi_seq (pd_v 0 (pv 0))) (blkOk_by (by kernel_rfl)) (fun _ _ _ _ _ => (pgd_1 (i := 5) sc_left.nd rfl (by first | exact .inl rfl | exact .inr rfl))) (fun _ _ _ _ _ => (ptsd_one (pt_cmp' (or_ne hr) (pd_v 5 (pv 5)) (pd_v 2 (pv 2))))) (fun _ _ _ _ _ => (pd_v 5 (pv 5)))) (pssd_cons (psd_set (i := 4) sc_left.nd rfl (by first | exact .inl rfl | exact .inr rfl) (pd_callTy cr_tuple (by rfl) Mb.b_tuple (by rfl) (pa_c (pd_flc (pf_lc (own := [("one", 6)]) rfl sc_left.nd (pi_seq (pd_v 2 (pv 2))) (blkOk_by (by kernel_rfl)) (fun _ _ _ _ _ => (pgd_1 (i := 6) sc_left.nd rfl (by first | exact .inl rfl | exact .inr rfl))) (fun _ _ _ _ _ => (ptsd_one (pt_cmp' (or_ne hr) (pd_v 6 (pv 6)) (pd_v 1 (pv 1))))) (fun _ _ _ _ _ => (pd_v 6 (pv 6))))) pa_n))) (pssd_one (psd_ret (pd_callTy cr_tuple (by rfl) Mb.b_tuple (by rfl) (pa_c (pd_callB (call_sorted hr) (by rfl) Mb.b_sorted (by rfl) (pa_c (pd_lst (pa_s (pd_v 3 (pv 3)) (pa_s (pd_if (pt_t (pd_v 4 (pv 4))) (pd_lst (pa_c (pd_v 4 (pv 4)) pa_n)) (pd_lst pa_n)) (pa_c (pd_tup (pa_c (pd_v 1 (pv 1)) pa_n)) pa_n)))) pa_n)) pa_n)))))))
def s_stepped : Stmt := topS 16
theorem sc_stepped : FnScope ["grouping", "step"] ["grouping", "step"] (defScope s_stepped) := fnScope_by (by decide +kernel)
def F_stepped : Sl → Option Out :=
  sret (dif (tb (d2 eqD (dl lenD (ac (dv 1) (an))) (dc (.int 1)))) (dfn 2 A_left (ac (dv 0) (ac (d2 ixD (dv 1) (dc (.int 0))) (an)))) (dfn 3 A_joined (ac (dv 0) (ac (d2 ixD (dv 1) (dc (.int 0))) (ac (d2 ixD (dv 1) (dc (.int 1))) (an))))))
def A_stepped : List D → Option D := ansD 2 (F_stepped)
theorem ok_stepped {cdv : Value} {f : Addr} {fd : FuncData} (Mb : Bn mg) (Mc : Cn mg) (c_joined : Cal P w K mg base 2 "joined" (spD P w T 3 A_joined)) (c_left : Cal P w K mg base 2 "left" (spD P w T 2 A_left)) (F : Df K mg "stepped" s_stepped cdv f fd) : Cal P w K mg base 3 "stepped" (spD P w T 2 (A_stepped)) :=
  cal_D F sc_stepped (F.binds (ps := ["grouping", "step"]) fun _ _ _ _ _ _ us hl => match us, hl with | [_, _], _ => rfl) fun A outer s H E hr =>
    show PSsd T _ (defBody s_stepped) (F_stepped) from
    (pssd_one (psd_ret (pd_if (pt_cmp' (or_eq hr) (pd_callB cr_len (by rfl) Mb.b_len (by rfl) (pa_c (pd_v 1 (pv 1)) pa_n)) pd_int) (pd_fn c_left hr (by decide) (by rfl) (pa_c (pd_v 0 (pv 0)) (pa_c (pd_ix hr (pd_v 1 (pv 1)) pd_int) pa_n))) (pd_fn c_joined hr (by decide) (by rfl) (pa_c (pd_v 0 (pv 0)) (pa_c (pd_ix hr (pd_v 1 (pv 1)) pd_int) (pa_c (pd_ix hr (pd_v 1 (pv 1)) pd_int) pa_n)))))))
def s_are_steps : Stmt := topS 17
theorem sc_are_steps : FnScope ["size", "value", "most", "step"] ["size", "value", "most"] (defScope s_are_steps) := fnScope_by (by decide +kernel)
def F_are_steps : Sl → Option Out :=
  sret (dand (d1 (isiD .tuple) (dv 1)) (dand (d2 leD (dl lenD (ac (dv 1) (an))) (dv 2)) (dall [3] (iseq (dv 1)) (tg1 3) (dfn 2 A_is_step (ac (dv 0) (ac (dv 3) (an)))))))
def A_are_steps : List D → Option D := ansD 4 (F_are_steps)
theorem ok_are_steps {c Pt : Addr} {f : Addr} {fd : FuncData} (Mb : Bn mg) (Mc : Cn mg) (c_is_step : Cal P w K mg base 6 "is_step" (spD P w T 2 A_is_step)) (TB : GxR.TabB base mg c Pt) (hP : Pt ∈ T) (F : Df K mg "are_steps" s_are_steps (.ref c) f fd) : Cal P w K mg base 10 "are_steps" (spD P w T 3 (A_are_steps)) :=
  cal_D F sc_are_steps (F.binds (ps := ["size", "value", "most"]) fun _ _ _ _ _ _ us hl => match us, hl with | [_, _, _], _ => rfl) fun A outer s H E hr =>
    show PSsd T _ (defBody s_are_steps) (F_are_steps) from
    (pssd_one (psd_ret (pd_and (pd_isi .tuple (by rfl) Mb.b_isinstance (by rfl) Mb.b_tuple (by rfl) (pd_v 1 (pv 1))) (pd_and (pd_cmp or_le (pd_callB cr_len (by rfl) Mb.b_len (by rfl) (pa_c (pd_v 1 (pv 1)) pa_n)) (pd_v 2 (pv 2))) (pd_b1 (pd_all (k := 6) (own := [("step", 3)]) hr TB hP rfl rfl sc_are_steps.nd (by rfl) Mb.b_all (blkOk_by (by kernel_rfl)) (by decide +kernel) (by rfl) rfl (pi_seq (pd_v 1 (pv 1))) (fun _ _ _ _ _ _ _ => (pgd_1 (i := 3) sc_are_steps.nd rfl (by first | exact .inl rfl | exact .inr rfl))) (fun _ _ _ _ _ _ _ hr => (pd_fn c_is_step hr (by decide) (by rfl) (pa_c (pd_v 0 (pv 0)) (pa_c (pd_v 3 (pv 3)) pa_n))))))))))
def s_trace : Stmt := topS 18
theorem sc_trace : FnScope ["grouping", "row", "found", "step"] ["grouping", "row"] (defScope s_trace) := fnScope_by (by decide +kernel)
def F_trace : Sl → Option Out :=
  andT (sown 2 (fl (ac (dv 0) (an)))) (andT (sfor (iseq (dv 1)) (tg1 3) (sapp 2 (dfn 2 A_stepped (ac (dixO 2 (d1 negD (dc (.int 1)))) (ac (dv 3) (an)))))) (sfrz 2 (sret (dv 2))))
def A_trace : List D → Option D := ansD 4 (F_trace)
theorem ok_trace {cdv : Value} {f : Addr} {fd : FuncData} (Mb : Bn mg) (Mc : Cn mg) (c_stepped : Cal P w K mg base 3 "stepped" (spD P w T 2 A_stepped)) (F : Df K mg "trace" s_trace cdv f fd) : Cal P w K mg base 4 "trace" (spD P w T 2 (A_trace)) :=
  cal_D F sc_trace (F.binds (ps := ["grouping", "row"]) fun _ _ _ _ _ _ us hl => match us, hl with | [_, _], _ => rfl) fun A outer s H E hr =>
    show PSsd T _ (defBody s_trace) (F_trace) from
    (pssd_cons (psd_own (i := 2) sc_trace.nd rfl (by first | exact .inl rfl | exact .inr rfl) (pf_lst (pa_c (pd_v 0 (pv 0)) pa_n))) (pssd_cons (psd_for PassesOwn.never rfl (pi_seq (pd_v 1 (pv 1))) (pgd_1 (i := 3) sc_trace.nd rfl (by first | exact .inl rfl | exact .inr rfl)) (pssd_one (psd_app 2 (pv 2) (pd_fn c_stepped hr (by decide) (by rfl) (pa_c (pd_ixO hr 2 (pv 2) (pd_neg pd_int)) (pa_c (pd_v 3 (pv 3)) pa_n)))))) (pssd_one (psd_frz 2 (psd_ret (pd_v 2 (pv 2)))))))
def s_all_steps : Stmt := topS 19
theorem sc_all_steps : FnScope ["size", "found", "one", "person", "other"] ["size"] (defScope s_all_steps) := fnScope_by (by decide +kernel)
def F_all_steps : Sl → Option Out :=
  andT (sset 1 (dlc [3] (irg1 (dv 0)) (tg1 3) (tyes) (dl mkT (ac (dv 3) (an))))) (andT (sfor (irg1 (dv 0)) (tg1 2) (sset 1 (d2 addD (dv 1) (dlc [4] (irg2 (d2 addD (dv 2) (dc (.int 1))) (dv 0)) (tg1 4) (tyes) (dl mkT (ac (dv 2) (ac (dv 4) (an)))))))) (sret (dl sortedD (ac (dv 1) (an)))))
def A_all_steps : List D → Option D := ansD 5 (F_all_steps)
theorem ok_all_steps {cdv : Value} {f : Addr} {fd : FuncData} (Mb : Bn mg) (Mc : Cn mg) (F : Df K mg "all_steps" s_all_steps cdv f fd) : Cal P w K mg base 1 "all_steps" (spD P w T 1 (A_all_steps)) :=
  cal_D F sc_all_steps (F.binds (ps := ["size"]) fun _ _ _ _ _ _ us hl => match us, hl with | [_], _ => rfl) fun A outer s H E hr =>
    show PSsd T _ (defBody s_all_steps) (F_all_steps) from
    (pssd_cons (psd_setLc (i := 1) (own := [("person", 3)]) rfl sc_all_steps.nd rfl rfl (sw_true rfl rfl rfl rfl) (pi_rg1 (by rfl) Mb.b_range (pd_v 0 (pv 0))) (blkOk_by (by kernel_rfl)) (fun _ _ _ _ _ => (pgd_1 (i := 3) sc_all_steps.nd rfl (by first | exact .inl rfl | exact .inr rfl))) (fun _ _ _ _ _ => ptsd_nil) (fun _ _ _ _ _ => (pd_tup (pa_c (pd_v 3 (pv 3)) pa_n)))) (pssd_cons (psd_for PassesOwn.never rfl (pi_rg1 (by rfl) Mb.b_range (pd_v 0 (pv 0))) (pgd_1 (i := 2) sc_all_steps.nd rfl (by first | exact .inl rfl | exact .inr rfl)) (pssd_one (psd_set (i := 1) sc_all_steps.nd rfl (by first | exact .inl rfl | exact .inr rfl) (pd_op or_add (pd_v 1 (pv 1)) (pd_flc (pf_lc (own := [("other", 4)]) rfl sc_all_steps.nd (pi_rg2 (by rfl) Mb.b_range (pd_op or_add (pd_v 2 (pv 2)) pd_int) (pd_v 0 (pv 0))) (blkOk_by (by kernel_rfl)) (fun _ _ _ _ _ => (pgd_1 (i := 4) sc_all_steps.nd rfl (by first | exact .inl rfl | exact .inr rfl))) (fun _ _ _ _ _ => ptsd_nil) (fun _ _ _ _ _ => (pd_tup (pa_c (pd_v 2 (pv 2)) (pa_c (pd_v 4 (pv 4)) pa_n)))))))))) (pssd_one (psd_ret (pd_callB (call_sorted hr) (by rfl) Mb.b_sorted (by rfl) (pa_c (pd_v 1 (pv 1)) pa_n))))))
def s_need_two : Stmt := topS 21
theorem sc_need_two : FnScope ["one", "other"] ["one", "other"] (defScope s_need_two) := fnScope_by (by decide +kernel)
def F_need_two : Sl → Option Out :=
  andT (sdrop (dfn 1 A_need_grouping (ac (dv 0) (an)))) (sif (tor (tnot (tb (dfn 1 A_is_grouping (ac (dv 1) (an))))) (tb (d2 neD (dfn 1 A_size_of (ac (dv 1) (an))) (dfn 1 A_size_of (ac (dv 0) (an)))))) (snever) (snil))
def A_need_two : List D → Option D := ansD 2 (F_need_two)
theorem ok_need_two {cdv : Value} {f : Addr} {fd : FuncData} (Mb : Bn mg) (Mc : Cn mg) (c_is_grouping : Cal P w K mg base 9 "is_grouping" (spD P w T 1 A_is_grouping)) (c_need_grouping : Cal P w K mg base 10 "need_grouping" (spD P w T 1 A_need_grouping)) (c_size_of : Cal P w K mg base 4 "size_of" (spD P w T 1 A_size_of)) (F : Df K mg "need_two" s_need_two cdv f fd) : Cal P w K mg base 11 "need_two" (spD P w T 2 (A_need_two)) :=
  cal_D F sc_need_two (F.binds (ps := ["one", "other"]) fun _ _ _ _ _ _ us hl => match us, hl with | [_, _], _ => rfl) fun A outer s H E hr =>
    show PSsd T _ (defBody s_need_two) (F_need_two) from
    (pssd_cons (psd_drop (pd_fn c_need_grouping hr (by decide) (by rfl) (pa_c (pd_v 0 (pv 0)) pa_n))) (pssd_one (psd_if (ptd_w (pw_o (pt_n (pt_b (pd_fn c_is_grouping hr (by decide) (by rfl) (pa_c (pd_v 1 (pv 1)) pa_n)))) (pw_o1 (pt_cmp' (or_ne hr) (pd_fn c_size_of hr (by decide) (by rfl) (pa_c (pd_v 1 (pv 1)) pa_n)) (pd_fn c_size_of hr (by decide) (by rfl) (pa_c (pd_v 0 (pv 0)) pa_n)))))) (pssd_one psd_never) pssd_nil)))
def s_are_prices : Stmt := topS 25
theorem sc_are_prices : FnScope ["size", "value", "one", "part"] ["size", "value"] (defScope s_are_prices) := fnScope_by (by decide +kernel)
def F_are_prices : Sl → Option Out :=
  andT (sif (tor (tnot (tb (d1 (isiD .tuple) (dv 1)))) (tor (tb (d2 neD (dl lenD (ac (dv 1) (an))) (dc (.int 2)))) (tnot (tb (dall [3] (iseq (dv 1)) (tg1 3) (d1 (isiD .tuple) (dv 3))))))) (sret (dc (.bool false))) (snil)) (andT (sif (tor (tb (d2 neD (dl lenD (ac (d2 ixD (dv 1) (dc (.int 0))) (an))) (dv 0))) (tb (d2 neD (dl lenD (ac (d2 ixD (dv 1) (dc (.int 1))) (an))) (d2 fdivD (d2 mulD (dv 0) (d2 subD (dv 0) (dc (.int 1)))) (dc (.int 2)))))) (sret (dc (.bool false))) (snil)) (sret (dall [2] (iseq (dl mkT (as (d2 ixD (dv 1) (dc (.int 0))) (as (d2 ixD (dv 1) (dc (.int 1))) (an))))) (tg1 2) (dfn 3 A_is_in (ac (dv 2) (ac (dc (.int 0)) (ac (dc (.int 1000)) (an))))))))
def A_are_prices : List D → Option D := ansD 4 (F_are_prices)
theorem ok_are_prices {c Pt : Addr} {f : Addr} {fd : FuncData} (Mb : Bn mg) (Mc : Cn mg) (c_is_in : Cal P w K mg base 1 "is_in" (spD P w T 3 A_is_in)) (TB : GxR.TabB base mg c Pt) (hP : Pt ∈ T) (F : Df K mg "are_prices" s_are_prices (.ref c) f fd) : Cal P w K mg base 5 "are_prices" (spD P w T 2 (A_are_prices)) :=
  cal_D F sc_are_prices (F.binds (ps := ["size", "value"]) fun _ _ _ _ _ _ us hl => match us, hl with | [_, _], _ => rfl) fun A outer s H E hr =>
    show PSsd T _ (defBody s_are_prices) (F_are_prices) from
    (pssd_cons (psd_if (ptd_w (pw_o (pt_n (pt_b (pd_isi .tuple (by rfl) Mb.b_isinstance (by rfl) Mb.b_tuple (by rfl) (pd_v 1 (pv 1))))) (pw_o (pt_cmp' (or_ne hr) (pd_callB cr_len (by rfl) Mb.b_len (by rfl) (pa_c (pd_v 1 (pv 1)) pa_n)) pd_int) (pw_o1 (pt_n (pt_b (pd_all (k := 1) (own := [("part", 3)]) hr TB hP rfl rfl sc_are_prices.nd (by rfl) Mb.b_all (blkOk_by (by kernel_rfl)) (by decide +kernel) (by rfl) rfl (pi_seq (pd_v 1 (pv 1))) (fun _ _ _ _ _ _ _ => (pgd_1 (i := 3) sc_are_prices.nd rfl (by first | exact .inl rfl | exact .inr rfl))) (fun _ _ _ _ _ _ _ hr => (pd_isi .tuple (by rfl) Mb.b_isinstance (by rfl) Mb.b_tuple (by rfl) (pd_v 3 (pv 3))))))))))) (pssd_one (psd_ret pd_bl)) pssd_nil) (pssd_cons (psd_if (ptd_w (pw_o (pt_cmp' (or_ne hr) (pd_callB cr_len (by rfl) Mb.b_len (by rfl) (pa_c (pd_ix hr (pd_v 1 (pv 1)) pd_int) pa_n)) (pd_v 0 (pv 0))) (pw_o1 (pt_cmp' (or_ne hr) (pd_callB cr_len (by rfl) Mb.b_len (by rfl) (pa_c (pd_ix hr (pd_v 1 (pv 1)) pd_int) pa_n)) (pd_op or_fdiv (pd_op or_mul (pd_v 0 (pv 0)) (pd_op or_sub (pd_v 0 (pv 0)) pd_int)) pd_int))))) (pssd_one (psd_ret pd_bl)) pssd_nil) (pssd_one (psd_ret (pd_all (k := 1) (own := [("one", 2)]) hr TB hP rfl rfl sc_are_prices.nd (by rfl) Mb.b_all (blkOk_by (by kernel_rfl)) (by decide +kernel) (by rfl) rfl (pi_seq (pd_tup (pa_s (pd_ix hr (pd_v 1 (pv 1)) pd_int) (pa_s (pd_ix hr (pd_v 1 (pv 1)) pd_int) pa_n)))) (fun _ _ _ _ _ _ _ => (pgd_1 (i := 2) sc_are_prices.nd rfl (by first | exact .inl rfl | exact .inr rfl))) (fun _ _ _ _ _ _ _ hr => (pd_fn c_is_in hr (by decide) (by rfl) (pa_c (pd_v 2 (pv 2)) (pa_c pd_int (pa_c (pd_gc (by rfl) Mc.e_MOST_PRICE) pa_n))))))))))
end Gd

set_option maxHeartbeats 2000000
/-! GdY3: printed by gen.py. -/
namespace Gd
open PySem PySem.Spec PyProof.Rows L2
variable {P : Program} {w : World} {K : PySem.W.Frag} {mg : Str → Option Value} {base : Heap} {T : List Addr}
def s_need_prices : Stmt := topS 26
theorem sc_need_prices : FnScope ["size", "prices"] ["size", "prices"] (defScope s_need_prices) := fnScope_by (by decide +kernel)
def F_need_prices : Sl → Option Out :=
  sif (tnot (tb (dfn 2 A_are_prices (ac (dv 0) (ac (dv 1) (an)))))) (snever) (snil)
def A_need_prices : List D → Option D := ansD 2 (F_need_prices)
theorem ok_need_prices {cdv : Value} {f : Addr} {fd : FuncData} (Mb : Bn mg) (Mc : Cn mg) (c_are_prices : Cal P w K mg base 5 "are_prices" (spD P w T 2 A_are_prices)) (F : Df K mg "need_prices" s_need_prices cdv f fd) : Cal P w K mg base 6 "need_prices" (spD P w T 2 (A_need_prices)) :=
  cal_D F sc_need_prices (F.binds (ps := ["size", "prices"]) fun _ _ _ _ _ _ us hl => match us, hl with | [_, _], _ => rfl) fun A outer s H E hr =>
    show PSsd T _ (defBody s_need_prices) (F_need_prices) from
    (pssd_one (psd_if (pt_n (pt_b (pd_fn c_are_prices hr (by decide) (by rfl) (pa_c (pd_v 0 (pv 0)) (pa_c (pd_v 1 (pv 1)) pa_n))))) (pssd_one psd_never) pssd_nil))
def s_price_table : Stmt := topS 27
theorem sc_price_table : FnScope ["size", "prices", "one", "found", "pairs", "at", "pair", "person", "other"] ["size", "prices"] (defScope s_price_table) := fnScope_by (by decide +kernel)
def F_price_table : Sl → Option Out :=
  andT (spar [3, 4] (aof (fdc [7] (irg1 (dv 0)) (tg1 7) (tyes) (dl mkT (ac (dv 7) (an))) (d2 ixD (d2 ixD (dv 1) (dc (.int 0))) (dv 7))) (aoc (dl mkL (an)) (aon)))) (andT (sfor (irg1 (dv 0)) (tg1 2) (sset 4 (d2 addD (dv 4) (dlc [8] (irg2 (d2 addD (dv 2) (dc (.int 1))) (dv 0)) (tg1 8) (tyes) (dl mkT (ac (dv 2) (ac (dv 8) (an)))))))) (andT (sfor (ienum (dv 4)) (tg2 5 6) (sput 3 (dv 6) (d2 ixD (d2 ixD (dv 1) (dc (.int 1))) (dv 5)))) (sfrz 3 (sret (dv 3)))))
def A_price_table : List D → Option D := ansD 9 (F_price_table)
theorem ok_price_table {cdv : Value} {f : Addr} {fd : FuncData} (Mb : Bn mg) (Mc : Cn mg) (F : Df K mg "price_table" s_price_table cdv f fd) : Cal P w K mg base 1 "price_table" (spD P w T 2 (A_price_table)) :=
  cal_D F sc_price_table (F.binds (ps := ["size", "prices"]) fun _ _ _ _ _ _ us hl => match us, hl with | [_, _], _ => rfl) fun A outer s H E hr =>
    show PSsd T _ (defBody s_price_table) (F_price_table) from
    (pssd_cons (psd_par2 (i := 3) (j := 4) rfl sc_price_table.nd rfl rfl (by decide) rfl rfl (pao_f (pf_dc (own := [("person", 7)]) hr rfl sc_price_table.nd (pi_rg1 (by rfl) Mb.b_range (pd_v 0 (pv 0))) (blkOk_by (by kernel_rfl)) (fun _ _ _ _ _ => (pgd_1 (i := 7) sc_price_table.nd rfl (by first | exact .inl rfl | exact .inr rfl))) (fun _ _ _ _ _ => ptsd_nil) (fun _ _ _ _ _ => (pd_tup (pa_c (pd_v 7 (pv 7)) pa_n))) (fun _ _ _ _ _ => (pd_ix hr (pd_ix hr (pd_v 1 (pv 1)) pd_int) (pd_v 7 (pv 7))))) (pao_c (pd_lst pa_n) pao_n)) (by rfl)) (pssd_cons (psd_for PassesOwn.never rfl (pi_rg1 (by rfl) Mb.b_range (pd_v 0 (pv 0))) (pgd_1 (i := 2) sc_price_table.nd rfl (by first | exact .inl rfl | exact .inr rfl)) (pssd_one (psd_set (i := 4) sc_price_table.nd rfl (by first | exact .inl rfl | exact .inr rfl) (pd_op or_add (pd_v 4 (pv 4)) (pd_flc (pf_lc (own := [("other", 8)]) rfl sc_price_table.nd (pi_rg2 (by rfl) Mb.b_range (pd_op or_add (pd_v 2 (pv 2)) pd_int) (pd_v 0 (pv 0))) (blkOk_by (by kernel_rfl)) (fun _ _ _ _ _ => (pgd_1 (i := 8) sc_price_table.nd rfl (by first | exact .inl rfl | exact .inr rfl))) (fun _ _ _ _ _ => ptsd_nil) (fun _ _ _ _ _ => (pd_tup (pa_c (pd_v 2 (pv 2)) (pa_c (pd_v 8 (pv 8)) pa_n)))))))))) (pssd_cons (psd_for PassesOwn.never rfl (pi_enumL (by rfl) Mb.b_enumerate (pd_v 4 (pv 4))) (pgd_2 (i := 5) (j := 6) rfl sc_price_table.nd rfl rfl (by first | exact .inl rfl | exact .inr rfl) (by first | exact .inl rfl | exact .inr rfl)) (pssd_one (psd_put hr 3 (pv 3) (pd_v 6 (pv 6)) (pd_ix hr (pd_ix hr (pd_v 1 (pv 1)) pd_int) (pd_v 5 (pv 5)))))) (pssd_one (psd_frz 3 (psd_ret (pd_v 3 (pv 3))))))))
def s_least_rows : Stmt := topS 28
theorem sc_least_rows : FnScope ["goal", "prices", "size", "table", "some", "found", "is_better", "here", "step", "there", "part"] ["goal", "prices"] (defScope s_least_rows) := fnScope_by (by decide +kernel)
def F_least_rows : Sl → Option Out :=
  andT (sset 2 (dfn 1 A_size_of (ac (dv 0) (an)))) (andT (spar [3, 4] (aoc (dfn 2 A_price_table (ac (dv 2) (ac (dv 1) (an)))) (aoc (dfn 1 A_all_groupings (ac (dv 2) (an))) (aon)))) (andT (spar [5, 6] (aof (fd1 (dv 0) (dl mkT (ac (dc (.int 0)) (ac (dc (.int 0)) (ac (dc .none) (an)))))) (aoc (dc (.bool true)) (aon)))) (andT (swh fuel (tb (dv 6)) (andT (sset 6 (dc (.bool false))) (sfor (iseq (dv 4)) (tg1 7) (sfor (iseq (dfn 1 A_all_steps (ac (dv 2) (an)))) (tg1 8) (andT (sset 9 (dfn 2 A_stepped (ac (dv 7) (ac (dv 8) (an))))) (sif (tinO 5 id (dv 9)) (andT (sset 10 (dl mkT (ac (d2 addD (d2 ixD (dixO 5 (dv 9)) (dc (.int 0))) (d2 ixD (dv 3) (dv 8))) (ac (d2 addD (d2 ixD (dixO 5 (dv 9)) (dc (.int 1))) (dc (.int 1))) (ac (dv 8) (an)))))) (sif (tand (tb (d2 neD (dv 7) (dv 0))) (tor (tinO 5 not (dv 7)) (tb (d2 ltD (dsl (dv 10) (pn) (ps1 (dc (.int 2)))) (dsl (dixO 5 (dv 7)) (pn) (ps1 (dc (.int 2)))))))) (andT (sput 5 (dv 7) (dv 10)) (sset 6 (dc (.bool true)))) (snil))) (snil))))))) (sfrz 5 (sret (dv 5))))))
def A_least_rows : List D → Option D := ansD 11 (F_least_rows)
theorem ok_least_rows {cdv : Value} {f : Addr} {fd : FuncData} (Mb : Bn mg) (Mc : Cn mg) (c_all_groupings : Cal P w K mg base 1 "all_groupings" (spD P w T 1 A_all_groupings)) (c_all_steps : Cal P w K mg base 1 "all_steps" (spD P w T 1 A_all_steps)) (c_price_table : Cal P w K mg base 1 "price_table" (spD P w T 2 A_price_table)) (c_size_of : Cal P w K mg base 4 "size_of" (spD P w T 1 A_size_of)) (c_stepped : Cal P w K mg base 3 "stepped" (spD P w T 2 A_stepped)) (F : Df K mg "least_rows" s_least_rows cdv f fd) : Cal P w K mg base 5 "least_rows" (spD P w T 2 (A_least_rows)) :=
  cal_D F sc_least_rows (F.binds (ps := ["goal", "prices"]) fun _ _ _ _ _ _ us hl => match us, hl with | [_, _], _ => rfl) fun A outer s H E hr =>
    show PSsd T _ (defBody s_least_rows) (F_least_rows) from
    (pssd_cons (psd_set (i := 2) sc_least_rows.nd rfl (by first | exact .inl rfl | exact .inr rfl) (pd_fn c_size_of hr (by decide) (by rfl) (pa_c (pd_v 0 (pv 0)) pa_n))) (pssd_cons (psd_par2 (i := 3) (j := 4) rfl sc_least_rows.nd rfl rfl (by decide) rfl rfl (pao_c (pd_fn c_price_table hr (by decide) (by rfl) (pa_c (pd_v 2 (pv 2)) (pa_c (pd_v 1 (pv 1)) pa_n))) (pao_c (pd_fn c_all_groupings hr (by decide) (by rfl) (pa_c (pd_v 2 (pv 2)) pa_n)) pao_n)) (by rfl)) (pssd_cons (psd_par2 (i := 5) (j := 6) rfl sc_least_rows.nd rfl rfl (by decide) rfl rfl (pao_f (pf_dn1 hr (pd_v 0 (pv 0)) (pd_tup (pa_c pd_int (pa_c pd_int (pa_c pd_non pa_n))))) (pao_c pd_bl pao_n)) (by rfl)) (pssd_cons (psd_while fuel PassesOwn.never (pt_b (pd_v 6 (pv 6))) (pssd_cons (psd_set (i := 6) sc_least_rows.nd rfl (by first | exact .inl rfl | exact .inr rfl) pd_bl) (pssd_one (psd_for PassesOwn.never rfl (pi_seq (pd_v 4 (pv 4))) (pgd_1 (i := 7) sc_least_rows.nd rfl (by first | exact .inl rfl | exact .inr rfl)) (pssd_one (psd_for PassesOwn.never rfl (pi_seq (pd_fn c_all_steps hr (by decide) (by rfl) (pa_c (pd_v 2 (pv 2)) pa_n))) (pgd_1 (i := 8) sc_least_rows.nd rfl (by first | exact .inl rfl | exact .inr rfl)) (pssd_cons (psd_set (i := 9) sc_least_rows.nd rfl (by first | exact .inl rfl | exact .inr rfl) (pd_fn c_stepped hr (by decide) (by rfl) (pa_c (pd_v 7 (pv 7)) (pa_c (pd_v 8 (pv 8)) pa_n)))) (pssd_one (psd_if (pt_inO hr 5 (.inl ⟨rfl, rfl⟩) (pv 5) (pd_v 9 (pv 9))) (pssd_cons (psd_set (i := 10) sc_least_rows.nd rfl (by first | exact .inl rfl | exact .inr rfl) (pd_tup (pa_c (pd_op or_add (pd_ix hr (pd_ixO hr 5 (pv 5) (pd_v 9 (pv 9))) pd_int) (pd_ix hr (pd_v 3 (pv 3)) (pd_v 8 (pv 8)))) (pa_c (pd_op or_add (pd_ix hr (pd_ixO hr 5 (pv 5) (pd_v 9 (pv 9))) pd_int) pd_int) (pa_c (pd_v 8 (pv 8)) pa_n))))) (pssd_one (psd_if (ptd_w (pw_a (pt_cmp' (or_ne hr) (pd_v 7 (pv 7)) (pd_v 0 (pv 0))) (pw_a1 (ptd_w (pw_o (pt_inO hr 5 (.inr ⟨rfl, rfl⟩) (pv 5) (pd_v 7 (pv 7))) (pw_o1 (pt_cmp' (or_lt hr) (pd_slice (pd_v 10 (pv 10)) po_n (po_s pd_int)) (pd_slice (pd_ixO hr 5 (pv 5) (pd_v 7 (pv 7))) po_n (po_s pd_int))))))))) (pssd_cons (psd_put hr 5 (pv 5) (pd_v 7 (pv 7)) (pd_v 10 (pv 10))) (pssd_one (psd_set (i := 6) sc_least_rows.nd rfl (by first | exact .inl rfl | exact .inr rfl) pd_bl))) pssd_nil))) pssd_nil))))))))) (pssd_one (psd_frz 5 (psd_ret (pd_v 5 (pv 5)))))))))
def s_need_priced : Stmt := topS 29
theorem sc_need_priced : FnScope ["start", "goal", "prices"] ["start", "goal", "prices"] (defScope s_need_priced) := fnScope_by (by decide +kernel)
def F_need_priced : Sl → Option Out :=
  andT (sdrop (dfn 2 A_need_two (ac (dv 0) (ac (dv 1) (an))))) (sdrop (dfn 2 A_need_prices (ac (dfn 1 A_size_of (ac (dv 0) (an))) (ac (dv 2) (an)))))
def A_need_priced : List D → Option D := ansD 3 (F_need_priced)
theorem ok_need_priced {cdv : Value} {f : Addr} {fd : FuncData} (Mb : Bn mg) (Mc : Cn mg) (c_need_prices : Cal P w K mg base 6 "need_prices" (spD P w T 2 A_need_prices)) (c_need_two : Cal P w K mg base 11 "need_two" (spD P w T 2 A_need_two)) (c_size_of : Cal P w K mg base 4 "size_of" (spD P w T 1 A_size_of)) (F : Df K mg "need_priced" s_need_priced cdv f fd) : Cal P w K mg base 12 "need_priced" (spD P w T 3 (A_need_priced)) :=
  cal_D F sc_need_priced (F.binds (ps := ["start", "goal", "prices"]) fun _ _ _ _ _ _ us hl => match us, hl with | [_, _, _], _ => rfl) fun A outer s H E hr =>
    show PSsd T _ (defBody s_need_priced) (F_need_priced) from
    (pssd_cons (psd_drop (pd_fn c_need_two hr (by decide) (by rfl) (pa_c (pd_v 0 (pv 0)) (pa_c (pd_v 1 (pv 1)) pa_n)))) (pssd_one (psd_drop (pd_fn c_need_prices hr (by decide) (by rfl) (pa_c (pd_fn c_size_of hr (by decide) (by rfl) (pa_c (pd_v 0 (pv 0)) pa_n)) (pa_c (pd_v 2 (pv 2)) pa_n))))))
def s_cheap_row : Stmt := topS 30
theorem sc_cheap_row : FnScope ["start", "goal", "prices", "found", "row", "here"] ["start", "goal", "prices"] (defScope s_cheap_row) := fnScope_by (by decide +kernel)
def F_cheap_row : Sl → Option Out :=
  andT (sdrop (dfn 3 A_need_priced (ac (dv 0) (ac (dv 1) (ac (dv 2) (an)))))) (andT (spar [3, 4, 5] (aoc (dfn 2 A_least_rows (ac (dv 1) (ac (dv 2) (an)))) (aof (fl (an)) (aoc (dv 0) (aon))))) (andT (swh fuel (tb (d2 neD (dv 5) (dv 1))) (andT (sapp 4 (d2 ixD (d2 ixD (dv 3) (dv 5)) (dc (.int 2)))) (sset 5 (dfn 2 A_stepped (ac (dv 5) (ac (d2 ixD (d2 ixD (dv 3) (dv 5)) (dc (.int 2))) (an))))))) (sfrz 4 (sret (dl mkT (ac (d2 ixD (d2 ixD (dv 3) (dv 0)) (dc (.int 0))) (ac (dl tupleD (ac (dv 4) (an))) (an))))))))
def A_cheap_row : List D → Option D := ansD 6 (F_cheap_row)
theorem ok_cheap_row {cdv : Value} {f : Addr} {fd : FuncData} (Mb : Bn mg) (Mc : Cn mg) (c_least_rows : Cal P w K mg base 5 "least_rows" (spD P w T 2 A_least_rows)) (c_need_priced : Cal P w K mg base 12 "need_priced" (spD P w T 3 A_need_priced)) (c_stepped : Cal P w K mg base 3 "stepped" (spD P w T 2 A_stepped)) (F : Df K mg "cheap_row" s_cheap_row cdv f fd) : Cal P w K mg base 13 "cheap_row" (spD P w T 3 (A_cheap_row)) :=
  cal_D F sc_cheap_row (F.binds (ps := ["start", "goal", "prices"]) fun _ _ _ _ _ _ us hl => match us, hl with | [_, _, _], _ => rfl) fun A outer s H E hr =>
    show PSsd T _ (defBody s_cheap_row) (F_cheap_row) from
    (pssd_cons (psd_drop (pd_fn c_need_priced hr (by decide) (by rfl) (pa_c (pd_v 0 (pv 0)) (pa_c (pd_v 1 (pv 1)) (pa_c (pd_v 2 (pv 2)) pa_n))))) (pssd_cons (psd_par3 (i := 3) (j := 4) (l := 5) rfl sc_cheap_row.nd rfl rfl rfl (by decide) (by decide) (by decide) rfl rfl rfl (pao_c (pd_fn c_least_rows hr (by decide) (by rfl) (pa_c (pd_v 1 (pv 1)) (pa_c (pd_v 2 (pv 2)) pa_n))) (pao_f (pf_lst pa_n) (pao_c (pd_v 0 (pv 0)) pao_n))) (by rfl)) (pssd_cons (psd_while fuel PassesOwn.never (pt_cmp' (or_ne hr) (pd_v 5 (pv 5)) (pd_v 1 (pv 1))) (pssd_cons (psd_app 4 (pv 4) (pd_ix hr (pd_ix hr (pd_v 3 (pv 3)) (pd_v 5 (pv 5))) pd_int)) (pssd_one (psd_set (i := 5) sc_cheap_row.nd rfl (by first | exact .inl rfl | exact .inr rfl) (pd_fn c_stepped hr (by decide) (by rfl) (pa_c (pd_v 5 (pv 5)) (pa_c (pd_ix hr (pd_ix hr (pd_v 3 (pv 3)) (pd_v 5 (pv 5))) pd_int) pa_n))))))) (pssd_one (psd_frz 4 (psd_ret (pd_tup (pa_c (pd_ix hr (pd_ix hr (pd_v 3 (pv 3)) (pd_v 0 (pv 0))) pd_int) (pa_c (pd_callTy cr_tuple (by rfl) Mb.b_tuple (by rfl) (pa_c (pd_v 4 (pv 4)) pa_n)) pa_n)))))))))
def s_price_of : Stmt := topS 31
theorem sc_price_of : FnScope ["size", "prices", "row", "table", "step"] ["size", "prices", "row"] (defScope s_price_of) := fnScope_by (by decide +kernel)
def F_price_of : Sl → Option Out :=
  andT (sset 3 (dfn 2 A_price_table (ac (dv 0) (ac (dv 1) (an))))) (sret (dsum [4] (iseq (dv 2)) (tg1 4) (d2 ixD (dv 3) (dv 4))))
def A_price_of : List D → Option D := ansD 5 (F_price_of)
theorem ok_price_of {c Pt : Addr} {f : Addr} {fd : FuncData} (Mb : Bn mg) (Mc : Cn mg) (c_price_table : Cal P w K mg base 1 "price_table" (spD P w T 2 A_price_table)) (TB : GxR.TabB base mg c Pt) (hP : Pt ∈ T) (F : Df K mg "price_of" s_price_of (.ref c) f fd) : Cal P w K mg base 4 "price_of" (spD P w T 3 (A_price_of)) :=
  cal_D F sc_price_of (F.binds (ps := ["size", "prices", "row"]) fun _ _ _ _ _ _ us hl => match us, hl with | [_, _, _], _ => rfl) fun A outer s H E hr =>
    show PSsd T _ (defBody s_price_of) (F_price_of) from
    (pssd_cons (psd_set (i := 3) sc_price_of.nd rfl (by first | exact .inl rfl | exact .inr rfl) (pd_fn c_price_table hr (by decide) (by rfl) (pa_c (pd_v 0 (pv 0)) (pa_c (pd_v 1 (pv 1)) pa_n)))) (pssd_one (psd_ret (pd_sumG (k := 0) (own := [("step", 4)]) hr TB hP rfl rfl sc_price_of.nd (by rfl) Mb.b_sum (blkOk_by (by kernel_rfl)) (by decide +kernel) (by rfl) rfl (pi_seq (pd_v 2 (pv 2))) (fun _ _ _ _ _ _ _ => (pgd_1 (i := 4) sc_price_of.nd rfl (by first | exact .inl rfl | exact .inr rfl))) (fun _ _ _ _ _ _ _ hr => (pd_ix hr (pd_v 3 (pv 3)) (pd_v 4 (pv 4))))))))
def s_shows_cheap_row : Stmt := topS 32
theorem sc_shows_cheap_row : FnScope ["start", "goal", "prices", "value", "best", "size"] ["start", "goal", "prices", "value"] (defScope s_shows_cheap_row) := fnScope_by (by decide +kernel)
def F_shows_cheap_row : Sl → Option Out :=
  andT (sdrop (dfn 3 A_need_priced (ac (dv 0) (ac (dv 1) (ac (dv 2) (an)))))) (andT (spar [4, 5] (aoc (d2 ixD (d2 ixD (dfn 2 A_least_rows (ac (dv 1) (ac (dv 2) (an)))) (dv 0)) (dc (.int 0))) (aoc (dfn 1 A_size_of (ac (dv 0) (an))) (aon)))) (andT (sif (tor (tnot (tb (d1 (isiD .tuple) (dv 3)))) (tor (tb (d2 neD (dl lenD (ac (dv 3) (an))) (dc (.int 2)))) (tnot (tb (dfn 3 A_is_in (ac (d2 ixD (dv 3) (dc (.int 0))) (ac (dv 4) (ac (dv 4) (an))))))))) (sret (dc (.bool false))) (snil)) (andT (sif (tnot (tb (dfn 3 A_are_steps (ac (dv 5) (ac (d2 ixD (dv 3) (dc (.int 1))) (ac (dc (.int 300)) (an))))))) (sret (dc (.bool false))) (snil)) (sret (dand (d2 eqD (d2 ixD (dfn 2 A_trace (ac (dv 0) (ac (d2 ixD (dv 3) (dc (.int 1))) (an)))) (d1 negD (dc (.int 1)))) (dv 1)) (d2 eqD (dfn 3 A_price_of (ac (dv 5) (ac (dv 2) (ac (d2 ixD (dv 3) (dc (.int 1))) (an))))) (dv 4)))))))
def A_shows_cheap_row : List D → Option D := ansD 6 (F_shows_cheap_row)
theorem ok_shows_cheap_row {cdv : Value} {f : Addr} {fd : FuncData} (Mb : Bn mg) (Mc : Cn mg) (c_are_steps : Cal P w K mg base 10 "are_steps" (spD P w T 3 A_are_steps)) (c_is_in : Cal P w K mg base 1 "is_in" (spD P w T 3 A_is_in)) (c_least_rows : Cal P w K mg base 5 "least_rows" (spD P w T 2 A_least_rows)) (c_need_priced : Cal P w K mg base 12 "need_priced" (spD P w T 3 A_need_priced)) (c_price_of : Cal P w K mg base 4 "price_of" (spD P w T 3 A_price_of)) (c_size_of : Cal P w K mg base 4 "size_of" (spD P w T 1 A_size_of)) (c_trace : Cal P w K mg base 4 "trace" (spD P w T 2 A_trace)) (F : Df K mg "shows_cheap_row" s_shows_cheap_row cdv f fd) : Cal P w K mg base 13 "shows_cheap_row" (spD P w T 4 (A_shows_cheap_row)) :=
  cal_D F sc_shows_cheap_row (F.binds (ps := ["start", "goal", "prices", "value"]) fun _ _ _ _ _ _ us hl => match us, hl with | [_, _, _, _], _ => rfl) fun A outer s H E hr =>
    show PSsd T _ (defBody s_shows_cheap_row) (F_shows_cheap_row) from
    (pssd_cons (psd_drop (pd_fn c_need_priced hr (by decide) (by rfl) (pa_c (pd_v 0 (pv 0)) (pa_c (pd_v 1 (pv 1)) (pa_c (pd_v 2 (pv 2)) pa_n))))) (pssd_cons (psd_par2 (i := 4) (j := 5) rfl sc_shows_cheap_row.nd rfl rfl (by decide) rfl rfl (pao_c (pd_ix hr (pd_ix hr (pd_fn c_least_rows hr (by decide) (by rfl) (pa_c (pd_v 1 (pv 1)) (pa_c (pd_v 2 (pv 2)) pa_n))) (pd_v 0 (pv 0))) pd_int) (pao_c (pd_fn c_size_of hr (by decide) (by rfl) (pa_c (pd_v 0 (pv 0)) pa_n)) pao_n)) (by rfl)) (pssd_cons (psd_if (ptd_w (pw_o (pt_n (pt_b (pd_isi .tuple (by rfl) Mb.b_isinstance (by rfl) Mb.b_tuple (by rfl) (pd_v 3 (pv 3))))) (pw_o (pt_cmp' (or_ne hr) (pd_callB cr_len (by rfl) Mb.b_len (by rfl) (pa_c (pd_v 3 (pv 3)) pa_n)) pd_int) (pw_o1 (pt_n (pt_b (pd_fn c_is_in hr (by decide) (by rfl) (pa_c (pd_ix hr (pd_v 3 (pv 3)) pd_int) (pa_c (pd_v 4 (pv 4)) (pa_c (pd_v 4 (pv 4)) pa_n)))))))))) (pssd_one (psd_ret pd_bl)) pssd_nil) (pssd_cons (psd_if (pt_n (pt_b (pd_fn c_are_steps hr (by decide) (by rfl) (pa_c (pd_v 5 (pv 5)) (pa_c (pd_ix hr (pd_v 3 (pv 3)) pd_int) (pa_c (pd_gc (by rfl) Mc.e_MOST_CHEAP) pa_n)))))) (pssd_one (psd_ret pd_bl)) pssd_nil) (pssd_one (psd_ret (pd_and (pd_cmp (or_eq hr) (pd_ix hr (pd_fn c_trace hr (by decide) (by rfl) (pa_c (pd_v 0 (pv 0)) (pa_c (pd_ix hr (pd_v 3 (pv 3)) pd_int) pa_n))) (pd_neg pd_int)) (pd_v 1 (pv 1))) (pd_b1 (pd_cmp (or_eq hr) (pd_fn c_price_of hr (by decide) (by rfl) (pa_c (pd_v 5 (pv 5)) (pa_c (pd_v 2 (pv 2)) (pa_c (pd_ix hr (pd_v 3 (pv 3)) pd_int) pa_n)))) (pd_v 4 (pv 4)))))))))))
def s_worths : Stmt := topS 33
theorem sc_worths : FnScope ["goal", "prices", "found", "one"] ["goal", "prices"] (defScope s_worths) := fnScope_by (by decide +kernel)
def F_worths : Sl → Option Out :=
  andT (sdrop (dfn 1 A_need_grouping (ac (dv 0) (an)))) (andT (sdrop (dfn 2 A_need_prices (ac (dfn 1 A_size_of (ac (dv 0) (an))) (ac (dv 1) (an))))) (andT (sset 2 (dfn 2 A_least_rows (ac (dv 0) (ac (dv 1) (an))))) (sret (dl tupleD (ac (dlc [3] (iseq (dl sortedN (ac (dv 2) (an)))) (tg1 3) (tyes) (d2 ixD (d2 ixD (dv 2) (dv 3)) (dc (.int 0)))) (an))))))
def A_worths : List D → Option D := ansD 4 (F_worths)
theorem ok_worths {cdv : Value} {f : Addr} {fd : FuncData} (Mb : Bn mg) (Mc : Cn mg) (c_least_rows : Cal P w K mg base 5 "least_rows" (spD P w T 2 A_least_rows)) (c_need_grouping : Cal P w K mg base 10 "need_grouping" (spD P w T 1 A_need_grouping)) (c_need_prices : Cal P w K mg base 6 "need_prices" (spD P w T 2 A_need_prices)) (c_size_of : Cal P w K mg base 4 "size_of" (spD P w T 1 A_size_of)) (F : Df K mg "worths" s_worths cdv f fd) : Cal P w K mg base 11 "worths" (spD P w T 2 (A_worths)) :=
  cal_D F sc_worths (F.binds (ps := ["goal", "prices"]) fun _ _ _ _ _ _ us hl => match us, hl with | [_, _], _ => rfl) fun A outer s H E hr =>
    show PSsd T _ (defBody s_worths) (F_worths) from
    (pssd_cons (psd_drop (pd_fn c_need_grouping hr (by decide) (by rfl) (pa_c (pd_v 0 (pv 0)) pa_n))) (pssd_cons (psd_drop (pd_fn c_need_prices hr (by decide) (by rfl) (pa_c (pd_fn c_size_of hr (by decide) (by rfl) (pa_c (pd_v 0 (pv 0)) pa_n)) (pa_c (pd_v 1 (pv 1)) pa_n)))) (pssd_cons (psd_set (i := 2) sc_worths.nd rfl (by first | exact .inl rfl | exact .inr rfl) (pd_fn c_least_rows hr (by decide) (by rfl) (pa_c (pd_v 0 (pv 0)) (pa_c (pd_v 1 (pv 1)) pa_n)))) (pssd_one (psd_ret (pd_callTy cr_tuple (by rfl) Mb.b_tuple (by rfl) (pa_c (pd_flc (pf_lc (own := [("one", 3)]) rfl sc_worths.nd (pi_seq (pd_callB (cr_sortedN hr rfl) (by rfl) Mb.b_sorted (by rfl) (pa_c (pd_v 2 (pv 2)) pa_n))) (blkOk_by (by kernel_rfl)) (fun _ _ _ _ _ => (pgd_1 (i := 3) sc_worths.nd rfl (by first | exact .inl rfl | exact .inr rfl))) (fun _ _ _ _ _ => ptsd_nil) (fun _ _ _ _ _ => (pd_ix hr (pd_ix hr (pd_v 2 (pv 2)) (pd_v 3 (pv 3))) pd_int)))) pa_n)))))))
def s_shows_price_paper : Stmt := topS 34
theorem sc_shows_price_paper : FnScope ["start", "goal", "prices", "value", "size", "numbers", "here", "some", "table", "one", "step"] ["start", "goal", "prices", "value"] (defScope s_shows_price_paper) := fnScope_by (by decide +kernel)
def F_shows_price_paper : Sl → Option Out :=
  andT (sdrop (dfn 3 A_need_priced (ac (dv 0) (ac (dv 1) (ac (dv 2) (an)))))) (andT (sset 4 (dfn 1 A_size_of (ac (dv 0) (an)))) (andT (spar [7, 8] (aoc (dfn 1 A_all_groupings (ac (dv 4) (an))) (aoc (dfn 2 A_price_table (ac (dv 4) (ac (dv 2) (an)))) (aon)))) (andT (sif (tor (tnot (tb (d1 (isiD .tuple) (dv 3)))) (tb (d2 neD (dl lenD (ac (dv 3) (an))) (dl lenD (ac (dv 7) (an)))))) (sret (dc (.bool false))) (snil)) (andT (sif (tnot (tb (dall [9] (iseq (dv 3)) (tg1 9) (dand (d1 (isiD .int) (dv 9)) (d1 notD (d1 (isiD .bool) (dv 9))))))) (sret (dc (.bool false))) (snil)) (andT (sset 5 (own_val (fzip (dv 7) (dv 3)))) (andT (sif (tor (tb (d2 neD (d2 ixD (dv 5) (dv 1)) (dc (.int 0)))) (tb (d2 neD (d2 ixD (dv 5) (dv 0)) (d2 ixD (d2 ixD (dfn 2 A_least_rows (ac (dv 1) (ac (dv 2) (an)))) (dv 0)) (dc (.int 0)))))) (sret (dc (.bool false))) (snil)) (andT (sfor (iseq (dv 7)) (tg1 6) (sif (tb (dany [10] (idct (dv 8)) (tg1 10) (d2 gtD (d2 subD (d2 ixD (dv 5) (dv 6)) (d2 ixD (dv 5) (dfn 2 A_stepped (ac (dv 6) (ac (dv 10) (an)))))) (d2 ixD (dv 8) (dv 10))))) (sret (dc (.bool false))) (snil))) (sret (dc (.bool true))))))))))
def A_shows_price_paper : List D → Option D := ansD 11 (F_shows_price_paper)
theorem ok_shows_price_paper {c Pt : Addr} {f : Addr} {fd : FuncData} (Mb : Bn mg) (Mc : Cn mg) (c_all_groupings : Cal P w K mg base 1 "all_groupings" (spD P w T 1 A_all_groupings)) (c_least_rows : Cal P w K mg base 5 "least_rows" (spD P w T 2 A_least_rows)) (c_need_priced : Cal P w K mg base 12 "need_priced" (spD P w T 3 A_need_priced)) (c_price_table : Cal P w K mg base 1 "price_table" (spD P w T 2 A_price_table)) (c_size_of : Cal P w K mg base 4 "size_of" (spD P w T 1 A_size_of)) (c_stepped : Cal P w K mg base 3 "stepped" (spD P w T 2 A_stepped)) (TB : GxR.TabB base mg c Pt) (hP : Pt ∈ T) (F : Df K mg "shows_price_paper" s_shows_price_paper (.ref c) f fd) : Cal P w K mg base 13 "shows_price_paper" (spD P w T 4 (A_shows_price_paper)) :=
  cal_D F sc_shows_price_paper (F.binds (ps := ["start", "goal", "prices", "value"]) fun _ _ _ _ _ _ us hl => match us, hl with | [_, _, _, _], _ => rfl) fun A outer s H E hr =>
    show PSsd T _ (defBody s_shows_price_paper) (F_shows_price_paper) from
    (pssd_cons (psd_drop (pd_fn c_need_priced hr (by decide) (by rfl) (pa_c (pd_v 0 (pv 0)) (pa_c (pd_v 1 (pv 1)) (pa_c (pd_v 2 (pv 2)) pa_n))))) (pssd_cons (psd_set (i := 4) sc_shows_price_paper.nd rfl (by first | exact .inl rfl | exact .inr rfl) (pd_fn c_size_of hr (by decide) (by rfl) (pa_c (pd_v 0 (pv 0)) pa_n))) (pssd_cons (psd_parC2 (i := 7) (j := 8) rfl sc_shows_price_paper.nd rfl rfl (by first | exact .inl rfl | exact .inr rfl) (by first | exact .inl rfl | exact .inr rfl) (pao_c (pd_fn c_all_groupings hr (by decide) (by rfl) (pa_c (pd_v 4 (pv 4)) pa_n)) (pao_c (pd_fn c_price_table hr (by decide) (by rfl) (pa_c (pd_v 4 (pv 4)) (pa_c (pd_v 2 (pv 2)) pa_n))) pao_n))) (pssd_cons (psd_if (ptd_w (pw_o (pt_n (pt_b (pd_isi .tuple (by rfl) Mb.b_isinstance (by rfl) Mb.b_tuple (by rfl) (pd_v 3 (pv 3))))) (pw_o1 (pt_cmp' (or_ne hr) (pd_callB cr_len (by rfl) Mb.b_len (by rfl) (pa_c (pd_v 3 (pv 3)) pa_n)) (pd_callB cr_len (by rfl) Mb.b_len (by rfl) (pa_c (pd_v 7 (pv 7)) pa_n)))))) (pssd_one (psd_ret pd_bl)) pssd_nil) (pssd_cons (psd_if (pt_n (pt_b (pd_all (k := 9) (own := [("one", 9)]) hr TB hP rfl rfl sc_shows_price_paper.nd (by rfl) Mb.b_all (blkOk_by (by kernel_rfl)) (by decide +kernel) (by rfl) rfl (pi_seq (pd_v 3 (pv 3))) (fun _ _ _ _ _ _ _ => (pgd_1 (i := 9) sc_shows_price_paper.nd rfl (by first | exact .inl rfl | exact .inr rfl))) (fun _ _ _ _ _ _ _ hr => (pd_and (pd_isi .int (by rfl) Mb.b_isinstance (by rfl) Mb.b_int (by rfl) (pd_v 9 (pv 9))) (pd_b1 (pd_not (pd_isi .bool (by rfl) Mb.b_isinstance (by rfl) Mb.b_bool (by rfl) (pd_v 9 (pv 9)))))))))) (pssd_one (psd_ret pd_bl)) pssd_nil) (pssd_cons (psd_set (i := 5) sc_shows_price_paper.nd rfl (by first | exact .inl rfl | exact .inr rfl) (pd_of_pf (pf_dictZip hr rfl (by rfl) Mb.b_dict (by rfl) Mb.b_zip (pd_v 7 (pv 7)) (pd_v 3 (pv 3))))) (pssd_cons (psd_if (ptd_w (pw_o (pt_cmp' (or_ne hr) (pd_ix hr (pd_v 5 (pv 5)) (pd_v 1 (pv 1))) pd_int) (pw_o1 (pt_cmp' (or_ne hr) (pd_ix hr (pd_v 5 (pv 5)) (pd_v 0 (pv 0))) (pd_ix hr (pd_ix hr (pd_fn c_least_rows hr (by decide) (by rfl) (pa_c (pd_v 1 (pv 1)) (pa_c (pd_v 2 (pv 2)) pa_n))) (pd_v 0 (pv 0))) pd_int))))) (pssd_one (psd_ret pd_bl)) pssd_nil) (pssd_cons (psd_for PassesOwn.never rfl (pi_seq (pd_v 7 (pv 7))) (pgd_1 (i := 6) sc_shows_price_paper.nd rfl (by first | exact .inl rfl | exact .inr rfl)) (pssd_one (psd_if (pt_b (pd_any (k := 9) (own := [("step", 10)]) hr TB hP rfl rfl sc_shows_price_paper.nd (by rfl) Mb.b_any (blkOk_by (by kernel_rfl)) (by decide +kernel) (by rfl) rfl (pi_dct (pd_v 8 (pv 8))) (fun _ _ _ _ _ _ _ => (pgd_1 (i := 10) sc_shows_price_paper.nd rfl (by first | exact .inl rfl | exact .inr rfl))) (fun _ _ _ _ _ _ _ hr => (pd_cmp or_gt (pd_op or_sub (pd_ix hr (pd_v 5 (pv 5)) (pd_v 6 (pv 6))) (pd_ix hr (pd_v 5 (pv 5)) (pd_fn c_stepped hr (by decide) (by rfl) (pa_c (pd_v 6 (pv 6)) (pa_c (pd_v 10 (pv 10)) pa_n))))) (pd_ix hr (pd_v 8 (pv 8)) (pd_v 10 (pv 10))))))) (pssd_one (psd_ret pd_bl)) pssd_nil))) (pssd_one (psd_ret pd_bl))))))))))
end Gd

set_option maxHeartbeats 2000000
/-! GdY4: printed by gen.py. -/
namespace Gd
open PySem PySem.Spec PyProof.Rows L2
variable {P : Program} {w : World} {K : PySem.W.Frag} {mg : Str → Option Value} {base : Heap} {T : List Addr}
def s_law_alike : Stmt := topS 38
theorem sc_law_alike : FnScope ["_law_found", "_law_due", "_law_k"] ["_law_found", "_law_due"] (defScope s_law_alike) := fnScope_by (by decide +kernel)
def F_law_alike (G : List D → Option D) : Sl → Option Out :=
  andT (sif (tb (d1 isiTL (dv 1))) (andT (sif (tor (tnot (tb (d1 isiTL (dv 0)))) (tb (d2 neD (d1 (isiD .list) (dv 0)) (d1 (isiD .list) (dv 1))))) (sret (dc (.bool false))) (snil)) (andT (sif (tb (d2 neD (dl lenD (ac (dv 0) (an))) (dl lenD (ac (dv 1) (an))))) (sret (dc (.bool false))) (snil)) (sret (d2 eqD (dlc [2] (irg1 (dl lenD (ac (dv 1) (an)))) (tg1 2) (tnot (tb (dfn 2 G (ac (d2 ixD (dv 0) (dv 2)) (ac (d2 ixD (dv 1) (dv 2)) (an)))))) (dv 2)) (dl mkL (an)))))) (snil)) (andT (sif (tor (tb (d2 isD (dv 1) (dc .none))) (tb (d1 (isiD .str) (dv 1)))) (sret (dand (d2 eqD (dv 0) (dv 1)) (d2 eqD (d1 (isiD .str) (dv 0)) (d1 (isiD .str) (dv 1))))) (snil)) (sret (dand (d1 (isiD .int) (dv 0)) (dand (d2 eqD (d1 (isiD .bool) (dv 0)) (d1 (isiD .bool) (dv 1))) (d2 eqD (dv 0) (dv 1))))))
def A_law_alike (G : List D → Option D) : List D → Option D := ansD 3 (F_law_alike G)
theorem ok_law_alike {cdv : Value} {G : List D → Option D} {lv : Nat} {f : Addr} {fd : FuncData} (Mb : Bn mg) (Mc : Cn mg) (c_G : Cal P w K mg base lv "_law_alike" (spD P w T 2 G)) (F : Df K mg "_law_alike" s_law_alike cdv f fd) : Cal P w K mg base (lv + 1) "_law_alike" (spD P w T 2 (A_law_alike G)) :=
  cal_D F sc_law_alike (F.binds (ps := ["_law_found", "_law_due"]) fun _ _ _ _ _ _ us hl => match us, hl with | [_, _], _ => rfl) fun A outer s H E hr =>
    show PSsd T _ (defBody s_law_alike) (F_law_alike G) from
    (pssd_cons (psd_if (pt_b (pd_isi2 (by rfl) Mb.b_isinstance (by rfl) Mb.b_tuple (by rfl) Mb.b_list (pd_v 1 (pv 1)))) (pssd_cons (psd_if (ptd_w (pw_o (pt_n (pt_b (pd_isi2 (by rfl) Mb.b_isinstance (by rfl) Mb.b_tuple (by rfl) Mb.b_list (pd_v 0 (pv 0))))) (pw_o1 (pt_cmp' (or_ne hr) (pd_isi .list (by rfl) Mb.b_isinstance (by rfl) Mb.b_list (by rfl) (pd_v 0 (pv 0))) (pd_isi .list (by rfl) Mb.b_isinstance (by rfl) Mb.b_list (by rfl) (pd_v 1 (pv 1))))))) (pssd_one (psd_ret pd_bl)) pssd_nil) (pssd_cons (psd_if (pt_cmp' (or_ne hr) (pd_callB cr_len (by rfl) Mb.b_len (by rfl) (pa_c (pd_v 0 (pv 0)) pa_n)) (pd_callB cr_len (by rfl) Mb.b_len (by rfl) (pa_c (pd_v 1 (pv 1)) pa_n))) (pssd_one (psd_ret pd_bl)) pssd_nil) (pssd_one (psd_ret (pd_cmp (or_eq hr) (pd_flc (pf_lc (own := [("_law_k", 2)]) rfl sc_law_alike.nd (pi_rg1 (by rfl) Mb.b_range (pd_callB cr_len (by rfl) Mb.b_len (by rfl) (pa_c (pd_v 1 (pv 1)) pa_n))) (blkOk_by (by kernel_rfl)) (fun _ _ _ _ _ => (pgd_1 (i := 2) sc_law_alike.nd rfl (by first | exact .inl rfl | exact .inr rfl))) (fun _ _ _ _ _ => (ptsd_one (pt_n (pt_b (pd_fn c_G hr (Nat.le_refl _) (by rfl) (pa_c (pd_ix hr (pd_v 0 (pv 0)) (pd_v 2 (pv 2))) (pa_c (pd_ix hr (pd_v 1 (pv 1)) (pd_v 2 (pv 2))) pa_n))))))) (fun _ _ _ _ _ => (pd_v 2 (pv 2))))) (pd_lst pa_n)))))) pssd_nil) (pssd_cons (psd_if (ptd_w (pw_o (pt_cmp' or_is (pd_v 1 (pv 1)) pd_non) (pw_o1 (pt_b (pd_isi .str (by rfl) Mb.b_isinstance (by rfl) Mb.b_str (by rfl) (pd_v 1 (pv 1))))))) (pssd_one (psd_ret (pd_and (pd_cmp (or_eq hr) (pd_v 0 (pv 0)) (pd_v 1 (pv 1))) (pd_b1 (pd_cmp (or_eq hr) (pd_isi .str (by rfl) Mb.b_isinstance (by rfl) Mb.b_str (by rfl) (pd_v 0 (pv 0))) (pd_isi .str (by rfl) Mb.b_isinstance (by rfl) Mb.b_str (by rfl) (pd_v 1 (pv 1)))))))) pssd_nil) (pssd_one (psd_ret (pd_and (pd_isi .int (by rfl) Mb.b_isinstance (by rfl) Mb.b_int (by rfl) (pd_v 0 (pv 0))) (pd_and (pd_cmp (or_eq hr) (pd_isi .bool (by rfl) Mb.b_isinstance (by rfl) Mb.b_bool (by rfl) (pd_v 0 (pv 0))) (pd_isi .bool (by rfl) Mb.b_isinstance (by rfl) Mb.b_bool (by rfl) (pd_v 1 (pv 1)))) (pd_b1 (pd_cmp (or_eq hr) (pd_v 0 (pv 0)) (pd_v 1 (pv 1))))))))))
def A2_law_alike : List D → Option D := A_law_alike (A_law_alike fun _ => none)
theorem ok2_law_alike {cdv : Value} {f : Addr} {fd : FuncData} (Mb : Bn mg) (Mc : Cn mg) (F : Df K mg "_law_alike" s_law_alike cdv f fd) : Cal P w K mg base 3 "_law_alike" (spD P w T 2 A2_law_alike) :=
  ok_law_alike Mb Mc (ok_law_alike Mb Mc (cal_none F (F.binds (ps := ["_law_found", "_law_due"]) fun _ _ _ _ _ _ us hl => match us, hl with | [_, _], _ => rfl) 1) F) F
def s_law_lots : Stmt := topS 39
theorem sc_law_lots : FnScope ["_law_labels_here", "_law_found", "_law_label", "_law_k"] ["_law_labels_here"] (defScope s_law_lots) := fnScope_by (by decide +kernel)
def F_law_lots : Sl → Option Out :=
  andT (sown 1 (fl (an))) (andT (sfor (iseq (d1 ssetD (dv 0))) (tg1 2) (sapp 1 (dl tupleD (ac (dlc [3] (irg1 (dl lenD (ac (dv 0) (an)))) (tg1 3) (tb (d2 eqD (d2 ixD (dv 0) (dv 3)) (dv 2))) (dv 3)) (an))))) (sfrz 1 (sret (dl tupleD (ac (dl sortedD (ac (dv 1) (an))) (an))))))
def A_law_lots : List D → Option D := ansD 4 (F_law_lots)
theorem ok_law_lots {cdv : Value} {f : Addr} {fd : FuncData} (Mb : Bn mg) (Mc : Cn mg) (F : Df K mg "_law_lots" s_law_lots cdv f fd) : Cal P w K mg base 1 "_law_lots" (spD P w T 1 (A_law_lots)) :=
  cal_D F sc_law_lots (F.binds (ps := ["_law_labels_here"]) fun _ _ _ _ _ _ us hl => match us, hl with | [_], _ => rfl) fun A outer s H E hr =>
    show PSsd T _ (defBody s_law_lots) (F_law_lots) from
    (pssd_cons (psd_own (i := 1) sc_law_lots.nd rfl (by first | exact .inl rfl | exact .inr rfl) (pf_lst pa_n)) (pssd_cons (psd_for PassesOwn.never rfl (pi_seq (pd_sortedSet rfl (by rfl) Mb.b_sorted (by rfl) Mb.b_set (pd_v 0 (pv 0)))) (pgd_1 (i := 2) sc_law_lots.nd rfl (by first | exact .inl rfl | exact .inr rfl)) (pssd_one (psd_app 1 (pv 1) (pd_callTy cr_tuple (by rfl) Mb.b_tuple (by rfl) (pa_c (pd_flc (pf_lc (own := [("_law_k", 3)]) rfl sc_law_lots.nd (pi_rg1 (by rfl) Mb.b_range (pd_callB cr_len (by rfl) Mb.b_len (by rfl) (pa_c (pd_v 0 (pv 0)) pa_n))) (blkOk_by (by kernel_rfl)) (fun _ _ _ _ _ => (pgd_1 (i := 3) sc_law_lots.nd rfl (by first | exact .inl rfl | exact .inr rfl))) (fun _ _ _ _ _ => (ptsd_one (pt_cmp' (or_eq hr) (pd_ix hr (pd_v 0 (pv 0)) (pd_v 3 (pv 3))) (pd_v 2 (pv 2))))) (fun _ _ _ _ _ => (pd_v 3 (pv 3))))) pa_n))))) (pssd_one (psd_frz 1 (psd_ret (pd_callTy cr_tuple (by rfl) Mb.b_tuple (by rfl) (pa_c (pd_callB (call_sorted hr) (by rfl) Mb.b_sorted (by rfl) (pa_c (pd_v 1 (pv 1)) pa_n)) pa_n)))))))
def s_law_labels : Stmt := topS 40
theorem sc_law_labels : FnScope ["_law_grouping_here", "_law_found", "_law_k", "_law_person"] ["_law_grouping_here"] (defScope s_law_labels) := fnScope_by (by decide +kernel)
def F_law_labels : Sl → Option Out :=
  andT (sown 1 (fun _ => some (.owk []))) (andT (sfor (irg1 (dl lenD (ac (dv 0) (an)))) (tg1 2) (sfor (iseq (d2 ixD (dv 0) (dv 2))) (tg1 3) (sput 1 (dv 3) (dv 2)))) (sfrz 1 (sretF (flc [3] (iseq (dl sortedD (ac (dl listK (ac (dv 1) (an))) (an)))) (tg1 3) (tyes) (d2 ixD (dv 1) (dv 3))))))
def A_law_labels : List D → Option SD := ansO 4 (F_law_labels)
theorem ok_law_labels {cdv : Value} {f : Addr} {fd : FuncData} (Mb : Bn mg) (Mc : Cn mg) (F : Df K mg "_law_labels" s_law_labels cdv f fd) : Cal P w K mg base 1 "_law_labels" (spO P w T 1 (A_law_labels)) :=
  cal_O F sc_law_labels (F.binds (ps := ["_law_grouping_here"]) fun _ _ _ _ _ _ us hl => match us, hl with | [_], _ => rfl) fun A outer s H E hr =>
    show PSsd T _ (defBody s_law_labels) (F_law_labels) from
    (pssd_cons (psd_own (i := 1) sc_law_labels.nd rfl (by first | exact .inl rfl | exact .inr rfl) pf_dk) (pssd_cons (psd_for PassesOwn.never rfl (pi_rg1 (by rfl) Mb.b_range (pd_callB cr_len (by rfl) Mb.b_len (by rfl) (pa_c (pd_v 0 (pv 0)) pa_n))) (pgd_1 (i := 2) sc_law_labels.nd rfl (by first | exact .inl rfl | exact .inr rfl)) (pssd_one (psd_for PassesOwn.never rfl (pi_seq (pd_ix hr (pd_v 0 (pv 0)) (pd_v 2 (pv 2)))) (pgd_1 (i := 3) sc_law_labels.nd rfl (by first | exact .inl rfl | exact .inr rfl)) (pssd_one (psd_put hr 1 (pv 1) (pd_v 3 (pv 3)) (pd_v 2 (pv 2))))))) (pssd_one (psd_frz 1 (psd_retF (pf_lc (own := [("_law_person", 3)]) rfl sc_law_labels.nd (pi_seq (pd_callB (call_sorted hr) (by rfl) Mb.b_sorted (by rfl) (pa_c (pd_callTy (cr_listK rfl) (by rfl) Mb.b_list (by rfl) (pa_c (pd_v 1 (pv 1)) pa_n)) pa_n))) (blkOk_by (by kernel_rfl)) (fun _ _ _ _ _ => (pgd_1 (i := 3) sc_law_labels.nd rfl (by first | exact .inl rfl | exact .inr rfl))) (fun _ _ _ _ _ => ptsd_nil) (fun _ _ _ _ _ => (pd_ix hr (pd_v 1 (pv 1)) (pd_v 3 (pv 3))))))))))
def s_law_step : Stmt := topS 42
theorem sc_law_step : FnScope ["_law_grouping_here", "_law_step_here", "_law_labels_here", "_law_old", "_law_label"] ["_law_grouping_here", "_law_step_here"] (defScope s_law_step) := fnScope_by (by decide +kernel)
def F_law_step : Sl → Option Out :=
  andT (sown 2 (ffn 1 A_law_labels (ac (dv 0) (an)))) (andT (sif (tb (d2 eqD (dl lenD (ac (dv 1) (an))) (dc (.int 1)))) (andT (sput 2 (d2 ixD (dv 1) (dc (.int 0))) (d2 addD (dlenO 2) (dc (.int 9)))) (sfrz 2 (snil))) (andT (sset 3 (dixO 2 (d2 ixD (dv 1) (dc (.int 1))))) (sfrz 2 (sset 2 (dlc [4] (iseq (dv 2)) (tg1 4) (tyes) (dif (tb (d2 eqD (dv 4) (dv 3))) (d2 ixD (dv 2) (d2 ixD (dv 1) (dc (.int 0)))) (dv 4))))))) (sret (dfn 1 A_law_lots (ac (dv 2) (an)))))
def A_law_step : List D → Option D := ansD 5 (F_law_step)
theorem ok_law_step {cdv : Value} {f : Addr} {fd : FuncData} (Mb : Bn mg) (Mc : Cn mg) (c_law_labels : Cal P w K mg base 1 "_law_labels" (spO P w T 1 A_law_labels)) (c_law_lots : Cal P w K mg base 1 "_law_lots" (spD P w T 1 A_law_lots)) (F : Df K mg "_law_step" s_law_step cdv f fd) : Cal P w K mg base 2 "_law_step" (spD P w T 2 (A_law_step)) :=
  cal_D F sc_law_step (F.binds (ps := ["_law_grouping_here", "_law_step_here"]) fun _ _ _ _ _ _ us hl => match us, hl with | [_, _], _ => rfl) fun A outer s H E hr =>
    show PSsd T _ (defBody s_law_step) (F_law_step) from
    (pssd_cons (psd_own (i := 2) sc_law_step.nd rfl (by first | exact .inl rfl | exact .inr rfl) (pf_fn c_law_labels hr (by decide) (by rfl) (pa_c (pd_v 0 (pv 0)) pa_n))) (pssd_cons (psd_if (pt_cmp' (or_eq hr) (pd_callB cr_len (by rfl) Mb.b_len (by rfl) (pa_c (pd_v 1 (pv 1)) pa_n)) pd_int) (pssd_cons (psd_put hr 2 (pv 2) (pd_ix hr (pd_v 1 (pv 1)) pd_int) (pd_op or_add (pd_lenO 2 (by rfl) Mb.b_len (pv 2)) pd_int)) (pssd_frz 2 pssd_nil)) (pssd_cons (psd_set (i := 3) sc_law_step.nd rfl (by first | exact .inl rfl | exact .inr rfl) (pd_ixO hr 2 (pv 2) (pd_ix hr (pd_v 1 (pv 1)) pd_int))) (pssd_one (psd_frz 2 (psd_set (i := 2) sc_law_step.nd rfl (by first | exact .inl rfl | exact .inr rfl) (pd_flc (pf_lc (own := [("_law_label", 4)]) rfl sc_law_step.nd (pi_seq (pd_v 2 (pv 2))) (blkOk_by (by kernel_rfl)) (fun _ _ _ _ _ => (pgd_1 (i := 4) sc_law_step.nd rfl (by first | exact .inl rfl | exact .inr rfl))) (fun _ _ _ _ _ => ptsd_nil) (fun _ _ _ _ _ => (pd_if (pt_cmp' (or_eq hr) (pd_v 4 (pv 4)) (pd_v 3 (pv 3))) (pd_ix hr (pd_v 2 (pv 2)) (pd_ix hr (pd_v 1 (pv 1)) pd_int)) (pd_v 4 (pv 4))))))))))) (pssd_one (psd_ret (pd_fn c_law_lots hr (by decide) (by rfl) (pa_c (pd_v 2 (pv 2)) pa_n))))))
def s_law_done : Stmt := topS 43
theorem sc_law_done : FnScope ["_law_grouping_here", "_law_steps_here", "_law_step_here"] ["_law_grouping_here", "_law_steps_here"] (defScope s_law_done) := fnScope_by (by decide +kernel)
def F_law_done : Sl → Option Out :=
  andT (sfor (iseq (dv 1)) (tg1 2) (sset 0 (dfn 2 A_law_step (ac (dv 0) (ac (dv 2) (an)))))) (sret (dv 0))
def A_law_done : List D → Option D := ansD 3 (F_law_done)
theorem ok_law_done {cdv : Value} {f : Addr} {fd : FuncData} (Mb : Bn mg) (Mc : Cn mg) (c_law_step : Cal P w K mg base 2 "_law_step" (spD P w T 2 A_law_step)) (F : Df K mg "_law_done" s_law_done cdv f fd) : Cal P w K mg base 3 "_law_done" (spD P w T 2 (A_law_done)) :=
  cal_D F sc_law_done (F.binds (ps := ["_law_grouping_here", "_law_steps_here"]) fun _ _ _ _ _ _ us hl => match us, hl with | [_, _], _ => rfl) fun A outer s H E hr =>
    show PSsd T _ (defBody s_law_done) (F_law_done) from
    (pssd_cons (psd_for PassesOwn.never rfl (pi_seq (pd_v 1 (pv 1))) (pgd_1 (i := 2) sc_law_done.nd rfl (by first | exact .inl rfl | exact .inr rfl)) (pssd_one (psd_set (i := 0) sc_law_done.nd rfl (by first | exact .inl rfl | exact .inr rfl) (pd_fn c_law_step hr (by decide) (by rfl) (pa_c (pd_v 0 (pv 0)) (pa_c (pd_v 2 (pv 2)) pa_n)))))) (pssd_one (psd_ret (pd_v 0 (pv 0)))))
def s_law_steps : Stmt := topS 44
theorem sc_law_steps : FnScope ["_law_size", "_law_found", "_law_one", "_law_other"] ["_law_size"] (defScope s_law_steps) := fnScope_by (by decide +kernel)
def F_law_steps : Sl → Option Out :=
  andT (sset 1 (dlc [2] (irg1 (dv 0)) (tg1 2) (tyes) (dl mkT (ac (dv 2) (an))))) (andT (sfor (irg1 (dv 0)) (tg1 2) (sset 1 (d2 addD (dv 1) (dlc [3] (irg2 (d2 addD (dv 2) (dc (.int 1))) (dv 0)) (tg1 3) (tyes) (dl mkT (ac (dv 2) (ac (dv 3) (an)))))))) (sret (dl sortedD (ac (dv 1) (an)))))
def A_law_steps : List D → Option D := ansD 4 (F_law_steps)
theorem ok_law_steps {cdv : Value} {f : Addr} {fd : FuncData} (Mb : Bn mg) (Mc : Cn mg) (F : Df K mg "_law_steps" s_law_steps cdv f fd) : Cal P w K mg base 1 "_law_steps" (spD P w T 1 (A_law_steps)) :=
  cal_D F sc_law_steps (F.binds (ps := ["_law_size"]) fun _ _ _ _ _ _ us hl => match us, hl with | [_], _ => rfl) fun A outer s H E hr =>
    show PSsd T _ (defBody s_law_steps) (F_law_steps) from
    (pssd_cons (psd_setLc (i := 1) (own := [("_law_one", 2)]) rfl sc_law_steps.nd rfl rfl (sw_true rfl rfl rfl rfl) (pi_rg1 (by rfl) Mb.b_range (pd_v 0 (pv 0))) (blkOk_by (by kernel_rfl)) (fun _ _ _ _ _ => (pgd_1 (i := 2) sc_law_steps.nd rfl (by first | exact .inl rfl | exact .inr rfl))) (fun _ _ _ _ _ => ptsd_nil) (fun _ _ _ _ _ => (pd_tup (pa_c (pd_v 2 (pv 2)) pa_n)))) (pssd_cons (psd_for PassesOwn.never rfl (pi_rg1 (by rfl) Mb.b_range (pd_v 0 (pv 0))) (pgd_1 (i := 2) sc_law_steps.nd rfl (by first | exact .inl rfl | exact .inr rfl)) (pssd_one (psd_set (i := 1) sc_law_steps.nd rfl (by first | exact .inl rfl | exact .inr rfl) (pd_op or_add (pd_v 1 (pv 1)) (pd_flc (pf_lc (own := [("_law_other", 3)]) rfl sc_law_steps.nd (pi_rg2 (by rfl) Mb.b_range (pd_op or_add (pd_v 2 (pv 2)) pd_int) (pd_v 0 (pv 0))) (blkOk_by (by kernel_rfl)) (fun _ _ _ _ _ => (pgd_1 (i := 3) sc_law_steps.nd rfl (by first | exact .inl rfl | exact .inr rfl))) (fun _ _ _ _ _ => ptsd_nil) (fun _ _ _ _ _ => (pd_tup (pa_c (pd_v 2 (pv 2)) (pa_c (pd_v 3 (pv 3)) pa_n)))))))))) (pssd_one (psd_ret (pd_callB (call_sorted hr) (by rfl) Mb.b_sorted (by rfl) (pa_c (pd_v 1 (pv 1)) pa_n))))))
def s_law_groupings : Stmt := topS 46
theorem sc_law_groupings : FnScope ["_law_size", "_law_found", "_law_person", "_law_more", "_law_labels_here", "_law_top", "_law_label"] ["_law_size"] (defScope s_law_groupings) := fnScope_by (by decide +kernel)
def F_law_groupings : Sl → Option Out :=
  andT (sset 1 (dl mkL (ac (dl mkL (an)) (an)))) (andT (sfor (irg1 (dv 0)) (tg1 2) (andT (sset 3 (dl mkL (an))) (andT (sfor (iseq (dv 1)) (tg1 4) (andT (sset 5 (d2 addD (dl maxD (ac (d2 addD (dv 4) (dl mkL (ac (d1 negD (dc (.int 1))) (an)))) (an))) (dc (.int 2)))) (sset 3 (d2 addD (dv 3) (dlc [6] (irg1 (dv 5)) (tg1 6) (tyes) (d2 addD (dv 4) (dl mkL (ac (dv 6) (an))))))))) (sset 1 (dv 3))))) (sret (dl sortedD (ac (dlc [4] (iseq (dv 1)) (tg1 4) (tyes) (dfn 1 A_law_lots (ac (dv 4) (an)))) (an)))))
def A_law_groupings : List D → Option D := ansD 7 (F_law_groupings)
theorem ok_law_groupings {cdv : Value} {f : Addr} {fd : FuncData} (Mb : Bn mg) (Mc : Cn mg) (c_law_lots : Cal P w K mg base 1 "_law_lots" (spD P w T 1 A_law_lots)) (F : Df K mg "_law_groupings" s_law_groupings cdv f fd) : Cal P w K mg base 2 "_law_groupings" (spD P w T 1 (A_law_groupings)) :=
  cal_D F sc_law_groupings (F.binds (ps := ["_law_size"]) fun _ _ _ _ _ _ us hl => match us, hl with | [_], _ => rfl) fun A outer s H E hr =>
    show PSsd T _ (defBody s_law_groupings) (F_law_groupings) from
    (pssd_cons (psd_set (i := 1) sc_law_groupings.nd rfl (by first | exact .inl rfl | exact .inr rfl) (pd_lst (pa_c (pd_lst pa_n) pa_n))) (pssd_cons (psd_for PassesOwn.never rfl (pi_rg1 (by rfl) Mb.b_range (pd_v 0 (pv 0))) (pgd_1 (i := 2) sc_law_groupings.nd rfl (by first | exact .inl rfl | exact .inr rfl)) (pssd_cons (psd_set (i := 3) sc_law_groupings.nd rfl (by first | exact .inl rfl | exact .inr rfl) (pd_lst pa_n)) (pssd_cons (psd_for PassesOwn.never rfl (pi_seq (pd_v 1 (pv 1))) (pgd_1 (i := 4) sc_law_groupings.nd rfl (by first | exact .inl rfl | exact .inr rfl)) (pssd_cons (psd_set (i := 5) sc_law_groupings.nd rfl (by first | exact .inl rfl | exact .inr rfl) (pd_op or_add (pd_callB (cr_maxD' rfl) (by rfl) Mb.b_max (by rfl) (pa_c (pd_op or_add (pd_v 4 (pv 4)) (pd_lst (pa_c (pd_neg pd_int) pa_n))) pa_n)) pd_int)) (pssd_one (psd_set (i := 3) sc_law_groupings.nd rfl (by first | exact .inl rfl | exact .inr rfl) (pd_op or_add (pd_v 3 (pv 3)) (pd_flc (pf_lc (own := [("_law_label", 6)]) rfl sc_law_groupings.nd (pi_rg1 (by rfl) Mb.b_range (pd_v 5 (pv 5))) (blkOk_by (by kernel_rfl)) (fun _ _ _ _ _ => (pgd_1 (i := 6) sc_law_groupings.nd rfl (by first | exact .inl rfl | exact .inr rfl))) (fun _ _ _ _ _ => ptsd_nil) (fun _ _ _ _ _ => (pd_op or_add (pd_v 4 (pv 4)) (pd_lst (pa_c (pd_v 6 (pv 6)) pa_n))))))))))) (pssd_one (psd_set (i := 1) sc_law_groupings.nd rfl (by first | exact .inl rfl | exact .inr rfl) (pd_v 3 (pv 3))))))) (pssd_one (psd_ret (pd_callB (call_sorted hr) (by rfl) Mb.b_sorted (by rfl) (pa_c (pd_flc (pf_lc (own := [("_law_labels_here", 4)]) rfl sc_law_groupings.nd (pi_seq (pd_v 1 (pv 1))) (blkOk_by (by kernel_rfl)) (fun _ _ _ _ _ => (pgd_1 (i := 4) sc_law_groupings.nd rfl (by first | exact .inl rfl | exact .inr rfl))) (fun _ _ _ _ _ => ptsd_nil) (fun _ _ _ _ _ => (pd_fn c_law_lots hr (by decide) (by rfl) (pa_c (pd_v 4 (pv 4)) pa_n))))) pa_n))))))
def s_law_papers : Stmt := topS 47
theorem sc_law_papers : FnScope ["_law_start", "_law_goal", "_law_prices", "_law_table", "_law_numbers", "_law_best", "_law_papers_here", "_law_k", "_law_value", "_law_some", "_law_steps_here", "_law_step_here", "_law_due", "_law_told", "_law_here", "_law_one"] ["_law_start", "_law_goal", "_law_prices", "_law_table", "_law_numbers", "_law_best"] (defScope s_law_papers) := fnScope_by (by decide +kernel)
def F_law_papers : Sl → Option Out :=
  andT (spar [9, 10] (aoc (dfn 1 A_law_groupings (ac (dl lenD (ac (own_val (ffn 1 A_law_labels (ac (dv 0) (an)))) (an))) (an))) (aoc (dl listN (ac (dv 3) (an))) (aon)))) (andT (sown 6 (fl (ac (dv 4) (ac (dl listD (ac (dv 4) (an))) (ac (dsl (dv 4) (ps1 (dc (.int 1))) (pn)) (ac (d1 revD (dv 4)) (ac (d2 addD (dv 4) (dl mkT (ac (dc (.int 0)) (an)))) (ac (dc .none) (ac (dc (.int 3)) (ac (dl tupleD (ac (dlc [15] (iseq (dv 4)) (tg1 15) (tyes) (d2 addD (dv 15) (dc (.int 1)))) (an))) (ac (d2 mulD (dl mkT (ac (dc .none) (an))) (dl lenD (ac (dv 9) (an)))) (an)))))))))))) (andT (sfor (irg1 (dl lenD (ac (dv 9) (an)))) (tg1 7) (sfor (iseq (dl mkL (ac (dc (.int 1)) (ac (d1 negD (dc (.int 1))) (an))))) (tg1 11) (sapp 6 (d2 addD (d2 addD (dsl (dv 4) (pn) (ps1 (dv 7))) (dl mkT (ac (d2 addD (d2 ixD (dv 4) (dv 7)) (dv 11)) (an)))) (dsl (dv 4) (ps1 (d2 addD (dv 7) (dc (.int 1)))) (pn)))))) (andT (sfrz 6 (sfor (iseq (dv 6)) (tg1 8) (andT (sset 12 (dand (d1 (isiD .tuple) (dv 8)) (dand (d2 eqD (dl lenD (ac (dv 8) (an))) (dl lenD (ac (dv 9) (an)))) (d2 eqD (dlc [15] (iseq (dv 8)) (tg1 15) (tnot (tb (d1 (isiD .int) (dv 15)))) (dv 15)) (dl mkL (an)))))) (andT (sif (tb (dv 12)) (andT (sset 13 (own_val (fcl dictD (ac (dlc [7] (irg1 (dl lenD (ac (dv 9) (an)))) (tg1 7) (tyes) (dl mkT (ac (d2 ixD (dv 9) (dv 7)) (ac (d2 ixD (dv 8) (dv 7)) (an))))) (an))))) (andT (sset 12 (dand (d2 eqD (d2 ixD (dv 13) (dv 1)) (dc (.int 0))) (d2 eqD (d2 ixD (dv 13) (dv 0)) (dv 5)))) (sfor (iseq (dv 9)) (tg1 14) (sset 12 (dand (dv 12) (d2 eqD (dlc [11] (iseq (dv 10)) (tg1 11) (tb (d2 gtD (d2 subD (d2 ixD (dv 13) (dv 14)) (d2 ixD (dv 13) (dfn 2 A_law_step (ac (dv 14) (ac (dv 11) (an)))))) (d2 ixD (dv 3) (dv 11)))) (dv 11)) (dl mkL (an)))))))) (snil)) (sif (tnot (tb (dfn 2 A2_law_alike (ac (dfn 4 A_shows_price_paper (ac (dv 0) (ac (dv 1) (ac (dv 2) (ac (dv 8) (an)))))) (ac (dv 12) (an)))))) (sret (dc (.bool false))) (snil)))))) (sret (dc (.bool true))))))
def A_law_papers : List D → Option D := ansD 16 (F_law_papers)
theorem ok_law_papers {cdv : Value} {f : Addr} {fd : FuncData} (Mb : Bn mg) (Mc : Cn mg) (c_law_alike : Cal P w K mg base 3 "_law_alike" (spD P w T 2 A2_law_alike)) (c_law_groupings : Cal P w K mg base 2 "_law_groupings" (spD P w T 1 A_law_groupings)) (c_law_labels : Cal P w K mg base 1 "_law_labels" (spO P w T 1 A_law_labels)) (c_law_step : Cal P w K mg base 2 "_law_step" (spD P w T 2 A_law_step)) (c_shows_price_paper : Cal P w K mg base 13 "shows_price_paper" (spD P w T 4 A_shows_price_paper)) (F : Df K mg "_law_papers" s_law_papers cdv f fd) : Cal P w K mg base 14 "_law_papers" (spD P w T 6 (A_law_papers)) :=
  cal_D F sc_law_papers (F.binds (ps := ["_law_start", "_law_goal", "_law_prices", "_law_table", "_law_numbers", "_law_best"]) fun _ _ _ _ _ _ us hl => match us, hl with | [_, _, _, _, _, _], _ => rfl) fun A outer s H E hr =>
    show PSsd T _ (defBody s_law_papers) (F_law_papers) from
    (pssd_cons (psd_parC2 (i := 9) (j := 10) rfl sc_law_papers.nd rfl rfl (by first | exact .inl rfl | exact .inr rfl) (by first | exact .inl rfl | exact .inr rfl) (pao_c (pd_fn c_law_groupings hr (by decide) (by rfl) (pa_c (pd_callB cr_len (by rfl) Mb.b_len (by rfl) (pa_c (pd_of_pf (pf_fn c_law_labels hr (by decide) (by rfl) (pa_c (pd_v 0 (pv 0)) pa_n))) pa_n)) pa_n)) (pao_c (pd_callTy (cr_listN rfl) (by rfl) Mb.b_list (by rfl) (pa_c (pd_v 3 (pv 3)) pa_n)) pao_n))) (pssd_cons (psd_own (i := 6) sc_law_papers.nd rfl (by first | exact .inl rfl | exact .inr rfl) (pf_lst (pa_c (pd_v 4 (pv 4)) (pa_c (pd_callTy cr_list (by rfl) Mb.b_list (by rfl) (pa_c (pd_v 4 (pv 4)) pa_n)) (pa_c (pd_slice (pd_v 4 (pv 4)) (po_s pd_int) po_n) (pa_c (pd_rev (pd_v 4 (pv 4))) (pa_c (pd_op or_add (pd_v 4 (pv 4)) (pd_tup (pa_c pd_int pa_n))) (pa_c pd_non (pa_c pd_int (pa_c (pd_callTy cr_tuple (by rfl) Mb.b_tuple (by rfl) (pa_c (pd_flc (pf_lc (own := [("_law_one", 15)]) rfl sc_law_papers.nd (pi_seq (pd_v 4 (pv 4))) (blkOk_by (by kernel_rfl)) (fun _ _ _ _ _ => (pgd_1 (i := 15) sc_law_papers.nd rfl (by first | exact .inl rfl | exact .inr rfl))) (fun _ _ _ _ _ => ptsd_nil) (fun _ _ _ _ _ => (pd_op or_add (pd_v 15 (pv 15)) pd_int)))) pa_n)) (pa_c (pd_op or_mul (pd_tup (pa_c pd_non pa_n)) (pd_callB cr_len (by rfl) Mb.b_len (by rfl) (pa_c (pd_v 9 (pv 9)) pa_n))) pa_n))))))))))) (pssd_cons (psd_for PassesOwn.never rfl (pi_rg1 (by rfl) Mb.b_range (pd_callB cr_len (by rfl) Mb.b_len (by rfl) (pa_c (pd_v 9 (pv 9)) pa_n))) (pgd_1 (i := 7) sc_law_papers.nd rfl (by first | exact .inl rfl | exact .inr rfl)) (pssd_one (psd_for PassesOwn.never rfl (pi_seq (pd_lst (pa_c pd_int (pa_c (pd_neg pd_int) pa_n)))) (pgd_1 (i := 11) sc_law_papers.nd rfl (by first | exact .inl rfl | exact .inr rfl)) (pssd_one (psd_app 6 (pv 6) (pd_op or_add (pd_op or_add (pd_slice (pd_v 4 (pv 4)) po_n (po_s (pd_v 7 (pv 7)))) (pd_tup (pa_c (pd_op or_add (pd_ix hr (pd_v 4 (pv 4)) (pd_v 7 (pv 7))) (pd_v 11 (pv 11))) pa_n))) (pd_slice (pd_v 4 (pv 4)) (po_s (pd_op or_add (pd_v 7 (pv 7)) pd_int)) po_n))))))) (pssd_cons (psd_frz 6 (psd_for PassesOwn.never rfl (pi_seq (pd_v 6 (pv 6))) (pgd_1 (i := 8) sc_law_papers.nd rfl (by first | exact .inl rfl | exact .inr rfl)) (pssd_cons (psd_set (i := 12) sc_law_papers.nd rfl (by first | exact .inl rfl | exact .inr rfl) (pd_and (pd_isi .tuple (by rfl) Mb.b_isinstance (by rfl) Mb.b_tuple (by rfl) (pd_v 8 (pv 8))) (pd_and (pd_cmp (or_eq hr) (pd_callB cr_len (by rfl) Mb.b_len (by rfl) (pa_c (pd_v 8 (pv 8)) pa_n)) (pd_callB cr_len (by rfl) Mb.b_len (by rfl) (pa_c (pd_v 9 (pv 9)) pa_n))) (pd_b1 (pd_cmp (or_eq hr) (pd_flc (pf_lc (own := [("_law_one", 15)]) rfl sc_law_papers.nd (pi_seq (pd_v 8 (pv 8))) (blkOk_by (by kernel_rfl)) (fun _ _ _ _ _ => (pgd_1 (i := 15) sc_law_papers.nd rfl (by first | exact .inl rfl | exact .inr rfl))) (fun _ _ _ _ _ => (ptsd_one (pt_n (pt_b (pd_isi .int (by rfl) Mb.b_isinstance (by rfl) Mb.b_int (by rfl) (pd_v 15 (pv 15))))))) (fun _ _ _ _ _ => (pd_v 15 (pv 15))))) (pd_lst pa_n)))))) (pssd_cons (psd_if (pt_b (pd_v 12 (pv 12))) (pssd_cons (psd_set (i := 13) sc_law_papers.nd rfl (by first | exact .inl rfl | exact .inr rfl) (pd_of_pf (pf_callTy (cr_dict hr rfl) (by rfl) Mb.b_dict (by rfl) (pa_c (pd_flc (pf_lc (own := [("_law_k", 7)]) rfl sc_law_papers.nd (pi_rg1 (by rfl) Mb.b_range (pd_callB cr_len (by rfl) Mb.b_len (by rfl) (pa_c (pd_v 9 (pv 9)) pa_n))) (blkOk_by (by kernel_rfl)) (fun _ _ _ _ _ => (pgd_1 (i := 7) sc_law_papers.nd rfl (by first | exact .inl rfl | exact .inr rfl))) (fun _ _ _ _ _ => ptsd_nil) (fun _ _ _ _ _ => (pd_tup (pa_c (pd_ix hr (pd_v 9 (pv 9)) (pd_v 7 (pv 7))) (pa_c (pd_ix hr (pd_v 8 (pv 8)) (pd_v 7 (pv 7))) pa_n)))))) pa_n)))) (pssd_cons (psd_set (i := 12) sc_law_papers.nd rfl (by first | exact .inl rfl | exact .inr rfl) (pd_and (pd_cmp (or_eq hr) (pd_ix hr (pd_v 13 (pv 13)) (pd_v 1 (pv 1))) pd_int) (pd_b1 (pd_cmp (or_eq hr) (pd_ix hr (pd_v 13 (pv 13)) (pd_v 0 (pv 0))) (pd_v 5 (pv 5)))))) (pssd_one (psd_for PassesOwn.never rfl (pi_seq (pd_v 9 (pv 9))) (pgd_1 (i := 14) sc_law_papers.nd rfl (by first | exact .inl rfl | exact .inr rfl)) (pssd_one (psd_set (i := 12) sc_law_papers.nd rfl (by first | exact .inl rfl | exact .inr rfl) (pd_and (pd_v 12 (pv 12)) (pd_b1 (pd_cmp (or_eq hr) (pd_flc (pf_lc (own := [("_law_step_here", 11)]) rfl sc_law_papers.nd (pi_seq (pd_v 10 (pv 10))) (blkOk_by (by kernel_rfl)) (fun _ _ _ _ _ => (pgd_1 (i := 11) sc_law_papers.nd rfl (by first | exact .inl rfl | exact .inr rfl))) (fun _ _ _ _ _ => (ptsd_one (pt_cmp' or_gt (pd_op or_sub (pd_ix hr (pd_v 13 (pv 13)) (pd_v 14 (pv 14))) (pd_ix hr (pd_v 13 (pv 13)) (pd_fn c_law_step hr (by decide) (by rfl) (pa_c (pd_v 14 (pv 14)) (pa_c (pd_v 11 (pv 11)) pa_n))))) (pd_ix hr (pd_v 3 (pv 3)) (pd_v 11 (pv 11)))))) (fun _ _ _ _ _ => (pd_v 11 (pv 11))))) (pd_lst pa_n)))))))))) pssd_nil) (pssd_one (psd_if (pt_n (pt_b (pd_fn c_law_alike hr (by decide) (by rfl) (pa_c (pd_fn c_shows_price_paper hr (by decide) (by rfl) (pa_c (pd_v 0 (pv 0)) (pa_c (pd_v 1 (pv 1)) (pa_c (pd_v 2 (pv 2)) (pa_c (pd_v 8 (pv 8)) pa_n))))) (pa_c (pd_v 12 (pv 12)) pa_n))))) (pssd_one (psd_ret pd_bl)) pssd_nil)))))) (pssd_one (psd_ret pd_bl))))))
end Gd

set_option maxHeartbeats 2000000
/-! GdI: the draws. -/
namespace Gd
open PySem PySem.Spec PyProof.Rows L2
/-- the drawing row and its script -/
structure Rw where
  r : Addr
  a : Addr
  ns : List Int
/-- the row is not its script, or the script is known -/
def ArOk (K : PySem.W.Frag) (ρ : Rw) : Prop := ρ.a ≠ ρ.r ∨ ∀ H, SqL K H ρ.a (ρ.ns.map V.int)
def RowAt (K : PySem.W.Frag) (H : Hp) (ρ : Rw) (i g m : Int) : Prop := H ρ.r = some (.lst [.ref ρ.a, .int i, .int g, .int m]) ∧ SqL K H ρ.a (ρ.ns.map V.int) ∧ ArOk K ρ ∧ 0 ≤ i
def RowOk (K : PySem.W.Frag) (H : Hp) (ρ : Rw) : Prop := ∃ i g m, RowAt K H ρ i g m
theorem sql_upd {K : PySem.W.Frag} {H : Hp} {a r : Addr} {xs : List V} {o : HO} (h : SqL K H a xs) (n : a ≠ r) : SqL K (upd H r o) a xs := by
  rcases h with (h | ⟨u, h⟩) | h
  · exact .inl (.inl (by rw [upd_ne n]; exact h))
  · exact .inl (.inr ⟨u, by rw [upd_ne n]; exact h⟩)
  · exact .inr h
theorem ArOk.upd {K : PySem.W.Frag} {H : Hp} {ρ : Rw} {o : HO} (n : ArOk K ρ) (h : SqL K H ρ.a (ρ.ns.map V.int)) : SqL K (upd H ρ.r o) ρ.a (ρ.ns.map V.int) := by
  rcases n with n | n
  · exact sql_upd h n
  · exact n _
theorem upd_upd {H : Hp} {r : Addr} {o o' : HO} : upd (upd H r o) r o' = upd H r o' := by
  funext b
  by_cases h : b = r
  · subst h; rw [upd_same, upd_same]
  · rw [upd_ne h, upd_ne h, upd_ne h]
theorem RowAt.put {K : PySem.W.Frag} {H : Hp} {ρ : Rw} {i g m i' g' m' : Int} (h : RowAt K H ρ i g m) (hi : 0 ≤ i') : RowAt K (upd H ρ.r (.lst [.ref ρ.a, .int i', .int g', .int m'])) ρ i' g' m' :=
  ⟨upd_same, h.2.2.1.upd h.2.1, h.2.2.1, hi⟩
/-- _law_taken(row, many) -/
def spTk (K : PySem.W.Frag) : Sp := fun vs H Q _ => ∃ (ρ : Rw) (many : Int), vs = [.ref ρ.r, .int many] ∧ RowOk K H ρ ∧ 1 ≤ many ∧ many ≤ 1000 ∧ ∀ (j : Int) (o : HO), 0 ≤ j → j < many → RowOk K (upd H ρ.r o) ρ → Q (.int j) (upd H ρ.r o)
def s_law_taken : Stmt := topS 36
theorem sc_law_taken : FnScope ["_law_row_here", "_law_many", "_law_found", "_law_cell"] ["_law_row_here", "_law_many"] (defScope s_law_taken) := fnScope_by (by decide +kernel)
section
variable {X : Cx}
theorem pe_row {p1 pos : Pos} {j : Nat} {x : Str} {k : Int} {i : Nat} (h : PE X (.Name x p1) (tVar i)) : PE X (.Subscript (.Name x p1) (.Constant (.int k) j p2) pos) (tOp (rIxL X.K) (tVar i) (tC (.int k))) := pe_ix ix_list h pe_int fun _ _ => rfl
theorem t_row {K : PySem.W.Frag} {σ : L2.St} {H : Hp} {Q : VK} {r : Addr} {xs : List V} {k : Int} {v : V} {i : Nat} (h0 : σ[i]? = some (some (.ref r))) (e : H r = some (.lst xs)) (h : atI xs k = some v) (q : Q v H) : tOp (rIxL K) (tVar i) (tC (.int k)) σ H Q :=
  ⟨_, h0, r, xs, k, v, rfl, rfl, SqL.of e, h, q⟩
end
theorem atI_nat {xs : List V} {k : Nat} {v : V} (h : xs[k]? = some v) : atI xs (k : Nat) = some v := by
  have hl : k < xs.length := (List.getElem?_eq_some_iff.mp h).1
  unfold atI ixN
  rw [if_pos (by omega), if_pos (by omega)]
  simpa using h
/-- t answers v and leaves the heap -/
def Ev (t : TE) (σ : L2.St) (H : Hp) (v : V) : Prop := ∀ Q : VK, Q v H → t σ H Q
section
variable {K : PySem.W.Frag} {σ : L2.St} {H : Hp} {r : Addr} {ta tb : TE} {x y z : V}
theorem ev_c (v : V) : Ev (tC v) σ H v := fun _ q => q
theorem ev_v {i : Nat} {v : V} (h : σ[i]? = some (some v)) : Ev (tVar i) σ H v := fun _ q => ⟨v, h, q⟩
theorem ev_row {xs : List V} {k : Nat} {v : V} (h0 : σ[0]? = some (some (.ref r))) (e : H r = some (.lst xs)) (h : xs[k]? = some v) : Ev (tOp (rIxL K) (tVar 0) (tC (.int (k : Nat)))) σ H v := fun _ q => ⟨_, h0, r, xs, k, v, rfl, rfl, SqL.of e, atI_nat h, q⟩
theorem ev_op {f : R2} (ha : Ev ta σ H x) (hb : Ev tb σ H y) (h : ∀ Q : VK, Q z H → f x y H Q) : Ev (tOp f ta tb) σ H z := fun Q q => ha _ (hb _ (h Q q))
theorem ev_i {C : Int → Int → Prop} {g : Int → Int → V} {i j : Int} (ha : Ev ta σ H (.int i)) (hb : Ev tb σ H (.int j)) (hc : C i j) : Ev (tOp (rI C g) ta tb) σ H (g i j) := fun Q q => ha _ (hb _ ⟨i, j, rfl, rfl, hc, q⟩)
theorem ev_i0 {g : Int → Int → V} {i j : Int} (ha : Ev ta σ H (.int i)) (hb : Ev tb σ H (.int j)) : Ev (tOp (rI0 g) ta tb) σ H (g i j) := fun Q q => ha _ (hb _ ⟨i, j, rfl, rfl, q⟩)
theorem ev_int {i : Int} (ha : Ev ta σ H (.int i)) : Ev (tCB (fun xs H Q => (∃ i, xs = [V.int i] ∧ Q (.int i) H) ∨ ∃ k, xs = [V.bl k] ∧ Q (.int (if k then 1 else 0)) H) (tCons ta tNil)) σ H (.int i) := fun Q q => ha _ (.inl ⟨i, rfl, q⟩)
theorem ev_len {a : Addr} {xs : List V} (ha : Ev ta σ H (.ref a)) (h : SqL K H a xs) : Ev (tCB (fun xs H Q => ∃ x n, xs = [x] ∧ LenV K x H n ∧ Q (.int n) H) (tCons ta tNil)) σ H (.int xs.length) := fun Q q => ha _ ⟨.ref a, xs.length, rfl, .inl ⟨xs, h, rfl⟩, q⟩
theorem ev_ix {a : Addr} {xs : List V} {k : Int} {v : V} (ha : Ev ta σ H (.ref a)) (hb : Ev tb σ H (.int k)) (h : SqL K H a xs) (e : atI xs k = some v) : Ev (tOp (rIxL K) ta tb) σ H v := fun _ q => ha _ (hb _ ⟨a, xs, k, v, rfl, rfl, h, e, q⟩)
theorem es_if {a b : TS} {D : Ends} {c : Bool} (h : Ev ta σ H (.bl c)) (q : if c = true then a D σ H else b D σ H) : tIfS (tTest ta) a b D σ H := h _ ⟨c, rfl, q⟩
theorem es_set {D : Ends} {i : Nat} (h : Ev ta σ H x) (q : D.nx (σ.set i (some x)) H) : tAsg ta (gName i) D σ H := h _ q
theorem es_put {D : Ends} {xs : List V} {k : Nat} (h : Ev ta σ H x) (h0 : σ[0]? = some (some (.ref r))) (e : H r = some (.lst xs)) (hk : k < xs.length) (q : D.nx σ (upd H r (.lst (xs.set k x)))) : tAsg ta (gSub (tVar 0) (tC (.int (k : Nat))) rSetL) D σ H :=
  h _ ⟨_, h0, r, xs, k, k, rfl, rfl, e, by unfold ixN; rw [if_pos (by omega), if_pos (by omega)]; simp, q⟩
theorem es_ret {D : Ends} (h : Ev ta σ H x) (q : D.rt x H) : tRet ta D σ H := h _ q
theorem es_seq {t u : TS} {D : Ends} (h : t { D with nx := u D } σ H) : tSeq t u D σ H := h
end
variable {P : Program} {w : World} {K : PySem.W.Frag} {mg : Str → Option Value} {base : Heap} {T : List Addr}
theorem ok_law_taken {cdv : Value} {f : Addr} {fd : FuncData} (Mb : Bn mg) (F : Df K mg "_law_taken" s_law_taken cdv f fd) : Cal P w K mg base 1 "_law_taken" (spTk K) := by
  refine ⟨f, fd, ["_law_row_here", "_law_many"], ?_, F.mgf, F.kp, F.binds fun _ _ _ _ _ _ us hl => match us, hl with | [_, _], _ => rfl⟩
  obtain ⟨oc, od, kV, doc, pm, an, ct, osl, rfl, lk, hcd⟩ := F.ex
  refine fn_of lk hcd sc_law_taken (fun vs H Q E h => by obtain ⟨ρ, many, rfl, _⟩ := h; rfl) fun A outer s H vs Q E hr hsp => ?_
  have int1 : ∀ {X : Cx} {e : Expr} {te : TE} {p pos : Pos}, Gl X "int" → X.mg = mg → PE X e te → starEach [e] X.env = (false, eval e X.env) :: starEach [] X.env → PE X (.Call (.Name "int" p) [e] [] pos) (tCB (fun xs H Q => (∃ i, xs = [V.int i] ∧ Q (.int i) H) ∨ ∃ k, xs = [V.bl k] ∧ Q (.int (if k then 1 else 0)) H) (tCons te tNil)) :=
    fun hg hm he hs => pe_callTy call_int1 hg (by rw [hm]; exact Mb.b_int) (by rfl) (pa_cons he pa_nil hs) (by decide) (by decide) hs rfl
  refine ⟨_, (pss_cons (ps_if (pt_cmpR op_gt (pe_row (pv 0)) pe_int rfl)
      (pss_cons (ps_set (i := 2) sc_law_taken.nd rfl (.inl rfl) (pe_op op_mod (int1 (by rfl) rfl (pe_row (pv 0)) rfl) (pv 1)))
        (pss_cons (ps_asg (pe_op op_fdiv (pe_row (pv 0)) (pv 1)) (pg_sub (pv 0) pe_int set_list)) (pss_one (ps_ret (pv 2))))) pss_nil)
    (pss_cons (ps_asg (pe_op op_add (pe_row (pv 0)) pe_int) (pg_sub (pv 0) pe_int set_list))
    (pss_cons (ps_if (pt_cmpR op_gt (pe_row (pv 0)) (pe_callB call_len (by rfl) Mb.b_len (by rfl) (pa_cons (pe_row (pv 0)) pa_nil)) rfl)
      (pss_cons (ps_asg (pe_op op_mod (int1 (by rfl) rfl (pe_op op_add (pe_op op_mul (pe_row (pv 0)) pe_int) pe_int) rfl) pe_int) (pg_sub (pv 0) pe_int set_list))
        (pss_one (ps_ret (pe_op op_mod (int1 (by rfl) rfl (pe_op op_fdiv (pe_row (pv 0)) pe_int) rfl) (pv 1))))) pss_nil)
    (pss_cons (ps_set (i := 3) sc_law_taken.nd rfl (.inl rfl) (pe_ix ix_list (pe_row (pv 0)) (pe_op op_sub (pe_row (pv 0)) pe_int) fun _ _ => rfl))
    (pss_cons (ps_asg (pe_op op_mod (int1 (by rfl) rfl (pe_op op_add (pe_op op_add (pe_op op_mul (pe_row (pv 0)) pe_int) (pv 3)) pe_int) rfl) pe_int) (pg_sub (pv 0) pe_int set_list))
    (pss_cons (ps_if (pt_cmpR op_ge (pv 3) (pe_op op_pow pe_int pe_int) rfl) (pss_one (ps_asg (pe_op op_fdiv (pv 3) (pv 1)) (pg_sub (pv 0) pe_int set_list))) pss_nil)
    (pss_one (ps_ret (pe_op op_mod (int1 (by rfl) rfl (pv 3) rfl) (pv 1)))))))))
    : PSs (bodyCx P w K mg base _ "_law_taken" s_law_taken _ cdv A outer s H E) (defBody s_law_taken) _).nox, ?_⟩
  obtain ⟨⟨r, a, ns⟩, many, rfl, ⟨i, g, m, R⟩, hm1, hm2, q⟩ := hsp
  have s0 : (L2.start ["_law_row_here", "_law_many", "_law_found", "_law_cell"] [V.ref r, V.int many])[0]? = some (some (.ref r)) := rfl
  have R1 : H r = some (.lst [.ref a, .int i, .int g, .int m]) := R.1
  refine es_seq (es_if (ev_i0 (ev_row (k := 3) s0 R1 rfl) (ev_c _)) ?_)
  by_cases c1 : 0 < m
  · rw [if_pos (by simpa using c1)]
    dsimp only
    refine es_seq (es_set (ev_i (ev_int (ev_row (k := 3) s0 R1 rfl)) (ev_v (i := 1) rfl) (show (0 : Int) < many by omega)) ?_)
    dsimp only
    refine es_seq (es_put (k := 3) (ev_i (ev_row (k := 3) s0 R1 rfl) (ev_v (i := 1) rfl) (show CDiv m many from ⟨by omega, by omega⟩)) s0 R1 (by simp) ?_)
    dsimp only
    refine es_ret (ev_v (i := 2) rfl) ?_
    exact q _ _ (Int.emod_nonneg _ (by omega)) (Int.emod_lt_of_pos _ (by omega)) ⟨_, _, _, R.put R.2.2.2⟩
  · rw [if_neg (by simpa using c1)]
    dsimp only
    refine es_seq (es_put (k := 1) (ev_i0 (ev_row (k := 1) s0 R1 rfl) (ev_c _)) s0 R1 (by simp) ?_)
    have R' : RowAt K (upd H r (.lst [.ref a, .int (i + 1), .int g, .int m])) ⟨r, a, ns⟩ (i + 1) g m := R.put (by have := R.2.2.2; omega)
    dsimp only
    refine es_seq (es_if (ev_i0 (ev_row (k := 1) s0 upd_same rfl) (ev_len (ev_row (k := 0) s0 upd_same rfl) R'.2.1)) ?_)
    by_cases c2 : (ns.length : Int) < i + 1
    · rw [if_pos (by simpa using c2)]
      dsimp only
      refine es_seq (es_put (k := 2) (ev_i (ev_int (ev_i0 (ev_i (ev_row (k := 2) s0 upd_same rfl) (ev_c _) (show CMul g 48271 from .inr ⟨by omega, by omega⟩)) (ev_c _))) (ev_c _) (show (0 : Int) < 2147483647 by omega)) s0 upd_same (by simp) ?_)
      dsimp only
      refine es_ret (ev_i (ev_int (ev_i (ev_row (k := 2) s0 upd_same rfl) (ev_c _) (show CDiv _ 7 from ⟨by omega, by omega⟩))) (ev_v (i := 1) rfl) (show (0 : Int) < many by omega)) ?_
      rw [upd_upd]
      exact q _ _ (Int.emod_nonneg _ (by omega)) (Int.emod_lt_of_pos _ (by omega)) ⟨_, _, _, R.put (by have := R.2.2.2; omega)⟩
    · rw [if_neg (by simpa using c2)]
      have hi := R.2.2.2
      obtain ⟨c, hc⟩ : ∃ c : Int, atI (ns.map V.int) (i + 1 - 1) = some (.int c) := by
        refine ⟨ns[i.toNat]'(by omega), ?_⟩
        have e : i + 1 - 1 = ((i.toNat : Nat) : Int) := by omega
        rw [e]
        exact atI_nat (by rw [List.getElem?_map, List.getElem?_eq_getElem (by omega)]; rfl)
      dsimp only
      refine es_seq (es_set (ev_ix (ev_row (k := 0) s0 upd_same rfl) (ev_i0 (ev_row (k := 1) s0 upd_same rfl) (ev_c _)) R'.2.1 hc) ?_)
      dsimp only
      refine es_seq (es_put (k := 2) (ev_i (ev_int (ev_i0 (ev_i0 (ev_i (ev_row (k := 2) s0 upd_same rfl) (ev_c _) (show CMul g 48271 from .inr ⟨by omega, by omega⟩)) (ev_v (i := 3) rfl)) (ev_c _))) (ev_c _) (show (0 : Int) < 2147483647 by omega)) s0 upd_same (by simp) ?_)
      dsimp only
      refine es_seq (es_if (ev_i0 (ev_v (i := 3) rfl) (ev_i (ev_c _) (ev_c _) (show CPow 10 18 from ⟨by omega, by omega, by decide⟩))) ?_)
      split
      · dsimp only
        refine es_put (k := 3) (ev_i (ev_v (i := 3) rfl) (ev_v (i := 1) rfl) (show CDiv c many from ⟨by omega, by omega⟩)) s0 upd_same (by simp) ?_
        dsimp only
        refine es_ret (ev_i (ev_int (ev_v (i := 3) rfl)) (ev_v (i := 1) rfl) (show (0 : Int) < many by omega)) ?_
        rw [upd_upd, upd_upd]
        exact q _ _ (Int.emod_nonneg _ (by omega)) (Int.emod_lt_of_pos _ (by omega)) ⟨_, _, _, R.put (by omega)⟩
      · unfold tNext
        dsimp only
        refine es_ret (ev_i (ev_int (ev_v (i := 3) rfl)) (ev_v (i := 1) rfl) (show (0 : Int) < many by omega)) ?_
        rw [upd_upd]
        exact q _ _ (Int.emod_nonneg _ (by omega)) (Int.emod_lt_of_pos _ (by omega)) ⟨_, _, _, R.put (by omega)⟩
end Gd

set_option maxHeartbeats 2000000
/-! GdZ: expressions that draw. -/
namespace Gd
open PySem PySem.Spec PyProof.Rows L2
def rawD (a : Addr) : D := .str ⟨Array.replicate a 0⟩
theorem rp_raw {P : Program} {w : World} {S : Hp} (a : Addr) : Rp P w S (.ref a) (rawD a) := by
  have := Rp.raw (P := P) (w := w) (S := S) ⟨Array.replicate a 0⟩
  simpa [rawD] using this
theorem raw_inv {P : Program} {w : World} {S : Hp} {a : Addr} {v : V} (h : Rp P w S v (rawD a)) : v = .ref a := by
  unfold rawD at h
  cases h
  simp
def del (H : Hp) (r : Addr) : Hp := fun a => if a = r then none else H a
theorem del_some {H : Hp} {r a : Addr} {o : HO} (h : del H r a = some o) : a ≠ r ∧ H a = some o := by
  unfold del at h
  split at h
  · cases h
  · exact ⟨by assumption, h⟩
theorem del_of {H : Hp} {r a : Addr} (h : a ≠ r) : del H r a = H a := by unfold del; rw [if_neg h]
theorem del_same {H : Hp} {r : Addr} : del H r r = none := by unfold del; rw [if_pos rfl]
section
variable {P : Program} {w : World} {T : List Addr} {K : PySem.W.Frag} {ρ : Rw} {B : Hp × Hp} {S S1 S' H H1 H' : Hp} {σ : L2.St} {δ : Sl}
theorem sql_keep {a : Addr} {xs : List V} (h : SqL K H a xs) (tb : TbOk T H) (kp : ∀ o, H a = some o → a ∉ T → H' a = some o) : SqL K H' a xs := by
  have no : ∀ o, H a = some o → (∀ ps, o ≠ .tbl ps) → a ∉ T := fun o e n z => by
    obtain ⟨ps, q, _⟩ := tb a z
    rw [e] at q
    exact n ps (Option.some.inj q)
  rcases h with (h | ⟨u, h⟩) | h
  · exact .inl (.inl (kp _ h (no _ h fun ps z => by cases z)))
  · exact .inl (.inr ⟨u, kp _ h (no _ h fun ps z => by cases z)⟩)
  · exact .inr h
/-- a step that may draw -/
structure Stpr (T : List Addr) (K : PySem.W.Frag) (ρ : Rw) (S H S' H' : Hp) : Prop where
  st : Step T S (del H ρ.r) S' H'
  sr : S' ρ.r = none
  row : RowOk K H' ρ
theorem Okk.del (k : Okk T S H) (n : S r = none) (nt : r ∉ T) : Okk T S (del H r) := by
  refine ⟨fun b u e => ?_, fun p hp => ?_, k.no⟩
  · have hb : b ≠ r := fun z => by rw [z, n] at e; cases e
    rw [del_of hb]; exact k.sh b u e
  · have hb : p ≠ r := fun z => nt (z ▸ hp)
    rw [del_of hb]; exact k.tb p hp
theorem RowOk.nT (R : RowOk K H ρ) (k : TbOk T H) : ρ.r ∉ T := fun z => by
  obtain ⟨ps, q, _⟩ := k _ z
  obtain ⟨i, g, m, e, _⟩ := R
  rw [e] at q; cases q
theorem Stpr.trans (k : Okk T S (del H ρ.r)) (a : Stpr T K ρ S H S1 H1) (b : Stpr T K ρ S1 H1 S' H') : Stpr T K ρ S H S' H' := by
  refine ⟨⟨a.st.ss.trans b.st.ss, b.st.sh, fun c o e n => ?_, fun c e => ?_, b.st.tb⟩, b.sr, b.row⟩
  · have hc := (del_some e).1
    exact b.st.keep c o (by rw [del_of hc]; exact a.st.keep c o e n) n
  · have hc : c ≠ ρ.r := fun z => e (by rw [z]; exact del_same)
    rw [b.st.only c (by rw [del_of hc]; exact a.st.dom k e), a.st.only c e]
/-- the state of a body that draws -/
structure SR (P : Program) (w : World) (T : List Addr) (K : PySem.W.Frag) (ρ : Rw) (B : Hp × Hp) (S : Hp) (σ : L2.St) (H : Hp) (δ : Sl) : Prop where
  nb : B.2 ρ.r = none
  ok : Okk T B.1 B.2
  sq : SqL K B.2 ρ.a (ρ.ns.map V.int)
  ar : ArOk K ρ
  so : ∃ i g m : Int, 0 ≤ i ∧ SOk P w T (B.1, upd B.2 ρ.r (.lst [.ref ρ.a, .int i, .int g, .int m])) S σ H δ
/-- a step of the body with the row in its base -/
theorem SR.out {i g m : Int} (nb : B.2 ρ.r = none) (ok : Okk T B.1 B.2) (sq : SqL K B.2 ρ.a (ρ.ns.map V.int)) (ar : ArOk K ρ) (hi : 0 ≤ i) (nt : ρ.r ∉ T)
    (s : Step T B.1 (upd B.2 ρ.r (.lst [.ref ρ.a, .int i, .int g, .int m])) S' H') : Step T B.1 B.2 S' H' ∧ S' ρ.r = none ∧ RowOk K H' ρ := by
  have up : ∀ a o, B.2 a = some o → upd B.2 ρ.r (.lst [.ref ρ.a, .int i, .int g, .int m]) a = some o := fun a o e => by rw [upd_ne (ne_of_none e nb)]; exact e
  refine ⟨⟨s.ss, s.sh, fun a o e n => s.keep a o (up a o e) n, fun a e => s.only a ?_, s.tb⟩, ?_, i, g, m, s.keep _ _ upd_same nt, ?_, ar, hi⟩
  · cases z : B.2 a with
    | none => exact absurd z e
    | some o => rw [up a o z]; simp
  · rw [s.only _ (by rw [upd_same]; simp)]
    exact ok.sh.free nb
  · exact sql_keep sq ok.tb fun o e n => s.keep _ o (up _ o e) n
theorem SR.ntB (k : SR P w T K ρ B S σ H δ) : ρ.r ∉ T := fun z => by
  obtain ⟨ps, q, _⟩ := k.ok.tb _ z
  rw [k.nb] at q; cases q
theorem SR.got (k : SR P w T K ρ B S σ H δ) : Step T B.1 B.2 S H ∧ S ρ.r = none ∧ RowOk K H ρ := by
  obtain ⟨i, g, m, hi, so⟩ := k.so
  exact SR.out k.nb k.ok k.sq k.ar hi k.ntB so.base
theorem SR.okk (k : SR P w T K ρ B S σ H δ) : Okk T S H := by
  obtain ⟨i, g, m, hi, so⟩ := k.so
  exact so.okk
theorem SR.okd (k : SR P w T K ρ B S σ H δ) : Okk T S (del H ρ.r) := k.okk.del k.got.2.1 k.ntB
theorem SR.pure (k : SR P w T K ρ B S σ H δ) (s : Step T S H S' H') : Stpr T K ρ S H S' H' := by
  obtain ⟨i, g, m, hi, so⟩ := k.so
  have e := (so.step s).base
  obtain ⟨h1, h2, h3⟩ := SR.out k.nb k.ok k.sq k.ar hi k.ntB e
  refine ⟨⟨s.ss, s.sh, fun a o e n => s.keep a o (del_some e).2 n, fun a e => s.only a fun z => e ?_, s.tb⟩, h2, h3⟩
  unfold Gd.del; split <;> trivial
theorem SR.step (k : SR P w T K ρ B S σ H δ) (s : Stpr T K ρ S H S' H') : SR P w T K ρ B S' σ H' δ := by
  obtain ⟨i, g, m, hi, so⟩ := k.so
  obtain ⟨i', g', m', R⟩ := s.row
  have nb := k.nb
  have nB1 : B.1 ρ.r = none := k.ok.sh.free nb
  obtain ⟨b1, b2, b3⟩ := k.got
  refine ⟨k.nb, k.ok, k.sq, k.ar, i', g', m', R.2.2.2, ?_⟩
  refine ⟨⟨fun b u e => ?_, fun p hp => ?_, k.ok.no⟩, ⟨b1.ss.trans s.st.ss, s.st.sh, fun c o e n => ?_, fun c e => ?_, s.st.tb⟩, so.len, fun j sd e => ?_, fun j sd a e m q => ?_, so.inj⟩
  · show upd B.2 ρ.r _ b = some u
    rw [upd_ne (ne_of_none e nB1)]; exact k.ok.sh b u e
  · have hp' : p ≠ ρ.r := fun z => k.ntB (z ▸ hp)
    show ∃ ps, upd B.2 ρ.r _ p = _ ∧ _
    rw [upd_ne hp']; exact k.ok.tb p hp
  · have e : upd B.2 ρ.r (.lst [.ref ρ.a, .int i', .int g', .int m']) c = some o := e
    by_cases hc : c = ρ.r
    · subst hc
      rw [upd_same] at e
      cases e
      exact R.1
    · rw [upd_ne hc] at e
      exact s.st.keep c o (by rw [del_of hc]; exact b1.keep c o e n) n
  · have e : upd B.2 ρ.r (.lst [.ref ρ.a, .int i', .int g', .int m']) c ≠ none := e
    by_cases hc : c = ρ.r
    · subst hc
      rw [s.sr, nB1]
    · rw [upd_ne hc] at e
      rw [s.st.only c (by rw [del_of hc]; exact b1.dom k.ok e), b1.only c e]
  · obtain ⟨v, e1, r⟩ := so.slot j sd e
    refine ⟨v, e1, ?_⟩
    cases hm : sd.mine with
    | false =>
      cases sd with
      | sh d => exact Rp.mono s.st.ss r
      | _ => cases hm
    | true =>
      obtain ⟨a, o, rfl, n, ea, q⟩ := SlotR.own hm r
      have hn := so.new j sd a e hm e1
      have hn : upd B.2 ρ.r (.lst [.ref ρ.a, .int i, .int g, .int m]) a = none := hn
      have ha : a ≠ ρ.r := fun z => by rw [z, upd_same] at hn; cases hn
      exact SlotR.mk (q.mono s.st.ss) (by rw [s.st.only a (by rw [del_of ha, ea]; simp)]; exact n) (s.st.keep a o (by rw [del_of ha]; exact ea) (k.okk.nT ea q.noT))
  · have hn := so.new j sd a e m q
    have hn : upd B.2 ρ.r _ a = none := hn
    show upd B.2 ρ.r _ a = none
    by_cases ha : a = ρ.r
    · subst ha; rw [upd_same] at hn; cases hn
    · rw [upd_ne ha] at hn ⊢; exact hn
theorem SR.set (k : SR P w T K ρ B S σ H δ) (i : Nat) {v : V} {d : D} (r : Rp P w S v d) : SR P w T K ρ B S (σ.set i (some v)) H (δ.set i (some (.sh d))) := by
  obtain ⟨i', g, m, hi, so⟩ := k.so
  exact ⟨k.nb, k.ok, k.sq, k.ar, i', g, m, hi, so.setS i r⟩
theorem ArOk.keep (n : ArOk K ρ) (h : SqL K H ρ.a (ρ.ns.map V.int)) (tb : TbOk T H) (kp : ∀ o, ρ.a ≠ ρ.r → H ρ.a = some o → ρ.a ∉ T → H' ρ.a = some o) : SqL K H' ρ.a (ρ.ns.map V.int) := by
  rcases n with n | n
  · exact sql_keep h tb fun o => kp o n
  · exact n _
theorem SR.enter {N : List Str} {vs : List V} {ds : List D} (k : Okk T S H) (n : S ρ.r = none) (R : RowOk K H ρ) (r : RpL P w S vs ds) : SR P w T K ρ (S, del H ρ.r) S (L2.start N vs) H (startD N.length ds) := by
  have nt := R.nT k.tb
  obtain ⟨i, g, m, R⟩ := R
  refine ⟨del_same, k.del n nt, R.2.2.1.keep R.2.1 k.tb fun o n e _ => (del_of n).trans e, R.2.2.1, i, g, m, R.2.2.2, ?_⟩
  have e : upd (Gd.del H ρ.r) ρ.r (.lst [.ref ρ.a, .int i, .int g, .int m]) = H := by
    funext b
    by_cases hb : b = ρ.r
    · subst hb; rw [upd_same, R.1]
    · rw [upd_ne hb, del_of hb]
  show SOk P w T (S, upd (Gd.del H ρ.r) ρ.r _) S _ H _
  rw [e]
  exact start_ok k r
end
/-! ### readings -/
abbrev NF := Addr → Sl → (D → Prop) → Prop
abbrev NA := Addr → Sl → (List D → Prop) → Prop
section
variable (P : Program) (w : World) (T : List Addr) (K : PySem.W.Frag)
def tN (f : NF) : TE := fun σ H Q => ∃ B S δ ρ post, SR P w T K ρ B S σ H δ ∧ f ρ.r δ post ∧ ∀ v d S' H', Stpr T K ρ S H S' H' → Rp P w S' v d → post d → Q v H'
def tNA (f : NA) : TA := fun σ H Q => ∃ B S δ ρ post, SR P w T K ρ B S σ H δ ∧ f ρ.r δ post ∧ ∀ vs ds S' H', Stpr T K ρ S H S' H' → RpL P w S' vs ds → post ds → Q vs H'
def tIN (f : NA) : TI := fun σ H R => ∃ B S δ ρ post, SR P w T K ρ B S σ H δ ∧ f ρ.r δ post ∧ ∀ J ds S' H', Stpr T K ρ S H S' H' → ItOk P w T J S' ds → post ds → R J H'
def tNS (g : NF) : TS := fun D σ H => ∃ B S δ ρ post, SR P w T K ρ B S σ H δ ∧ g ρ.r δ post ∧ ∀ v d S' H', Step T B.1 B.2 S' H' → S' ρ.r = none → RowOk K H' ρ → Rp P w S' v d → post d → D.rt v H'
/-- a def that draws -/
def spN (ar : Nat) (A : Addr → List D → (D → Prop) → Prop) : Sp := fun vs H Q _ => vs.length = ar ∧ ∃ S ds ρ post, Okk T S H ∧ S ρ.r = none ∧ RowOk K H ρ ∧ RpL P w S vs ds ∧ A ρ.r ds post ∧ ∀ v d S' H', Stpr T K ρ S H S' H' → Rp P w S' v d → post d → Q v H'
end
abbrev PN (T : List Addr) (X : Cx) (e : Expr) (f : NF) : Prop := PE X e (tN X.prog X.w T X.K f)
abbrev PNA (T : List Addr) (X : Cx) (e : List Expr) (f : NA) : Prop := PA X e (tNA X.prog X.w T X.K f)
abbrev PIN (T : List Addr) (X : Cx) (tg e : Expr) (f : NA) : Prop := PI X tg e (tIN X.prog X.w T X.K f)
abbrev PNS (T : List Addr) (X : Cx) (e : List Stmt) (f : NF) : Prop := PSs X e (tNS X.prog X.w T X.K f)
/-! combinators -/
def nd (f : Sl → Option D) : NF := fun _ δ post => ∃ d, f δ = some d ∧ post d
def n2 (g : D → D → Option D) (a b : NF) : NF := fun r δ post => a r δ fun x => b r δ fun y => ∃ d, g x y = some d ∧ post d
def nl (g : List D → Option D) (a : NA) : NF := fun r δ post => a r δ fun ds => ∃ d, g ds = some d ∧ post d
def nfn (ar : Nat) (F : List D → Option D) (a : NA) : NF := fun r δ post => a r δ fun ds => ds.length = ar ∧ ∃ d, F ds = some d ∧ post d
def nan : NA := fun _ _ post => post []
def nac (a : NF) (b : NA) : NA := fun r δ post => a r δ fun x => b r δ fun xs => post (x :: xs)
def ntk (row many : Sl → Option D) : NF := fun r δ post => row δ = some (rawD r) ∧ ∃ m : Int, many δ = some (.int m) ∧ 1 ≤ m ∧ m ≤ 1000 ∧ ∀ j : Int, 0 ≤ j → j < m → post (.int j)
def ncl (ar : Nat) (A : Addr → List D → (D → Prop) → Prop) (f : Sl → Option (List D)) : NF := fun r δ post => ∃ ds, f δ = some ds ∧ ds.length = ar ∧ A r ds post
def nrg (a : NF) : NA := fun r δ post => a r δ fun d => ∃ n : Int, d = .int n ∧ (-1000000 < n ∧ n < 1000000) ∧ post (rgL 0 n.toNat)
def nit (f : Sl → Option (List D)) : NA := fun _ δ post => ∃ ds, f δ = some ds ∧ post ds
def nsq (a : NF) : NA := fun r δ post => a r δ fun d => ∃ ds, seqOf d = some ds ∧ post ds
def nlc (vs : List Nat) (it : NA) (t : Tg) (elt : NF) : NF := fun r δ post => it r δ fun ds => ds.length ≤ 1000000 ∧ ∃ Py : D → Prop, (∀ d ∈ ds, ∃ δ', t d (wipeD δ vs) = some δ' ∧ elt r δ' Py) ∧ ∀ ys : List D, ys.length = ds.length → (∀ y ∈ ys, Py y) → post (.list ys)
def nset (i : Nat) (f : NF) (g : NF) : NF := fun r δ post => f r δ fun d => g r (δ.set i (some (.sh d))) post
def npu (F : Sl → Option Out) (g : NF) : NF := fun r δ post => ∃ o, F δ = some o ∧ match o with
  | .nx δ' => g r δ' post
  | .rt d => post d
  | .rf _ => False
def nfor (f : NA) (t : Tg) (b : Sl → Option Out) (g : Sl → Option Out) : NF := fun r δ post => f r δ fun ds => ∃ d, andT (forL t b ds) g δ = some (.rt d) ∧ post d
section
variable {T : List Addr} {X : Cx} {tg a b e : Expr} {es : List Expr} {na nb f : NF} {fa : NA} {ga gb : Sl → Option D} {fl : Sl → Option (List D)} {pos p : Pos}
theorem pn_d (h : PD T X e ga) : PN T X e (nd ga) := by
  refine PE_imp h fun σ H Q q => ?_
  obtain ⟨B, S, δ, ρ, post, k, ⟨d, e1, hp⟩, q⟩ := q
  obtain ⟨i, g, m, hi, so⟩ := k.so
  exact ⟨_, S, δ, d, so, e1, fun v S' H' s r => q v d S' H' (k.pure s) r hp⟩
theorem pn_op {op : Operator} {g : D → D → Option D} (ho : OpR X (binaryOp op) (rD X.prog X.w T g)) (ha : PN T X a na) (hb : PN T X b nb) : PN T X (.BinOp a op b pos) (n2 g na nb) := by
  refine PE_imp (pe_op ho ha hb) fun σ H Q q => ?_
  obtain ⟨B, S, δ, ρ, post, k, hf, q⟩ := q
  refine ⟨B, S, δ, ρ, _, k, hf, fun v x S1 H1 s1 r1 hx => ⟨B, S1, δ, ρ, _, k.step s1, hx, fun u y S2 H2 s2 r2 ⟨d, e1, hp⟩ => ?_⟩⟩
  have k2 := (k.step s1).step s2
  exact ⟨S2, x, y, d, k2.okk, r1.mono s2.st.ss, r2, e1, fun v' S3 H3 s3 r3 => q v' d S3 H3 (Stpr.trans k.okd s1 (Stpr.trans (k.step s1).okd s2 (k2.pure s3))) r3 hp⟩
theorem pn_ix {k : Nat} (hr : Room k X.A) (ha : PN T X a na) (hb : PN T X b nb) (hs : PlainIx b := by exact fun _ _ => rfl) : PN T X (.Subscript a b pos) (n2 ixD na nb) := by
  refine PE_imp (pe_ix (r := rD X.prog X.w T ixD) (fun value slice pins s σ H x y v u Q I rx ry h hs => ?_) ha hb hs) fun σ H Q q => ?_
  · obtain ⟨S, dx, dy, d, kk, hx, hy, hg, q⟩ := h
    exact ix_core hr I rx ry kk hx hy hg (fun v' r' => q v' S H kk.refl r') hs
  obtain ⟨B, S, δ, ρ, post, k, hf, q⟩ := q
  refine ⟨B, S, δ, ρ, _, k, hf, fun v x S1 H1 s1 r1 hx => ⟨B, S1, δ, ρ, _, k.step s1, hx, fun u y S2 H2 s2 r2 ⟨d, e1, hp⟩ => ?_⟩⟩
  have k2 := (k.step s1).step s2
  exact ⟨S2, x, y, d, k2.okk, r1.mono s2.st.ss, r2, e1, fun v' S3 H3 s3 r3 => q v' d S3 H3 (Stpr.trans k.okd s1 (Stpr.trans (k.step s1).okd s2 (k2.pure s3))) r3 hp⟩
theorem pna_n : PNA T X [] nan := by
  refine PA_imp pa_nil fun σ H Q q => ?_
  obtain ⟨B, S, δ, ρ, post, k, hf, q⟩ := q
  exact q [] [] S H (k.pure k.okk.refl) .nil hf
theorem pna_c (ha : PN T X e f) (hr : PNA T X es fa) (hs : starEach (e :: es) X.env = (false, eval e X.env) :: starEach es X.env := by rfl) : PNA T X (e :: es) (nac f fa) := by
  refine PA_imp (pa_cons ha hr hs) fun σ H Q q => ?_
  obtain ⟨B, S, δ, ρ, post, k, hf, q⟩ := q
  exact ⟨B, S, δ, ρ, _, k, hf, fun v x S1 H1 s1 r1 hx => ⟨B, S1, δ, ρ, _, k.step s1, hx, fun vs xs S2 H2 s2 r2 hp => q _ _ S2 H2 (Stpr.trans k.okd s1 s2) (.cons (r1.mono s2.st.ss) r2) hp⟩⟩
theorem pn_tup {x1} (h : PNA T X es fa) : PN T X (.Tuple es x1 pos) (nl mkT fa) := by
  refine PE_imp (pe_tup h) fun σ H Q q => ?_
  obtain ⟨B, S, δ, ρ, post, k, hf, q⟩ := q
  refine ⟨B, S, δ, ρ, _, k, hf, fun vs ds S1 H1 s1 r1 ⟨d, ed, hp⟩ => ?_⟩
  unfold mkT at ed
  split at ed
  · rename_i hl
    cases ed
    refine ⟨by rw [r1.length]; exact Nat.le_of_lt (line_big hl), fun p np => ?_⟩
    obtain ⟨s2, r2⟩ := (k.step s1).okk.tup np r1
    exact q _ _ _ _ (Stpr.trans k.okd s1 ((k.step s1).pure s2)) r2 hp
  · cases ed
theorem pn_lst (h : PNA T X es fa) : PN T X (.List es pos) (nl mkL fa) := by
  refine PE_imp (pe_lst h) fun σ H Q q => ?_
  obtain ⟨B, S, δ, ρ, post, k, hf, q⟩ := q
  refine ⟨B, S, δ, ρ, _, k, hf, fun vs ds S1 H1 s1 r1 ⟨d, ed, hp⟩ => ?_⟩
  unfold mkL at ed
  split at ed
  · rename_i hl
    cases ed
    refine ⟨by rw [r1.length]; exact Nat.le_of_lt (line_big hl), fun p np => ?_⟩
    obtain ⟨s2, r2⟩ := (k.step s1).okk.lst np r1
    exact q _ _ _ _ (Stpr.trans k.okd s1 ((k.step s1).pure s2)) r2 hp
  · cases ed
theorem tnc_of {g : List D → Option D} {σ : L2.St} {H : Hp} {Q : VK} (q : tN X.prog X.w T X.K (nl g fa) σ H Q) : tCB (rC X.prog X.w T g) (tNA X.prog X.w T X.K fa) σ H Q := by
  obtain ⟨B, S, δ, ρ, post, k, hf, q⟩ := q
  exact ⟨B, S, δ, ρ, _, k, hf, fun vs ds S1 H1 s1 r1 ⟨d, ed, hp⟩ => ⟨S1, ds, d, (k.step s1).okk, r1, ed, fun v' S3 H3 s3 r3 => q v' d S3 H3 (Stpr.trans k.okd s1 ((k.step s1).pure s3)) r3 hp⟩⟩
theorem pn_callTy {x : Str} {p : Pos} {id : String} {g : List D → Option D} (hc : CallR X (.type id) (rC X.prog X.w T g)) (hg : Gl X x) (hm : X.mg x = none) (hv : bootBuiltins x = some (.type id)) (ha : PNA T X (e :: es) fa)
    (hn : x ≠ "__name__" := by decide) (hdb : (x == ("__debug__" : Str)) = false := by decide)
    (he : starEach (e :: es) X.env = (false, eval e X.env) :: starEach es X.env := by rfl) (hpl : (backTo pos (starEach es X.env)).any (·.1) = false := by rfl) : PN T X (.Call (.Name x p) (e :: es) [] pos) (nl g fa) :=
  PE_imp (pe_callTy hc hg hm hv ha hn hdb he hpl) fun _ _ _ q => tnc_of q
/-- a call of a pure def -/
theorem pn_fn {k j ar : Nat} {x : Str} {F : List D → Option D} (c : Cal X.prog X.w X.K X.mg X.base k x (spD X.prog X.w T ar F)) (hr : Room j X.A) (hk : k ≤ j) (hg : Gl X x) (ha : PNA T X (e :: es) fa)
    (hdb : (x == ("__debug__" : Str)) = false := by decide) (he : starEach (e :: es) X.env = (false, eval e X.env) :: starEach es X.env := by rfl) (hpl : (backTo pos (starEach es X.env)).any (·.1) = false := by rfl) :
    PN T X (.Call (.Name x p) (e :: es) [] pos) (nfn ar F fa) := by
  obtain ⟨ff, fd, ps, FF, hm, kp, b⟩ := c.ex
  refine PE_imp (pe_call FF (hr.mono hk) hg hm kp b .nil pass0 ha hdb he hpl) fun σ H Q q => ?_
  obtain ⟨B, S, δ, ρ, post, k, hf, q⟩ := q
  refine ⟨B, S, δ, ρ, _, k, hf, fun vs ds S1 H1 s1 r1 ⟨hz, d, ed, hp⟩ => ?_⟩
  show spD X.prog X.w T ar F (vs ++ []) H1 Q E0
  rw [List.append_nil]
  exact ⟨by rw [r1.length]; exact hz, S1, ds, d, (k.step s1).okk, r1, ed, fun v S' H' s r => q v d S' H' (Stpr.trans k.okd s1 ((k.step s1).pure s)) r hp⟩
/-- a call of a def that draws -/
theorem pn_cl {k j ar : Nat} {x : Str} {A : Addr → List D → (D → Prop) → Prop} (c : Cal X.prog X.w X.K X.mg X.base k x (spN X.prog X.w T X.K ar A)) (hr : Room j X.A) (hk : k ≤ j) (hg : Gl X x) (ha : PAd T X (e :: es) fl)
    (hdb : (x == ("__debug__" : Str)) = false := by decide) (he : starEach (e :: es) X.env = (false, eval e X.env) :: starEach es X.env := by rfl) (hpl : (backTo pos (starEach es X.env)).any (·.1) = false := by rfl) :
    PN T X (.Call (.Name x p) (e :: es) [] pos) (ncl ar A fl) := by
  obtain ⟨ff, fd, ps, FF, hm, kp, b⟩ := c.ex
  refine PE_imp (pe_call FF (hr.mono hk) hg hm kp b .nil pass0 ha hdb he hpl) fun σ H Q q => ?_
  obtain ⟨B, S, δ, ρ, post, k, ⟨ds, e1, hl, hA⟩, q⟩ := q
  obtain ⟨i, g, m, hi, so⟩ := k.so
  refine ⟨_, S, δ, ds, so, e1, fun vs S1 H1 s1 r1 => ?_⟩
  have k1 := k.step (k.pure s1)
  show spN X.prog X.w T X.K ar A (vs ++ []) H1 Q E0
  rw [List.append_nil]
  exact ⟨by rw [r1.length]; exact hl, S1, ds, ρ, post, k1.okk, k1.got.2.1, k1.got.2.2, r1, hA, fun v d S' H' s r hp => q v d S' H' (Stpr.trans k.okd (k.pure s1) s) r hp⟩
/-- _law_taken -/
theorem pn_tk {j : Nat} (c : Cal X.prog X.w X.K X.mg X.base 1 "_law_taken" (spTk X.K)) (hr : Room j X.A) (hk : 1 ≤ j) (hg : Gl X "_law_taken") (ha : PD T X a ga) (hb : PD T X b gb)
    (he : starEach [a, b] X.env = (false, eval a X.env) :: starEach [b] X.env := by rfl) (he2 : starEach [b] X.env = (false, eval b X.env) :: starEach [] X.env := by rfl) (hpl : (backTo pos (starEach [b] X.env)).any (·.1) = false := by rfl) :
    PN T X (.Call (.Name "_law_taken" p) [a, b] [] pos) (ntk ga gb) := by
  obtain ⟨ff, fd, ps, FF, hm, kp, bb⟩ := c.ex
  refine PE_imp (pe_call FF (hr.mono hk) hg hm kp bb .nil pass0 (pa_cons ha (pa_cons hb pa_nil he2) he) (by decide) he hpl) fun σ H Q q => ?_
  obtain ⟨B, S, δ, ρ, post, k, ⟨e1, m, e2, hm1, hm2, hp⟩, q⟩ := q
  obtain ⟨i, g, mm, hi, so⟩ := k.so
  refine ⟨_, S, δ, rawD ρ.r, so, e1, fun v S1 H1 s1 r1 => ⟨_, S1, δ, .int m, so.step s1, e2, fun u S2 H2 s2 r2 => ?_⟩⟩
  have k1 := k.step (k.pure s1)
  have k2 := k1.step (k1.pure s2)
  cases raw_inv r1
  cases r2
  have R := k2.got.2.2
  refine ⟨ρ, m, rfl, R, hm1, hm2, fun j o hj1 hj2 R' => ?_⟩
  have nS := k2.got.2.1
  have st : Stpr T X.K ρ S2 H2 S2 (upd H2 ρ.r o) := ⟨⟨Same.refl _, fun b u e => by rw [upd_ne (ne_of_none e nS)]; exact k2.okk.sh b u e, fun c u e n => by rw [upd_ne (del_some e).1]; exact (del_some e).2, fun _ _ => rfl,
    fun p hp => by
      have hb : p ≠ ρ.r := fun z => k2.ntB (z ▸ hp)
      rw [upd_ne hb]; exact k2.okk.tb p hp⟩, nS, R'⟩
  exact q _ (.int j) S2 _ (Stpr.trans k.okd (k.pure s1) (Stpr.trans k1.okd (k1.pure s2) st)) (.int j) (hp j hj1 hj2)
theorem pin_rg1 (hg : Gl X "range") (hm : X.mg "range" = none) (ha : PN T X a na) (hs : starEach [a] X.env = [(false, eval a X.env)] := by rfl) : PIN T X tg (.Call (.Name "range" p) [a] [] pos) (nrg na) := by
  refine PI_imp (pi_range1 hg hm (pa_cons ha pa_nil hs) hs) fun σ H Q q => ?_
  obtain ⟨B, S, δ, ρ, post, k, hf, q⟩ := q
  refine ⟨B, S, δ, ρ, _, k, hf, fun v d S1 H1 s1 r1 ⟨n, ed, hz, hp⟩ => ?_⟩
  subst ed
  cases r1
  exact ⟨n, rfl, by omega, by omega, q _ _ S1 H1 s1 (itok_rng 0 _) hp⟩
theorem pin_d (h : PId T X tg e fl) : PIN T X tg e (nit fl) := by
  refine PI_imp h fun σ H Q q => ?_
  obtain ⟨B, S, δ, ρ, post, k, ⟨ds, e1, hp⟩, q⟩ := q
  obtain ⟨i, g, m, hi, so⟩ := k.so
  exact ⟨_, S, δ, ds, so, e1, fun J S1 H1 s1 ok => q J ds S1 H1 (k.pure s1) ok hp⟩
end
end Gd

set_option maxHeartbeats 2000000
/-! GdZ2: comprehensions and statements that draw. -/
namespace Gd
open PySem PySem.Spec PyProof.Rows L2
section
variable {T : List Addr} {X : Cx} {tg elt iter e : Expr} {f : NF} {fa : NA} {t : Tg} {is : List Nat} {scope : Scope} {own : List (Str × Nat)} {pos : Pos} {g : NF}
theorem pn_lc (hc : X.calm = true) (hN : X.N.Nodup) (hi : PIN T X tg iter fa) (ok : BlkOk X.N X.env.scope scope own)
    (hg : ∀ (s : Shared) (H : Hp) (C : Addr) (cl : List (Str × Addr)) (fp : List Addr), PGd T (X.blk s H scope (compEnvC scope cl C X.env) fp) tg is t)
    (he : ∀ (s : Shared) (H : Hp) (C : Addr) (cl : List (Str × Addr)) (fp : List Addr), PN T (X.blk s H scope (compEnvC scope cl C X.env) fp) elt f) (hv : ∀ i ∈ is, i ∈ own.map (·.2) := by decide) (hs : ∀ x, foldedSetIterable iter X.env x = pure x := by intro _; rfl) :
    PN T X (.ListComp elt [⟨tg, iter, [], 0⟩] scope pos) (nlc (own.map (·.2)) fa t f) := by
  refine PE_imp (pe_lc (g := tG X.prog X.w T is t) (tt := tDT X.prog X.w T tyes) (te := tN X.prog X.w T X.K f) hc hN hi ok hg (fun _ _ _ _ _ => ptsd_nil) he hs) fun σ H Q q => ?_
  obtain ⟨B, S, δ, ρ, post, k, hf, q⟩ := q
  refine ⟨B, S, δ, ρ, _, k, hf, fun J ds S1 H1 s1 okJ ⟨hl, Py, hel, hpost⟩ L nL => ?_⟩
  have k1 := k.step s1
  have nS1 : S1 L = none := k1.okk.sh.free nL
  have hLr : L ≠ ρ.r := fun z => by
    obtain ⟨i, g, m, R⟩ := k1.got.2.2
    have := R.1
    rw [← z, nL] at this; cases this
  have nH : H L = none := by
    cases z : H L with
    | none => rfl
    | some u => exact absurd nL (s1.st.dom k.okd (by rw [del_of hLr, z]; simp))
  let PV : Nat → Hp → Prop := fun i H2 => ∃ S2 acc done, Stpr T X.K ρ S1 H1 S2 H2 ∧ S2 L = none ∧ H2 L = some (.lst acc) ∧ RpL X.prog X.w S2 acc done ∧ done.length = i ∧ ∀ y ∈ done, Py y
  have p0 : PV 0 (upd H1 L (.lst [])) := ⟨S1, [], [], k1.pure (k1.okk.newO nL), nS1, upd_same, .nil, rfl, fun y hy => by cases hy⟩
  refine ⟨fun i m H2 => m = ds.length - i ∧ i ≤ ds.length ∧ PV i H2, ⟨ds.length, by simp, Nat.zero_le _, p0⟩, ?_⟩
  rintro i m H2 ⟨rfl, hi, S2, acc, done, s2, nS2, eL, r, hd, hPy⟩
  have k2 := k1.step s2
  by_cases hlt : i < ds.length
  · refine .inr ?_
    have hdi : ds[i]? = some ds[i] := by simp [hlt]
    obtain ⟨g1, g2⟩ := okJ.go i S2 H2 ds[i] k2.okk s2.st.ss hdi
    obtain ⟨δ3, e4, hE⟩ := hel ds[i] (List.getElem_mem hlt)
    refine ⟨g1, PV (i + 1), fun H' p => ⟨ds.length - (i + 1), by omega, rfl, hlt, p⟩, fun x H3 y => ?_⟩
    obtain ⟨S3, s3, r3⟩ := g2 x H3 y
    have k3 := k2.step (k2.pure s3)
    obtain ⟨i', g', m', hi', so3⟩ := k3.so
    refine ⟨_, S3, wipeD δ (own.map (·.2)), ds[i], δ3, so3.wiped _, r3, e4, fun σ4 k4 hw => ⟨?_, _, S3, δ3, true, k4, rfl, fun S5 H5 s5 => ?_⟩⟩
    · rw [hw _ hv]
      exact wipe_sub _ fun i hi => hi
    · have k5 : SR X.prog X.w T X.K ρ B S5 σ4 H5 δ3 := ⟨k.nb, k.ok, k.sq, k.ar, i', g', m', hi', k4.step s5⟩
      have nLT : L ∉ T := k2.okk.nT eL (fun ps z => by cases z)
      show tN X.prog X.w T X.K f σ4 H5 _
      refine ⟨B, S5, δ3, ρ, Py, k5, hE, fun v6 y6 S6 H6 s6 r6 hy6 => ?_⟩
      have s25 : Stpr T X.K ρ S2 H2 S5 H5 := Stpr.trans k2.okd (k2.pure s3) (k3.pure s5)
      have s26 : Stpr T X.K ρ S2 H2 S6 H6 := Stpr.trans k2.okd s25 s6
      have s16 : Stpr T X.K ρ S1 H1 S6 H6 := Stpr.trans k1.okd s2 s26
      have eL6 : H6 L = some (.lst acc) := s26.st.keep L _ (by rw [del_of hLr]; exact eL) nLT
      have nS6 : S6 L = none := by rw [s26.st.only L (by rw [del_of hLr, eL]; simp)]; exact nS2
      refine ⟨acc, eL6, by rw [r.length]; exact line_big (by omega), S6, acc ++ [v6], done ++ [y6], ⟨?_, s16.sr, ?_⟩, nS6, upd_same, (r.mono s26.st.ss).append (.cons r6 .nil), by simp [hd], fun y hy => ?_⟩
      · refine ⟨s16.st.ss, fun b u z => ?_, fun b u z n => ?_, s16.st.only, fun p hp => ?_⟩
        · rw [upd_ne (ne_of_none z nS6)]; exact s16.st.sh b u z
        · rw [upd_ne (ne_of_none (del_some z).2 nL)]; exact s16.st.keep b u z n
        · have hb : p ≠ L := fun z => nLT (z ▸ hp)
          rw [upd_ne hb]; exact s16.st.tb p hp
      · obtain ⟨i6, g6, m6, R6⟩ := s16.row
        obtain ⟨i1, g1, m1, R1⟩ := k1.got.2.2
        refine ⟨i6, g6, m6, by rw [upd_ne hLr.symm]; exact R6.1, R6.2.2.1.keep R1.2.1 k1.okk.tb fun o na e n => ?_, R6.2.2⟩
        rw [upd_ne (ne_of_none e nL)]
        exact s16.st.keep _ o (by rw [del_of na]; exact e) n
      · rcases List.mem_append.mp hy with hy | hy
        · exact hPy y hy
        · have : y = y6 := by simpa using hy
          subst this; exact hy6
  · have ei : i = ds.length := by omega
    subst ei
    refine .inl ⟨okJ.stop _ S2 H2 k2.okk s2.st.ss (Nat.le_refl _), ?_⟩
    obtain ⟨k', ss⟩ := k2.okk.share eL nS2 (fun ps z => by cases z)
    have s12 := Stpr.trans k.okd s1 s2
    refine q (.ref L) (.list done) (upd S2 L (.lst acc)) H2 ⟨⟨s12.st.ss.trans ss, k'.sh, s12.st.keep, fun c hc' => ?_, s12.st.tb⟩, ?_, s12.row⟩ (.lst upd_same (r.mono ss)) (hpost done hd hPy)
    · have hcL : c ≠ L := fun z => hc' (by rw [z, del_of hLr]; exact nH)
      rw [upd_ne hcL]; exact s12.st.only c hc'
    · rw [upd_ne hLr.symm]; exact s12.sr
/-! ### over a list that was drawn -/
theorem pin_seq (ha : PN T X e f) : PIN T X tg e (nsq f) := by
  refine ⟨fun pins s σ H R I h => ?_⟩
  obtain ⟨B, S, δ, ρ, post, k, hf, q⟩ := h
  refine thn (ha.run pins s σ H (fun v H1 => ∃ S1 d ds, Stpr T X.K ρ S H S1 H1 ∧ Rp X.prog X.w S1 v d ∧ seqOf d = some ds ∧ post ds) I ⟨B, S, δ, ρ, _, k, hf, fun v d S1 H1 s1 r1 ⟨ds, e1, hp⟩ => ⟨S1, d, ds, s1, r1, e1, hp⟩⟩) fun v s1 ⟨x, H1, I1, r1, S1, d, ds, st1, rp, e2, hp⟩ => ?_
  cases rp with
  | @lst l vs ds' e r =>
    cases e2
    cases r1
    obtain ⟨its, rv, p, hz⟩ := I1.list (SqL.of (st1.st.sh _ _ e))
    refine wpAny_pyIter_list p.isList ?_
    refine ⟨s1.heap.objs.size, [s1.heap.objs.size], _, _, H1, rfl, I1.kept (t' := s1.toks) fun b o e => Heap.get?_push_of_some _ e, turn_list l _, ⟨_, Heap.get?_push_size _ rfl, rfl, rfl⟩, fun b hb => ?_, q _ _ S1 H1 st1 (itok_list e r) hp⟩
    have e : b = s1.heap.objs.size := by simpa using hb
    subst e
    exact I1.fpOk (Nat.le_refl _) (I1.hok.fresh (Nat.le_refl _))
  | @tup l vs ds' e r =>
    cases e2
    cases r1
    obtain ⟨its, rv, p, hz⟩ := I1.tuple (SqT.of (st1.st.sh _ _ e))
    refine wpAny_pyIter_tuple (show s1.heap.IsTuple l its.toArray from p) ?_
    refine ⟨s1.heap.objs.size, [s1.heap.objs.size], _, _, H1, rfl, I1.kept (t' := s1.toks) fun b o e => Heap.get?_push_of_some _ e, turn_tuple l _, ⟨_, Heap.get?_push_size _ rfl, rfl, rfl⟩, fun b hb => ?_, q _ _ S1 H1 st1 (itok_tup e r) hp⟩
    have e : b = s1.heap.objs.size := by simpa using hb
    subst e
    exact I1.fpOk (Nat.le_refl _) (I1.hok.fresh (Nat.le_refl _))
  | _ => cases e2
/-! ### statements -/
variable {st : Stmt} {rest body : List Stmt} {F bd G : Sl → Option Out} {i : Nat}
theorem pns_set {x : Str} {pos' : Pos} (hN : X.N.Nodup) (hi : X.N[i]? = some x) (hx : Loc X.env.scope x) (he : PN T X e f) (hr : PNS T X rest g) (hs : swapsWith e (some (.Name x pos')) pos.line X.env = pure false := by rfl)
    (hf : X.fn x = true ∨ X.env.scope.names.lookup x = some .local := by first | exact .inl rfl | exact .inr rfl | assumption) : PNS T X (.Assign [.Name x pos'] e pos :: rest) (nset i f g) := by
  refine PSs_imp (pss_cons (ps_set hN hi hx he hs hf) hr) fun D σ H q => ?_
  obtain ⟨B, S, δ, ρ, post, k, hf, q⟩ := q
  exact ⟨B, S, δ, ρ, _, k, hf, fun v d S' H' s r hp => ⟨B, S', _, ρ, post, (k.step s).set i r, hp, q⟩⟩
theorem pns_ret (he : PN T X e f) : PNS T X [.Return (some e) pos] f := by
  refine PSs_imp (pss_one (ps_ret he)) fun D σ H q => ?_
  obtain ⟨B, S, δ, ρ, post, k, hf, q⟩ := q
  refine ⟨B, S, δ, ρ, _, k, hf, fun v d S' H' s r hp => ?_⟩
  obtain ⟨h1, h2, h3⟩ := (k.step s).got
  exact q v d S' H' h1 h2 h3 r hp
theorem pns_pure (hst : PSd T X st F) (hr : PNS T X rest g) : PNS T X (st :: rest) (npu F g) := by
  refine PSs_imp (pss_cons hst hr) fun D σ H q => ?_
  obtain ⟨B, S, δ, ρ, post, k, ⟨o, e1, hp⟩, q⟩ := q
  have nt := k.ntB
  obtain ⟨i, gg, m, hi, so⟩ := k.so
  refine ⟨_, S, δ, o, so, e1, ?_⟩
  cases o with
  | nx δ' => exact fun S' σ' H' k' ss => ⟨B, S', δ', ρ, post, ⟨k.nb, k.ok, k.sq, k.ar, i, gg, m, hi, k'⟩, hp, q⟩
  | rt d =>
    intro v S' H' s r
    obtain ⟨h1, h2, h3⟩ := SR.out k.nb k.ok k.sq k.ar hi nt s
    exact q v d S' H' h1 h2 h3 r hp
  | rf d => exact hp.elim
def npar3 (i j l : Nat) (fa : NA) (g : NF) : NF := fun r δ post => fa r δ fun ds => ∃ x y z, ds = [x, y, z] ∧ g r (((δ.set i (some (.sh x))).set j (some (.sh y))).set l (some (.sh z))) post
theorem pns_parC3 {i j l : Nat} {x y z : Str} {px py pz pt : Pos} {kt k2 pt2} {a b c : Expr} (hc : X.calm = true) (hN : X.N.Nodup) (hi : X.N[i]? = some x) (hj : X.N[j]? = some y) (hk : X.N[l]? = some z) (hx : Loc X.env.scope x) (hy : Loc X.env.scope y) (hz : Loc X.env.scope z) (ha : PNA T X [a, b, c] fa) (hr : PNS T X rest g)
    (hf : X.fn x = true ∨ X.env.scope.names.lookup x = some .local := by first | exact .inl rfl | exact .inr rfl | assumption) (hf2 : X.fn y = true ∨ X.env.scope.names.lookup y = some .local := by first | exact .inl rfl | exact .inr rfl | assumption)
    (hf3 : X.fn z = true ∨ X.env.scope.names.lookup z = some .local := by first | exact .inl rfl | exact .inr rfl | assumption)
    (hs : swapsWithSole [.Tuple [.Name x px, .Name y py, .Name z pz] kt pt] (.Tuple [a, b, c] k2 pt2) pos.line X.env = pure false := by rfl) (hw : swappedStores [.Tuple [.Name x px, .Name y py, .Name z pz] kt pt] (.Tuple [a, b, c] k2 pt2) X.env = pure none := by rfl)
    (h1 : (assignEach [.Tuple [.Name x px, .Name y py, .Name z pz] kt pt] X.env).map (·.2) = [assign (.Tuple [.Name x px, .Name y py, .Name z pz] kt pt) X.env] := by rfl) :
    PNS T X (.Assign [.Tuple [.Name x px, .Name y py, .Name z pz] kt pt] (.Tuple [a, b, c] k2 pt2) pos :: rest) (npar3 i j l fa g) := by
  refine PSs_imp (pss_cons (ps_asg (pe_tup ha) (pg_tup (n := 3) hc (pgs_cons (pg_name hN hi hx hf) (pgs_cons (pg_name hN hj hy hf2) (pgs_cons (pg_name hN hk hz hf3) pgs_nil)))) hs hw h1) hr) fun D σ H q => ?_
  obtain ⟨B, S, δ, ρ, post, k, hf, q⟩ := q
  refine ⟨B, S, δ, ρ, _, k, hf, fun vs ds S1 H1 s1 r1 ⟨d1, d2, d3, ed, hp⟩ => ?_⟩
  subst ed
  cases r1 with
  | @cons v1 _ _ _ r1 q1 =>
    cases q1 with
    | @cons v2 _ _ _ r2 q2 =>
      cases q2 with
      | @cons v3 _ _ _ r3 q3 =>
        cases q3
        have k1 := (((k.step s1).set i r1).set j r2).set l r3
        refine ⟨by show 3 ≤ sizeLine; decide, fun p np => ⟨p, _, rfl, SqT.of upd_same, rfl, v1, _, rfl, v2, _, rfl, v3, _, rfl, rfl, ?_⟩⟩
        exact ⟨B, S1, _, ρ, post, k1.step (k1.pure (k1.okk.newO np)), hp, q⟩
/-- the row is made: what stands ahead of it -/
def tRow (P : Program) (w : World) (T : List Addr) (K : PySem.W.Frag) (n : Nat) (g : NF) : TS := fun En σ H => ∃ (a : Addr) (ns : List Int) (N : List Str) (post : D → Prop), N.length = n ∧ σ = L2.start N [.ref a] ∧ TbOk T H ∧ SqL K H a (ns.map V.int) ∧
  (∀ r, g r ((startD n [rawD a]).set 1 (some (.sh (rawD r)))) post) ∧ ∀ v d S' H', Rp P w S' v d → post d → En.rt v H'
theorem pss_row {n : Nat} {x y : Str} {px py lp p1 p2 p3 : Pos} {g1 : Int} {j1 j2 j3 : Nat} (hN : X.N.Nodup) (hi : X.N[1]? = some x) (hx : Loc X.env.scope x) (hy : PE X (.Name y py) (tVar 0)) (hr : PNS T X rest g)
    (hs : swapsWith (.List [.Name y py, .Constant (.int 0) j1 p1, .Constant (.int g1) j2 p2, .Constant (.int 0) j3 p3] lp) (some (.Name x px)) pos.line X.env = pure false := by rfl)
    (he : starEach [.Name y py, .Constant (.int 0) j1 p1, .Constant (.int g1) j2 p2, .Constant (.int 0) j3 p3] X.env = (false, eval (.Name y py) X.env) :: starEach [.Constant (.int 0) j1 p1, .Constant (.int g1) j2 p2, .Constant (.int 0) j3 p3] X.env := by rfl)
    (hf : X.fn x = true ∨ X.env.scope.names.lookup x = some .local := by first | exact .inl rfl | exact .inr rfl | assumption) :
    PSs X (.Assign [.Name x px] (.List [.Name y py, .Constant (.int 0) j1 p1, .Constant (.int g1) j2 p2, .Constant (.int 0) j3 p3] lp) pos :: rest) (tRow X.prog X.w T X.K n g) := by
  refine PSs_imp (pss_cons (ps_set hN hi hx (pe_lst (pa_cons hy (pa_cons pe_int (pa_cons pe_int (pa_cons pe_int pa_nil))) he)) hs hf) hr) fun D σ H q => ?_
  obtain ⟨a, ns, N, post, hn, rfl, tb, sq, hg, q⟩ := q
  refine ⟨_, rfl, by show 4 ≤ sizeLine; decide, fun p np => ?_⟩
  have ok0 : Okk T (fun _ => none) H := ⟨fun b u e => (by cases e), tb, fun p hp => rfl⟩
  have ar : ArOk X.K ⟨p, a, ns⟩ := by
    rcases sq with (h | ⟨u, h⟩) | h
    · exact .inl (ne_of_none h np)
    · exact .inl (ne_of_none h np)
    · exact .inr fun _ => .inr h
  have k0 : SOk X.prog X.w T ((fun _ => none : Hp), H) (fun _ => none) (L2.start N [.ref a]) H (startD N.length [rawD a]) := start_ok ok0 (.cons (rp_raw a) .nil)
  have ok1 : Okk T (fun _ => none) (upd H p (.lst [.ref a, .int 0, .int g1, .int 0])) := ok0.step (ok0.newO np)
  have k1 : SOk X.prog X.w T ((fun _ => none : Hp), upd H p (.lst [.ref a, .int 0, .int g1, .int 0])) (fun _ => none) (L2.start N [.ref a]) (upd H p (.lst [.ref a, .int 0, .int g1, .int 0])) (startD N.length [rawD a]) := start_ok ok1 (.cons (rp_raw a) .nil)
  refine ⟨((fun _ => none : Hp), H), fun _ => none, _, ⟨p, a, ns⟩, post, ⟨np, ok0, sq, ar, 0, g1, 0, by decide, k1.setS 1 (rp_raw p)⟩, by rw [hn]; exact hg p, fun v d S' H' _ _ _ r hp => q v d S' H' r hp⟩
theorem for_core {J : It} {B : Hp × Hp} {S1 H1 : Hp} {σ : L2.St} {δ : Sl} {ds : List D} {o : Out} {D : Ends} (k1 : SOk X.prog X.w T B S1 σ H1 δ) (ok : ItOk X.prog X.w T J S1 ds) (e2 : forL t bd ds δ = some o) (q : EndO X.prog X.w T B S1 D o) :
    ∃ W : Nat → Nat → L2.St → Hp → Prop, (∃ m, W 0 m σ H1) ∧ ∀ i m σ H, W i m σ H →
      (J.stop i H ∧ D.nx σ H) ∨ (J.go i H ∧ ∃ N : L2.St → Hp → Prop, (∀ σ' H', N σ' H' → ∃ m', m' < m ∧ W (i + 1) m' σ' H') ∧ ∀ x H', J.yld i H x H' → tG X.prog X.w T is t x σ H' fun σ2 H2 => tS X.prog X.w T bd { D with nx := N, ct := N, bk := D.nx } σ2 H2) := by
  refine ⟨fun i m σ H => m = ds.length - i ∧ i ≤ ds.length ∧ ∃ S2 δ2, SOk X.prog X.w T B S2 σ H δ2 ∧ Same S1 S2 ∧ forL t bd (ds.drop i) δ2 = some o, ⟨ds.length, by simp, Nat.zero_le _, S1, δ, k1, Same.refl _, e2⟩, ?_⟩
  rintro i m σ2 H2 ⟨rfl, hi, S2, δ2, k2, ss2, e3⟩
  by_cases hlt : i < ds.length
  · refine .inr ?_
    have hd : ds[i]? = some ds[i] := by simp [hlt]
    obtain ⟨g1, g2⟩ := ok.go i S2 H2 ds[i] k2.okk ss2 hd
    rw [List.drop_eq_getElem_cons hlt] at e3
    obtain ⟨δ3, e4, e5⟩ := Option.bind_eq_some_iff.mp (show ((t ds[i] δ2).bind fun δ1 => (bd δ1).bind fun
      | .nx δ2 => forL t bd (ds.drop (i + 1)) δ2
      | .rt d => some (.rt d)
      | .rf sd => some (.rf sd)) = some o from e3)
    obtain ⟨o1, e6, e7⟩ := Option.bind_eq_some_iff.mp e5
    refine ⟨g1, fun σ' H' => ∃ S2 δ2, SOk X.prog X.w T B S2 σ' H' δ2 ∧ Same S1 S2 ∧ forL t bd (ds.drop (i + 1)) δ2 = some o, fun σ' H' p => ⟨ds.length - (i + 1), by omega, rfl, hlt, p⟩, fun x H3 y => ?_⟩
    obtain ⟨S3, s3, r3⟩ := g2 x H3 y
    refine ⟨B, S3, δ2, ds[i], δ3, k2.step s3, r3, e4, fun σ4 k4 _ => ⟨B, S3, δ3, o1, k4, e6, ?_⟩⟩
    have ss3 : Same S1 S3 := ss2.trans s3.ss
    cases o1 with
    | nx δ5 => exact fun S5 σ5 H5 k5 ss5 => ⟨S5, δ5, k5, ss3.trans ss5, e7⟩
    | rt d => cases e7; exact q.mono ss3
    | rf d => cases e7; exact q.mono ss3
  · have ei : i = ds.length := by omega
    subst ei
    refine .inl ⟨ok.stop _ S2 H2 k2.okk ss2 (Nat.le_refl _), ?_⟩
    rw [List.drop_length] at e3
    cases e3
    exact q S2 σ2 H2 k2 ss2
theorem pns_for (hp : PassesOwn (model X.prog X.w) X.A X.env X.xe) (hc : X.calm = true) (hi : PIN T X tg e fa) (hg : PGd T X tg is t) (hb : PSsd T X body bd) (hr : PSsd T X rest G)
    (hs : ∀ x, foldedSetIterable e X.env x = pure x := by intro _; rfl) : PNS T X (.For tg e body [] pos :: rest) (nfor fa t bd G) := by
  refine PSs_imp (pss_cons (ps_for hp hc hi hg hb hs) hr) fun D σ H q => ?_
  obtain ⟨B, S, δ, ρ, post, k, hf, q⟩ := q
  refine ⟨B, S, δ, ρ, _, k, hf, fun J ds S1 H1 s1 ok ⟨d, e1, hpd⟩ => ?_⟩
  have k1 := k.step s1
  have nt := k1.ntB
  obtain ⟨i, gg, m, hi, so⟩ := k1.so
  obtain ⟨o, e2, e3⟩ := Option.bind_eq_some_iff.mp e1
  refine for_core so ok e2 ?_
  have fin : ∀ v S' H', Step T B.1 (upd B.2 ρ.r (.lst [.ref ρ.a, .int i, .int gg, .int m])) S' H' → Rp X.prog X.w S' v d → D.rt v H' := by
    intro v S' H' s r
    obtain ⟨h1, h2, h3⟩ := SR.out k1.nb k1.ok k1.sq k1.ar hi nt s
    exact q v d S' H' h1 h2 h3 r hpd
  cases o with
  | nx δ' => exact fun S' σ' H' k' ss => ⟨_, S', δ', _, k', e3, fin⟩
  | rt d' => cases e3; exact fin
  | rf d' => cases e3
end
section
variable {P : Program} {w : World} {K : PySem.W.Frag} {mg : Str → Option Value} {base : Heap} {T : List Addr}
variable {x : Str} {st : Stmt} {cdv : Value} {f : Addr} {fd : FuncData} {N ps : List Str} {k : Nat} {g : NF}
theorem cal_N (F : Df K mg x st cdv f fd) (sc : FnScope N ps (defScope st)) (hb : Binds K fd ps [])
    (body : ∀ (A : Around) (outer : List Env) (s : Shared) (H : Hp) (E : XK), Room k (A.deeper (envOfC x (defScope st) s.heap.objs.size f cdv)) → PNS T (bodyCx P w K mg base N x st f cdv A outer s H E) (defBody st) g) :
    Cal P w K mg base (k + 1) x (spN P w T K ps.length fun r ds post => g r (startD N.length ds) post) := by
  refine ⟨f, fd, ps, ?_, F.mgf, F.kp, hb⟩
  obtain ⟨oc, od, kV, doc, pm, an, ct, osl, rfl, lk, hcd⟩ := F.ex
  refine fn_of lk hcd sc (fun vs H Q E h => h.1) fun A outer s H vs Q E hr hsp => ?_
  refine ⟨_, (body A outer s H E hr).nox, ?_⟩
  obtain ⟨_, S, ds, ρ, post, kk, n, R, r, hA, q⟩ := hsp
  exact ⟨(S, del H ρ.r), S, startD N.length ds, ρ, post, SR.enter kk n R r, hA, fun v d S' H' s n' R' r' hp => q v d S' H' ⟨s, n', R'⟩ r' hp⟩
end
end Gd

set_option maxHeartbeats 2000000
/-! GdZ3: printed by gen.py. -/
namespace Gd
open PySem PySem.Spec PyProof.Rows L2
variable {P : Program} {w : World} {K : PySem.W.Frag} {mg : Str → Option Value} {base : Heap} {T : List Addr}
def s_law_pick : Stmt := topS 37
theorem sc_law_pick : FnScope ["_law_row_here", "_law_things"] ["_law_row_here", "_law_things"] (defScope s_law_pick) := fnScope_by (by decide +kernel)
def W_law_pick : NF :=
  n2 ixD (nd (dv 1)) (ntk (dv 0) (dl lenD (ac (dv 1) (an))))
def A_law_pick : Addr → List D → (D → Prop) → Prop := fun r ds post => W_law_pick r (startD 2 ds) post
theorem ok_law_pick {cdv : Value} {f : Addr} {fd : FuncData} (Mb : Bn mg) (c_law_taken : Cal P w K mg base 1 "_law_taken" (spTk K)) (F : Df K mg "_law_pick" s_law_pick cdv f fd) : Cal P w K mg base 2 "_law_pick" (spN P w T K 2 A_law_pick) :=
  cal_N F sc_law_pick (F.binds (ps := ["_law_row_here", "_law_things"]) fun _ _ _ _ _ _ us hl => match us, hl with | [_, _], _ => rfl) fun A outer s H E hr =>
    show PNS T _ (defBody s_law_pick) W_law_pick from
    (pns_ret (pn_ix hr (pn_d (pd_v 1 (pv 1))) (pn_tk c_law_taken hr (by decide) (by rfl) (pd_v 0 (pv 0)) (pd_callB cr_len (by rfl) Mb.b_len (by rfl) (pa_c (pd_v 1 (pv 1)) pa_n)))))
def s_law_grouping : Stmt := topS 41
theorem sc_law_grouping : FnScope ["_law_row_here", "_law_size", "_law_many", "_law_person"] ["_law_row_here", "_law_size"] (defScope s_law_grouping) := fnScope_by (by decide +kernel)
def W_law_grouping : NF :=
  nset 2 (n2 addD (nd (dc (.int 1))) (ntk (dv 0) (dv 1))) (nfn 1 A_law_lots (nac (nlc [3] (nit (irg1 (dv 1))) (tg1 3) (ntk (dv 0) (dv 2))) (nan)))
def A_law_grouping : Addr → List D → (D → Prop) → Prop := fun r ds post => W_law_grouping r (startD 4 ds) post
theorem ok_law_grouping {cdv : Value} {f : Addr} {fd : FuncData} (Mb : Bn mg) (c_law_lots : Cal P w K mg base 1 "_law_lots" (spD P w T 1 A_law_lots)) (c_law_taken : Cal P w K mg base 1 "_law_taken" (spTk K)) (F : Df K mg "_law_grouping" s_law_grouping cdv f fd) : Cal P w K mg base 2 "_law_grouping" (spN P w T K 2 A_law_grouping) :=
  cal_N F sc_law_grouping (F.binds (ps := ["_law_row_here", "_law_size"]) fun _ _ _ _ _ _ us hl => match us, hl with | [_, _], _ => rfl) fun A outer s H E hr =>
    show PNS T _ (defBody s_law_grouping) W_law_grouping from
    (pns_set (i := 2) sc_law_grouping.nd rfl (by first | exact .inl rfl | exact .inr rfl) (pn_op or_add (pn_d pd_int) (pn_tk c_law_taken hr (by decide) (by rfl) (pd_v 0 (pv 0)) (pd_v 1 (pv 1)))) (pns_ret (pn_fn c_law_lots hr (by decide) (by rfl) (pna_c (pn_lc (own := [("_law_person", 3)]) rfl sc_law_grouping.nd (pin_d (pi_rg1 (by rfl) Mb.b_range (pd_v 1 (pv 1)))) (blkOk_by (by kernel_rfl)) (fun _ _ _ _ _ => (pgd_1 (i := 3) sc_law_grouping.nd rfl (by first | exact .inl rfl | exact .inr rfl))) (fun _ _ _ _ _ => (pn_tk c_law_taken hr (by decide) (by rfl) (pd_v 0 (pv 0)) (pd_v 2 (pv 2))))) pna_n))))
def s_law_row : Stmt := topS 45
theorem sc_law_row : FnScope ["_law_row_here", "_law_size", "_law_most", "_law_steps_here", "_law_k"] ["_law_row_here", "_law_size", "_law_most"] (defScope s_law_row) := fnScope_by (by decide +kernel)
def W_law_row : NF :=
  npu (sset 3 (dfn 1 A_law_steps (ac (dv 1) (an)))) (nl tupleD (nac (nlc [4] (nrg (ntk (dv 0) (d2 addD (dv 2) (dc (.int 1))))) (tg1 4) (ncl 2 A_law_pick (ac (dv 0) (ac (dv 3) (an))))) (nan)))
def A_law_row : Addr → List D → (D → Prop) → Prop := fun r ds post => W_law_row r (startD 5 ds) post
theorem ok_law_row {cdv : Value} {f : Addr} {fd : FuncData} (Mb : Bn mg) (c_law_pick : Cal P w K mg base 2 "_law_pick" (spN P w T K 2 A_law_pick)) (c_law_steps : Cal P w K mg base 1 "_law_steps" (spD P w T 1 A_law_steps)) (c_law_taken : Cal P w K mg base 1 "_law_taken" (spTk K)) (F : Df K mg "_law_row" s_law_row cdv f fd) : Cal P w K mg base 3 "_law_row" (spN P w T K 3 A_law_row) :=
  cal_N F sc_law_row (F.binds (ps := ["_law_row_here", "_law_size", "_law_most"]) fun _ _ _ _ _ _ us hl => match us, hl with | [_, _, _], _ => rfl) fun A outer s H E hr =>
    show PNS T _ (defBody s_law_row) W_law_row from
    (pns_pure (psd_set (i := 3) sc_law_row.nd rfl (by first | exact .inl rfl | exact .inr rfl) (pd_fn c_law_steps hr (by decide) (by rfl) (pa_c (pd_v 1 (pv 1)) pa_n))) (pns_ret (pn_callTy cr_tuple (by rfl) Mb.b_tuple (by rfl) (pna_c (pn_lc (own := [("_law_k", 4)]) rfl sc_law_row.nd (pin_rg1 (by rfl) Mb.b_range (pn_tk c_law_taken hr (by decide) (by rfl) (pd_v 0 (pv 0)) (pd_op or_add (pd_v 2 (pv 2)) pd_int))) (blkOk_by (by kernel_rfl)) (fun _ _ _ _ _ => (pgd_1 (i := 4) sc_law_row.nd rfl (by first | exact .inl rfl | exact .inr rfl))) (fun _ _ _ _ _ => (pn_cl c_law_pick hr (by decide) (by rfl) (pa_c (pd_v 0 (pv 0)) (pa_c (pd_v 3 (pv 3)) pa_n))))) pna_n))))
end Gd

set_option maxHeartbeats 2000000
/-! GdZ4: printed by gen.py. -/
namespace Gd
open PySem PySem.Spec PyProof.Rows L2
variable {P : Program} {w : World} {K : PySem.W.Frag} {mg : Str → Option Value} {base : Heap} {T : List Addr}
/-- law(script) -/
def spLaw (T : List Addr) (K : PySem.W.Frag) : Sp := fun vs H Q _ => ∃ (a : Addr) (ns : List Int), vs = [.ref a] ∧ TbOk T H ∧ SqL K H a (ns.map V.int) ∧ ∀ H', Q (.bl true) H'
theorem cal_law {x : Str} {st : Stmt} {cdv : Value} {f : Addr} {fd : FuncData} {N : List Str} {p : Str} {k : Nat} {g : NF} (F : Df K mg x st cdv f fd) (sc : FnScope N [p] (defScope st)) (hb : Binds K fd [p] [])
    (body : ∀ (A : Around) (outer : List Env) (s : Shared) (H : Hp) (E : XK), Room k (A.deeper (envOfC x (defScope st) s.heap.objs.size f cdv)) → PSs (bodyCx P w K mg base N x st f cdv A outer s H E) (defBody st) (tRow P w T K N.length g))
    (hW : ∀ a r, g r ((startD N.length [rawD a]).set 1 (some (.sh (rawD r)))) fun d => d = .bool true) : FnOk P w K mg base CX0 (k + 1) f fd [p] (spLaw T K) := by
  obtain ⟨oc, od, kV, doc, pm, an, ct, osl, rfl, lk, hcd⟩ := F.ex
  refine fn_of lk hcd sc (fun vs H Q E h => by obtain ⟨a, ns, rfl, _⟩ := h; rfl) fun A outer s H vs Q E hr hsp => ?_
  refine ⟨_, (body A outer s H E hr).nox, ?_⟩
  obtain ⟨a, ns, rfl, tb, sq, q⟩ := hsp
  refine ⟨a, ns, N, _, rfl, rfl, tb, sq, fun r => hW a r, fun v d S' H' r e => ?_⟩
  subst e
  cases r
  exact q H'
def s_law : Stmt := topS 48
theorem sc_law : FnScope ["_law_script", "_law_row_here", "_law_size", "_law_prices", "_law_table", "_law_step_here", "_law_is_less", "_law_numbers", "_law_word", "_law_values", "_law_value", "_law_start", "_law_goal", "_law_steps_here", "_law_pairs", "_law_some", "_law_least", "_law_here", "_law_found", "_law_best", "_law_due", "_law_each", "_law_there", "_law_one", "_law_k"] ["_law_script"] (defScope s_law) := fnScope_by (by decide +kernel)
def P_law1 : Sl → Option Out :=
  sown 4 (fun _ => some (.own []))
def P_law2 : Sl → Option Out :=
  sfor (iseq (dv 13)) (tg1 5) (andT (sset 14 (dlc [21] (iseq (dv 13)) (tg1 21) (tb (d2 eqD (dl lenD (ac (dv 21) (an))) (dc (.int 2)))) (dv 21))) (sput 4 (dv 5) (dif (tb (d2 eqD (dl lenD (ac (dv 5) (an))) (dc (.int 1)))) (d2 ixD (d2 ixD (dv 3) (dc (.int 0))) (d2 ixD (dv 5) (dc (.int 0)))) (d2 ixD (d2 ixD (dv 3) (dc (.int 1))) (didx (dv 14) (dv 5))))))
def P_law3 : Sl → Option Out :=
  spar [15, 16] (aoc (dfn 1 A_law_groupings (ac (dv 2) (an))) (aof (fd1 (dv 12) (dc (.int 0))) (aon)))
def P_law4 : Sl → Option Out :=
  sset 6 (dc (.bool true))
def P_law5 : Sl → Option Out :=
  swh fuel (tb (dv 6)) (andT (sset 6 (dc (.bool false))) (sfor (iseq (dv 15)) (tg1 17) (sfor (iseq (dv 13)) (tg1 5) (andT (sset 22 (dfn 2 A_law_step (ac (dv 17) (ac (dv 5) (an))))) (sif (tand (tinO 16 id (dv 22)) (tor (tinO 16 not (dv 17)) (tb (d2 ltD (d2 addD (dixO 16 (dv 22)) (dixO 4 (dv 5))) (dixO 16 (dv 17)))))) (andT (sput 16 (dv 17) (d2 addD (dixO 16 (dv 22)) (dixO 4 (dv 5)))) (sset 6 (dc (.bool true)))) (snil))))))
def P_law6 : Sl → Option Out :=
  sset 7 (dl tupleD (ac (dlc [23] (iseq (dv 15)) (tg1 23) (tyes) (dixO 16 (dv 23))) (an)))
def P_law7 : Sl → Option Out :=
  sif (tnot (tb (dfn 2 A2_law_alike (ac (dfn 2 A_worths (ac (dv 12) (ac (dv 3) (an)))) (ac (dv 7) (an)))))) (sret (dc (.bool false))) (snil)
def P_law8 : Sl → Option Out :=
  spar [18, 19] (aoc (dfn 3 A_cheap_row (ac (dv 11) (ac (dv 12) (ac (dv 3) (an))))) (aoc (dixO 16 (dv 11)) (aon)))
def P_law9 : Sl → Option Out :=
  sif (tor (tnot (tb (d1 (isiD .tuple) (dv 18)))) (tor (tb (d2 neD (dl lenD (ac (dv 18) (an))) (dc (.int 2)))) (tor (tb (d2 neD (d2 ixD (dv 18) (dc (.int 0))) (dv 19))) (tor (tnot (tb (d1 (isiD .tuple) (d2 ixD (dv 18) (dc (.int 1)))))) (tb (d2 gtD (dl lenD (ac (d2 ixD (dv 18) (dc (.int 1))) (an))) (dc (.int 300)))))))) (sret (dc (.bool false))) (snil)
def P_law10 : Sl → Option Out :=
  sset 8 (d2 ixD (dv 18) (dc (.int 1)))
def P_law11 : Sl → Option Out :=
  sset 9 (dl mkL (ac (dv 18) (ac (dl listD (ac (dv 18) (an))) (ac (dl mkT (ac (dv 19) (ac (dl listD (ac (dv 8) (an))) (an)))) (ac (dl mkT (ac (d2 addD (dv 19) (dc (.int 1))) (ac (dv 8) (an)))) (ac (dl mkT (ac (dv 19) (ac (dsl (dv 8) (ps1 (dc (.int 1))) (pn)) (an)))) (ac (dl mkT (ac (dv 19) (ac (d2 addD (dv 8) (dl mkT (ac (dl mkT (ac (dc (.int 0)) (an))) (an)))) (an)))) (ac (dl mkT (ac (dv 19) (ac (dl mkT (an)) (an)))) (ac (dc .none) (ac (dc (.int 3)) (ac (dl mkT (ac (dv 19) (ac (dl mkT (ac (dl mkT (ac (dv 2) (an))) (an))) (an)))) (an))))))))))))
def P_law12 : Sl → Option Out :=
  andT (sset 20 (dand (d1 (isiD .tuple) (dv 10)) (dand (d2 eqD (dl lenD (ac (dv 10) (an))) (dc (.int 2))) (dand (d2 eqD (d2 ixD (dv 10) (dc (.int 0))) (dv 19)) (d1 (isiD .tuple) (d2 ixD (dv 10) (dc (.int 1)))))))) (andT (sset 20 (dand (dv 20) (dand (d2 leD (dl lenD (ac (d2 ixD (dv 10) (dc (.int 1))) (an))) (dc (.int 300))) (d2 eqD (dlc [5] (iseq (d2 ixD (dv 10) (dc (.int 1)))) (tg1 5) (tb (d2 notinD (dv 5) (dv 13))) (dv 5)) (dl mkL (an)))))) (andT (sset 20 (dand (dv 20) (dand (d2 eqD (dfn 2 A_law_done (ac (dv 11) (ac (d2 ixD (dv 10) (dc (.int 1))) (an)))) (dv 12)) (d2 eqD (dl sumD (ac (dlc [5] (iseq (d2 ixD (dv 10) (dc (.int 1)))) (tg1 5) (tyes) (dixO 4 (dv 5))) (an))) (dv 19))))) (sif (tnot (tb (dfn 2 A2_law_alike (ac (dfn 4 A_shows_cheap_row (ac (dv 11) (ac (dv 12) (ac (dv 3) (ac (dv 10) (an)))))) (ac (dv 20) (an)))))) (sret (dc (.bool false))) (snil))))
def P_law13 : Sl → Option Out :=
  andT (sif (tb (d2 isntD (dfn 4 A_shows_cheap_row (ac (dv 11) (ac (dv 12) (ac (dv 3) (ac (dv 18) (an)))))) (dc (.bool true)))) (sret (dc (.bool false))) (snil)) (sfrz 4 (sret (dfn 6 A_law_papers (ac (dv 11) (ac (dv 12) (ac (dv 3) (ac (dv 4) (ac (dv 7) (ac (dv 19) (an))))))))))
def W_law : NF :=
  nset 2 (n2 addD (nd (dc (.int 1))) (ntk (dv 1) (dc (.int 4)))) (npar3 11 12 13 (nac (ncl 2 A_law_grouping (ac (dv 1) (ac (dv 2) (an)))) (nac (ncl 2 A_law_grouping (ac (dv 1) (ac (dv 2) (an)))) (nac (nd (dfn 1 A_law_steps (ac (dv 2) (an)))) (nan)))) (nset 3 (nl mkT (nac (nl tupleD (nac (nlc [24] (nit (irg1 (dv 2))) (tg1 24) (ntk (dv 1) (dc (.int 8)))) (nan))) (nac (nl tupleD (nac (nlc [24] (nit (irg1 (d2 fdivD (d2 mulD (dv 2) (d2 subD (dv 2) (dc (.int 1)))) (dc (.int 2))))) (tg1 24) (ntk (dv 1) (dc (.int 8)))) (nan))) (nan)))) (npu (P_law1) (npu (P_law2) (npu (P_law3) (npu (P_law4) (npu (P_law5) (npu (P_law6) (npu (P_law7) (npu (P_law8) (npu (P_law9) (npu (P_law10) (npu (P_law11) (nfor (nsq (n2 addD (nd (dv 9)) (nl mkL (nac (nl mkT (nac (nd (dv 19)) (nac (ncl 3 A_law_row (ac (dv 1) (ac (dv 2) (ac (dc (.int 4)) (an))))) (nan)))) (nac (nd (dl mkT (ac (dv 19) (ac (d1 revD (dv 8)) (an))))) (nan)))))) (tg1 10) (P_law12) (P_law13)))))))))))))))
theorem ok_law {cdv : Value} {f : Addr} {fd : FuncData} (hW : ∀ a r, W_law r ((startD 25 [rawD a]).set 1 (some (.sh (rawD r)))) fun d => d = .bool true) (Mb : Bn mg) (Mc : Cn mg) (c_law_alike : Cal P w K mg base 3 "_law_alike" (spD P w T 2 A2_law_alike)) (c_law_done : Cal P w K mg base 3 "_law_done" (spD P w T 2 A_law_done)) (c_law_grouping : Cal P w K mg base 2 "_law_grouping" (spN P w T K 2 A_law_grouping)) (c_law_groupings : Cal P w K mg base 2 "_law_groupings" (spD P w T 1 A_law_groupings)) (c_law_papers : Cal P w K mg base 14 "_law_papers" (spD P w T 6 A_law_papers)) (c_law_row : Cal P w K mg base 3 "_law_row" (spN P w T K 3 A_law_row)) (c_law_step : Cal P w K mg base 2 "_law_step" (spD P w T 2 A_law_step)) (c_law_steps : Cal P w K mg base 1 "_law_steps" (spD P w T 1 A_law_steps)) (c_law_taken : Cal P w K mg base 1 "_law_taken" (spTk K)) (c_cheap_row : Cal P w K mg base 13 "cheap_row" (spD P w T 3 A_cheap_row)) (c_shows_cheap_row : Cal P w K mg base 13 "shows_cheap_row" (spD P w T 4 A_shows_cheap_row)) (c_worths : Cal P w K mg base 11 "worths" (spD P w T 2 A_worths)) (F : Df K mg "law" s_law cdv f fd) : FnOk P w K mg base CX0 15 f fd ["_law_script"] (spLaw T K) :=
  cal_law F sc_law (F.binds (ps := ["_law_script"]) fun _ _ _ _ _ _ us hl => match us, hl with | [_], _ => rfl) (fun A outer s H E hr =>
    show PSs _ (defBody s_law) (tRow P w T K 25 W_law) from
    pss_row sc_law.nd rfl (by first | exact .inl rfl | exact .inr rfl) (pv 0) (pns_set (i := 2) sc_law.nd rfl (by first | exact .inl rfl | exact .inr rfl) (pn_op or_add (pn_d pd_int) (pn_tk c_law_taken hr (by decide) (by rfl) (pd_v 1 (pv 1)) pd_int)) (pns_parC3 (i := 11) (j := 12) (l := 13) rfl sc_law.nd rfl rfl rfl (by first | exact .inl rfl | exact .inr rfl) (by first | exact .inl rfl | exact .inr rfl) (by first | exact .inl rfl | exact .inr rfl) (pna_c (pn_cl c_law_grouping hr (by decide) (by rfl) (pa_c (pd_v 1 (pv 1)) (pa_c (pd_v 2 (pv 2)) pa_n))) (pna_c (pn_cl c_law_grouping hr (by decide) (by rfl) (pa_c (pd_v 1 (pv 1)) (pa_c (pd_v 2 (pv 2)) pa_n))) (pna_c (pn_d (pd_fn c_law_steps hr (by decide) (by rfl) (pa_c (pd_v 2 (pv 2)) pa_n))) pna_n))) (pns_set (i := 3) sc_law.nd rfl (by first | exact .inl rfl | exact .inr rfl) (pn_tup (pna_c (pn_callTy cr_tuple (by rfl) Mb.b_tuple (by rfl) (pna_c (pn_lc (own := [("_law_k", 24)]) rfl sc_law.nd (pin_d (pi_rg1 (by rfl) Mb.b_range (pd_v 2 (pv 2)))) (blkOk_by (by kernel_rfl)) (fun _ _ _ _ _ => (pgd_1 (i := 24) sc_law.nd rfl (by first | exact .inl rfl | exact .inr rfl))) (fun _ _ _ _ _ => (pn_tk c_law_taken hr (by decide) (by rfl) (pd_v 1 (pv 1)) pd_int))) pna_n)) (pna_c (pn_callTy cr_tuple (by rfl) Mb.b_tuple (by rfl) (pna_c (pn_lc (own := [("_law_k", 24)]) rfl sc_law.nd (pin_d (pi_rg1 (by rfl) Mb.b_range (pd_op or_fdiv (pd_op or_mul (pd_v 2 (pv 2)) (pd_op or_sub (pd_v 2 (pv 2)) pd_int)) pd_int))) (blkOk_by (by kernel_rfl)) (fun _ _ _ _ _ => (pgd_1 (i := 24) sc_law.nd rfl (by first | exact .inl rfl | exact .inr rfl))) (fun _ _ _ _ _ => (pn_tk c_law_taken hr (by decide) (by rfl) (pd_v 1 (pv 1)) pd_int))) pna_n)) pna_n))) (pns_pure (psd_own (i := 4) sc_law.nd rfl (by first | exact .inl rfl | exact .inr rfl) pf_dn) (pns_pure (psd_for PassesOwn.never rfl (pi_seq (pd_v 13 (pv 13))) (pgd_1 (i := 5) sc_law.nd rfl (by first | exact .inl rfl | exact .inr rfl)) (pssd_cons (psd_setLc (i := 14) (own := [("_law_each", 21)]) rfl sc_law.nd rfl rfl (sw_true rfl rfl rfl rfl) (pi_seq (pd_v 13 (pv 13))) (blkOk_by (by kernel_rfl)) (fun _ _ _ _ _ => (pgd_1 (i := 21) sc_law.nd rfl (by first | exact .inl rfl | exact .inr rfl))) (fun _ _ _ _ _ => (ptsd_one (pt_cmp' (or_eq hr) (pd_callB cr_len (by rfl) Mb.b_len (by rfl) (pa_c (pd_v 21 (pv 21)) pa_n)) pd_int))) (fun _ _ _ _ _ => (pd_v 21 (pv 21)))) (pssd_one (psd_put hr 4 (pv 4) (pd_v 5 (pv 5)) (pd_if (pt_cmp' (or_eq hr) (pd_callB cr_len (by rfl) Mb.b_len (by rfl) (pa_c (pd_v 5 (pv 5)) pa_n)) pd_int) (pd_ix hr (pd_ix hr (pd_v 3 (pv 3)) pd_int) (pd_ix hr (pd_v 5 (pv 5)) pd_int)) (pd_ix hr (pd_ix hr (pd_v 3 (pv 3)) pd_int) (pd_index (p1 := ⟨0, 0, 0, 0⟩) hr (pd_v 14 (pv 14)) (pd_v 5 (pv 5))))))))) (pns_pure (psd_parC2 (i := 15) (j := 16) rfl sc_law.nd rfl rfl (by first | exact .inl rfl | exact .inr rfl) (by first | exact .inl rfl | exact .inr rfl) (pao_c (pd_fn c_law_groupings hr (by decide) (by rfl) (pa_c (pd_v 2 (pv 2)) pa_n)) (pao_f (pf_dn1 hr (pd_v 12 (pv 12)) pd_int) pao_n))) (pns_pure (psd_set (i := 6) sc_law.nd rfl (by first | exact .inl rfl | exact .inr rfl) pd_bl) (pns_pure (psd_while fuel PassesOwn.never (pt_b (pd_v 6 (pv 6))) (pssd_cons (psd_set (i := 6) sc_law.nd rfl (by first | exact .inl rfl | exact .inr rfl) pd_bl) (pssd_one (psd_for PassesOwn.never rfl (pi_seq (pd_v 15 (pv 15))) (pgd_1 (i := 17) sc_law.nd rfl (by first | exact .inl rfl | exact .inr rfl)) (pssd_one (psd_for PassesOwn.never rfl (pi_seq (pd_v 13 (pv 13))) (pgd_1 (i := 5) sc_law.nd rfl (by first | exact .inl rfl | exact .inr rfl)) (pssd_cons (psd_set (i := 22) sc_law.nd rfl (by first | exact .inl rfl | exact .inr rfl) (pd_fn c_law_step hr (by decide) (by rfl) (pa_c (pd_v 17 (pv 17)) (pa_c (pd_v 5 (pv 5)) pa_n)))) (pssd_one (psd_if (ptd_w (pw_a (pt_inO hr 16 (.inl ⟨rfl, rfl⟩) (pv 16) (pd_v 22 (pv 22))) (pw_a1 (ptd_w (pw_o (pt_inO hr 16 (.inr ⟨rfl, rfl⟩) (pv 16) (pd_v 17 (pv 17))) (pw_o1 (pt_cmp' (or_lt hr) (pd_op or_add (pd_ixO hr 16 (pv 16) (pd_v 22 (pv 22))) (pd_ixO hr 4 (pv 4) (pd_v 5 (pv 5)))) (pd_ixO hr 16 (pv 16) (pd_v 17 (pv 17)))))))))) (pssd_cons (psd_put hr 16 (pv 16) (pd_v 17 (pv 17)) (pd_op or_add (pd_ixO hr 16 (pv 16) (pd_v 22 (pv 22))) (pd_ixO hr 4 (pv 4) (pd_v 5 (pv 5))))) (pssd_one (psd_set (i := 6) sc_law.nd rfl (by first | exact .inl rfl | exact .inr rfl) pd_bl))) pssd_nil))))))))) (pns_pure (psd_set (i := 7) sc_law.nd rfl (by first | exact .inl rfl | exact .inr rfl) (pd_callTy cr_tuple (by rfl) Mb.b_tuple (by rfl) (pa_c (pd_flc (pf_lc (own := [("_law_one", 23)]) rfl sc_law.nd (pi_seq (pd_v 15 (pv 15))) (blkOk_by (by kernel_rfl)) (fun _ _ _ _ _ => (pgd_1 (i := 23) sc_law.nd rfl (by first | exact .inl rfl | exact .inr rfl))) (fun _ _ _ _ _ => ptsd_nil) (fun _ _ _ _ _ => (pd_ixO hr 16 (pv 16) (pd_v 23 (pv 23)))))) pa_n))) (pns_pure (psd_if (pt_n (pt_b (pd_fn c_law_alike hr (by decide) (by rfl) (pa_c (pd_fn c_worths hr (by decide) (by rfl) (pa_c (pd_v 12 (pv 12)) (pa_c (pd_v 3 (pv 3)) pa_n))) (pa_c (pd_v 7 (pv 7)) pa_n))))) (pssd_one (psd_ret pd_bl)) pssd_nil) (pns_pure (psd_par2 (i := 18) (j := 19) rfl sc_law.nd rfl rfl (by decide) rfl rfl (pao_c (pd_fn c_cheap_row hr (by decide) (by rfl) (pa_c (pd_v 11 (pv 11)) (pa_c (pd_v 12 (pv 12)) (pa_c (pd_v 3 (pv 3)) pa_n)))) (pao_c (pd_ixO hr 16 (pv 16) (pd_v 11 (pv 11))) pao_n)) (by rfl)) (pns_pure (psd_if (ptd_w (pw_o (pt_n (pt_b (pd_isi .tuple (by rfl) Mb.b_isinstance (by rfl) Mb.b_tuple (by rfl) (pd_v 18 (pv 18))))) (pw_o (pt_cmp' (or_ne hr) (pd_callB cr_len (by rfl) Mb.b_len (by rfl) (pa_c (pd_v 18 (pv 18)) pa_n)) pd_int) (pw_o (pt_cmp' (or_ne hr) (pd_ix hr (pd_v 18 (pv 18)) pd_int) (pd_v 19 (pv 19))) (pw_o (pt_n (pt_b (pd_isi .tuple (by rfl) Mb.b_isinstance (by rfl) Mb.b_tuple (by rfl) (pd_ix hr (pd_v 18 (pv 18)) pd_int)))) (pw_o1 (pt_cmp' or_gt (pd_callB cr_len (by rfl) Mb.b_len (by rfl) (pa_c (pd_ix hr (pd_v 18 (pv 18)) pd_int) pa_n)) pd_int))))))) (pssd_one (psd_ret pd_bl)) pssd_nil) (pns_pure (psd_set (i := 8) sc_law.nd rfl (by first | exact .inl rfl | exact .inr rfl) (pd_ix hr (pd_v 18 (pv 18)) pd_int)) (pns_pure (psd_set (i := 9) sc_law.nd rfl (by first | exact .inl rfl | exact .inr rfl) (pd_lst (pa_c (pd_v 18 (pv 18)) (pa_c (pd_callTy cr_list (by rfl) Mb.b_list (by rfl) (pa_c (pd_v 18 (pv 18)) pa_n)) (pa_c (pd_tup (pa_c (pd_v 19 (pv 19)) (pa_c (pd_callTy cr_list (by rfl) Mb.b_list (by rfl) (pa_c (pd_v 8 (pv 8)) pa_n)) pa_n))) (pa_c (pd_tup (pa_c (pd_op or_add (pd_v 19 (pv 19)) pd_int) (pa_c (pd_v 8 (pv 8)) pa_n))) (pa_c (pd_tup (pa_c (pd_v 19 (pv 19)) (pa_c (pd_slice (pd_v 8 (pv 8)) (po_s pd_int) po_n) pa_n))) (pa_c (pd_tup (pa_c (pd_v 19 (pv 19)) (pa_c (pd_op or_add (pd_v 8 (pv 8)) (pd_tup (pa_c (pd_tup (pa_c pd_int pa_n)) pa_n))) pa_n))) (pa_c (pd_tup (pa_c (pd_v 19 (pv 19)) (pa_c (pd_tup pa_n) pa_n))) (pa_c pd_non (pa_c pd_int (pa_c (pd_tup (pa_c (pd_v 19 (pv 19)) (pa_c (pd_tup (pa_c (pd_tup (pa_c (pd_v 2 (pv 2)) pa_n)) pa_n)) pa_n))) pa_n)))))))))))) (pns_for PassesOwn.never rfl (pin_seq (pn_op or_add (pn_d (pd_v 9 (pv 9))) (pn_lst (pna_c (pn_tup (pna_c (pn_d (pd_v 19 (pv 19))) (pna_c (pn_cl c_law_row hr (by decide) (by rfl) (pa_c (pd_v 1 (pv 1)) (pa_c (pd_v 2 (pv 2)) (pa_c pd_int pa_n)))) pna_n))) (pna_c (pn_d (pd_tup (pa_c (pd_v 19 (pv 19)) (pa_c (pd_rev (pd_v 8 (pv 8))) pa_n)))) pna_n))))) (pgd_1 (i := 10) sc_law.nd rfl (by first | exact .inl rfl | exact .inr rfl)) (pssd_cons (psd_set (i := 20) sc_law.nd rfl (by first | exact .inl rfl | exact .inr rfl) (pd_and (pd_isi .tuple (by rfl) Mb.b_isinstance (by rfl) Mb.b_tuple (by rfl) (pd_v 10 (pv 10))) (pd_and (pd_cmp (or_eq hr) (pd_callB cr_len (by rfl) Mb.b_len (by rfl) (pa_c (pd_v 10 (pv 10)) pa_n)) pd_int) (pd_and (pd_cmp (or_eq hr) (pd_ix hr (pd_v 10 (pv 10)) pd_int) (pd_v 19 (pv 19))) (pd_b1 (pd_isi .tuple (by rfl) Mb.b_isinstance (by rfl) Mb.b_tuple (by rfl) (pd_ix hr (pd_v 10 (pv 10)) pd_int))))))) (pssd_cons (psd_set (i := 20) sc_law.nd rfl (by first | exact .inl rfl | exact .inr rfl) (pd_and (pd_v 20 (pv 20)) (pd_and (pd_cmp or_le (pd_callB cr_len (by rfl) Mb.b_len (by rfl) (pa_c (pd_ix hr (pd_v 10 (pv 10)) pd_int) pa_n)) pd_int) (pd_b1 (pd_cmp (or_eq hr) (pd_flc (pf_lc (own := [("_law_step_here", 5)]) rfl sc_law.nd (pi_seq (pd_ix hr (pd_v 10 (pv 10)) pd_int)) (blkOk_by (by kernel_rfl)) (fun _ _ _ _ _ => (pgd_1 (i := 5) sc_law.nd rfl (by first | exact .inl rfl | exact .inr rfl))) (fun _ _ _ _ _ => (ptsd_one (pt_cmp' (or_notin hr) (pd_v 5 (pv 5)) (pd_v 13 (pv 13))))) (fun _ _ _ _ _ => (pd_v 5 (pv 5))))) (pd_lst pa_n)))))) (pssd_cons (psd_set (i := 20) sc_law.nd rfl (by first | exact .inl rfl | exact .inr rfl) (pd_and (pd_v 20 (pv 20)) (pd_and (pd_cmp (or_eq hr) (pd_fn c_law_done hr (by decide) (by rfl) (pa_c (pd_v 11 (pv 11)) (pa_c (pd_ix hr (pd_v 10 (pv 10)) pd_int) pa_n))) (pd_v 12 (pv 12))) (pd_b1 (pd_cmp (or_eq hr) (pd_callB (cr_sumD rfl) (by rfl) Mb.b_sum (by rfl) (pa_c (pd_flc (pf_lc (own := [("_law_step_here", 5)]) rfl sc_law.nd (pi_seq (pd_ix hr (pd_v 10 (pv 10)) pd_int)) (blkOk_by (by kernel_rfl)) (fun _ _ _ _ _ => (pgd_1 (i := 5) sc_law.nd rfl (by first | exact .inl rfl | exact .inr rfl))) (fun _ _ _ _ _ => ptsd_nil) (fun _ _ _ _ _ => (pd_ixO hr 4 (pv 4) (pd_v 5 (pv 5)))))) pa_n)) (pd_v 19 (pv 19))))))) (pssd_one (psd_if (pt_n (pt_b (pd_fn c_law_alike hr (by decide) (by rfl) (pa_c (pd_fn c_shows_cheap_row hr (by decide) (by rfl) (pa_c (pd_v 11 (pv 11)) (pa_c (pd_v 12 (pv 12)) (pa_c (pd_v 3 (pv 3)) (pa_c (pd_v 10 (pv 10)) pa_n))))) (pa_c (pd_v 20 (pv 20)) pa_n))))) (pssd_one (psd_ret pd_bl)) pssd_nil))))) (pssd_cons (psd_if (pt_cmp' or_isnt (pd_fn c_shows_cheap_row hr (by decide) (by rfl) (pa_c (pd_v 11 (pv 11)) (pa_c (pd_v 12 (pv 12)) (pa_c (pd_v 3 (pv 3)) (pa_c (pd_v 18 (pv 18)) pa_n))))) pd_bl) (pssd_one (psd_ret pd_bl)) pssd_nil) (pssd_one (psd_frz 4 (psd_ret (pd_fn c_law_papers hr (by decide) (by rfl) (pa_c (pd_v 11 (pv 11)) (pa_c (pd_v 12 (pv 12)) (pa_c (pd_v 3 (pv 3)) (pa_c (pd_v 4 (pv 4)) (pa_c (pd_v 7 (pv 7)) (pa_c (pd_v 19 (pv 19)) pa_n))))))))))))))))))))))))))) hW
end Gd

set_option maxHeartbeats 2000000
/-! GmA: groupings and steps of up to four people. -/
namespace Gd
open PySem PySem.Spec PyProof.Rows L2
mutual
/-- the same data -/
def deq : D → D → Bool
  | .none, .none => true
  | .bool a, .bool b => a == b
  | .int a, .int b => decide (a = b)
  | .list xs, .list ys => deqs xs ys
  | .tuple xs, .tuple ys => deqs xs ys
  | _, _ => false
def deqs : List D → List D → Bool
  | [], [] => true
  | x :: xs, y :: ys => deq x y && deqs xs ys
  | _, _ => false
end
mutual
theorem deq_eq : ∀ {x y : D}, deq x y = true → x = y
  | .none, y, h => by cases y <;> first | rfl | cases h
  | .bool a, y, h => by
    cases y <;> first | cases h | skip
    have h : (a == _) = true := h
    rw [eq_of_beq h]
  | .int a, y, h => by
    cases y <;> first | cases h | skip
    have h := of_decide_eq_true h
    rw [h]
  | .str s, y, h => by cases y <;> cases h
  | .list xs, y, h => by
    cases y <;> first | cases h | skip
    rw [deqs_eq h]
  | .tuple xs, y, h => by
    cases y <;> first | cases h | skip
    rw [deqs_eq h]
  | .dict kvs, y, h => by cases y <;> cases h
theorem deqs_eq : ∀ {x y : List D}, deqs x y = true → x = y
  | [], [], _ => rfl
  | [], _ :: _, h => by cases h
  | _ :: _, [], h => by cases h
  | x :: xs, y :: ys, h => by
    have h : (deq x y && deqs xs ys) = true := h
    rw [Bool.and_eq_true] at h
    rw [deq_eq h.1, deqs_eq h.2]
end
def odeq : Option D → D → Bool
  | some x, y => deq x y
  | none, _ => false
theorem odeq_eq {x : Option D} {y : D} (h : odeq x y = true) : x = some y := by
  cases x with
  | none => cases h
  | some x => rw [deq_eq (show deq x y = true from h)]
def dT (xs : List Nat) : D := .tuple (xs.map fun (i : Nat) => PyData.int i)
def dG (xs : List (List Nat)) : D := .tuple (xs.map dT)
/-- the groupings of n people, sorted; the steps -/
def GR : Nat → List D
  | 1 => [dG [[0]]]
  | 2 => [dG [[0], [1]], dG [[0, 1]]]
  | 3 => [dG [[0], [1], [2]], dG [[0], [1, 2]], dG [[0, 1], [2]], dG [[0, 1, 2]], dG [[0, 2], [1]]]
  | 4 => [dG [[0], [1], [2], [3]], dG [[0], [1], [2, 3]], dG [[0], [1, 2], [3]], dG [[0], [1, 2, 3]], dG [[0], [1, 3], [2]], dG [[0, 1], [2], [3]], dG [[0, 1], [2, 3]], dG [[0, 1, 2], [3]], dG [[0, 1, 2, 3]], dG [[0, 1, 3], [2]], dG [[0, 2], [1], [3]], dG [[0, 2], [1, 3]], dG [[0, 2, 3], [1]], dG [[0, 3], [1], [2]], dG [[0, 3], [1, 2]]]
  | _ => []
def ST : Nat → List D
  | 1 => [dT [0]]
  | 2 => [dT [0], dT [0, 1], dT [1]]
  | 3 => [dT [0], dT [0, 1], dT [0, 2], dT [1], dT [1, 2], dT [2]]
  | 4 => [dT [0], dT [0, 1], dT [0, 2], dT [0, 3], dT [1], dT [1, 2], dT [1, 3], dT [2], dT [2, 3], dT [3]]
  | _ => []
theorem law_groupings_ok : odeq (A_law_groupings [.int 4]) (.list (GR 4)) = true := by decide +kernel
theorem all_groupings_ok : odeq (A_all_groupings [.int 4]) (.list (GR 4)) = true := by decide +kernel
theorem law_steps_ok : odeq (A_law_steps [.int 4]) (.list (ST 4)) = true := by decide +kernel
theorem all_steps_ok : odeq (A_all_steps [.int 4]) (.list (ST 4)) = true := by decide +kernel
end Gd

set_option maxHeartbeats 2000000
/-! GmB: dicts by keys; loops by invariants. -/
namespace Gd
open PySem PySem.Spec PyProof.Rows L2
noncomputable instance dD : DecidableEq PyData := fun _ _ => Classical.propDecidable _
/-! ### dicts whose keys are among G -/
def KeyOk (G : List D) : Prop := ∀ g ∈ G, ∀ h ∈ G, PyData.eqv g h = true ↔ g = h
def KIn (G : List D) (kvs : List (D × D)) : Prop := ∀ p ∈ kvs, p.1 ∈ G
section
variable {G : List D} {kvs : List (D × D)} {k k' v : D}
theorem dget_nil : dget [] k = none := rfl
theorem dget_cons (hk : KeyOk G) {p : D × D} (hp : p.1 ∈ G) (hk' : k ∈ G) : dget (p :: kvs) k = if p.1 = k then some p.2 else dget kvs k := by
  unfold dget
  rw [List.find?_cons]
  by_cases h : p.1 = k
  · rw [if_pos h, (hk p.1 hp k hk').mpr h]; rfl
  · have : PyData.eqv p.1 k = false := by
      cases e : PyData.eqv p.1 k with
      | false => rfl
      | true => exact absurd ((hk p.1 hp k hk').mp e) h
    rw [if_neg h, this]
theorem dget_map (hk : KeyOk G) (hi : KIn G kvs) (h1 : k ∈ G) (h2 : k' ∈ G) : dget (kvs.map fun p => if PyData.eqv p.1 k = true then (p.1, v) else p) k' = if k = k' then (dget kvs k').map fun _ => v else dget kvs k' := by
  induction kvs with
  | nil => rw [List.map_nil]; split <;> rfl
  | cons p kvs ih =>
    have hp : p.1 ∈ G := hi p List.mem_cons_self
    have ih := ih fun q hq => hi q (List.mem_cons_of_mem _ hq)
    rw [List.map_cons, dget_cons hk (by split <;> exact hp) h2, dget_cons hk hp h2, ih]
    by_cases e : PyData.eqv p.1 k = true
    · have e' := (hk p.1 hp k h1).mp e
      rw [if_pos e]
      by_cases z : k = k'
      · have z2 : p.1 = k' := e'.trans z
        rw [if_pos z2, if_pos z2, if_pos z]; rfl
      · have z2 : ¬ p.1 = k' := fun q => z (e'.symm.trans q)
        rw [if_neg z2, if_neg z2, if_neg z]
    · have e' : ¬ p.1 = k := fun q => e ((hk p.1 hp k h1).mpr q)
      rw [if_neg e]
      by_cases z : k = k'
      · have z2 : ¬ p.1 = k' := fun q => e' (q.trans z.symm)
        rw [if_neg z2, if_neg z2]
      · rw [if_neg z, if_neg z]
theorem dget_app (hk : KeyOk G) (hi : KIn G kvs) (h1 : k ∈ G) (h2 : k' ∈ G) (n : dget kvs k = none) : dget (kvs ++ [(k, v)]) k' = if k = k' then some v else dget kvs k' := by
  induction kvs with
  | nil => rw [List.nil_append, dget_cons hk h1 h2]
  | cons p kvs ih =>
    have hp : p.1 ∈ G := hi p List.mem_cons_self
    rw [dget_cons hk hp h1] at n
    split at n
    · cases n
    · rename_i e'
      have ih := ih (fun q hq => hi q (List.mem_cons_of_mem _ hq)) n
      rw [List.cons_append, dget_cons hk hp h2, dget_cons hk hp h2, ih]
      by_cases z : k = k'
      · have z2 : ¬ p.1 = k' := fun q => e' (q.trans z.symm)
        rw [if_neg z2, if_pos z, if_pos z]
      · rw [if_neg z, if_neg z]
theorem dget_dput (hk : KeyOk G) (hi : KIn G kvs) (h1 : k ∈ G) (h2 : k' ∈ G) : dget (dput kvs k v) k' = if k = k' then some v else dget kvs k' := by
  unfold dput
  rw [dget_any]
  by_cases e : (dget kvs k).isSome = true
  · rw [if_pos e, dget_map hk hi h1 h2]
    by_cases z : k = k'
    · subst z
      rw [if_pos rfl, if_pos rfl]
      obtain ⟨d, hd⟩ := Option.isSome_iff_exists.mp e
      rw [hd]; rfl
    · rw [if_neg z, if_neg z]
  · rw [if_neg e]
    refine dget_app hk hi h1 h2 ?_
    cases h : dget kvs k with
    | none => rfl
    | some d => rw [h] at e; exact absurd rfl e
theorem dput_keys (v : D) : keysD (dput kvs k v) = if (dget kvs k).isSome = true then keysD kvs else keysD kvs ++ [k] := by
  unfold dput keysD
  rw [dget_any]
  by_cases e : (dget kvs k).isSome = true
  · rw [if_pos e, if_pos e, List.map_map]
    refine List.map_congr_left fun p _ => ?_
    show (if PyData.eqv p.1 k = true then (p.1, v) else p).1 = p.1
    split <;> rfl
  · rw [if_neg e, if_neg e, List.map_append]; rfl
theorem kin_iff : KIn G kvs ↔ ∀ k ∈ keysD kvs, k ∈ G := by
  unfold KIn keysD
  constructor
  · intro h k hk
    obtain ⟨p, hp, rfl⟩ := List.mem_map.mp hk
    exact h p hp
  · exact fun h p hp => h _ (List.mem_map.mpr ⟨p, hp, rfl⟩)
theorem dput_kin (hi : KIn G kvs) (h1 : k ∈ G) : KIn G (dput kvs k v) := by
  rw [kin_iff, dput_keys]
  intro q hq
  split at hq
  · exact kin_iff.mp hi q hq
  · rcases List.mem_append.mp hq with hq | hq
    · exact kin_iff.mp hi q hq
    · have : q = k := by simpa using hq
      rw [this]; exact h1
theorem dget_key (hk : KeyOk G) (hi : KIn G kvs) (h : k ∈ G) : (dget kvs k).isSome = true ↔ k ∈ keysD kvs := by
  induction kvs with
  | nil => simp [dget, keysD]
  | cons p kvs ih =>
    have hp : p.1 ∈ G := hi p List.mem_cons_self
    have ih := ih fun q hq => hi q (List.mem_cons_of_mem _ hq)
    rw [dget_cons hk hp h]
    by_cases z : p.1 = k
    · rw [if_pos z]; simp [keysD, z]
    · rw [if_neg z, ih]
      unfold keysD
      rw [List.map_cons, List.mem_cons]
      exact ⟨.inr, fun q => q.elim (fun q => absurd q.symm z) id⟩
theorem dput_nodup (hk : KeyOk G) (hi : KIn G kvs) (h1 : k ∈ G) (nd : (keysD kvs).Nodup) : (keysD (dput kvs k v)).Nodup := by
  rw [dput_keys]
  split
  · exact nd
  · rename_i e
    refine List.nodup_append.mpr ⟨nd, by simp, fun a ha b hb => ?_⟩
    have : b = k := by simpa using hb
    subst this
    rintro rfl
    exact e ((dget_key hk hi h1).mpr ha)
end
/-! ### loops -/
theorem forL_inv {t : Tg} {b : Sl → Option Out} (I : List D → Sl → Prop) (h : ∀ d rest δ, I (d :: rest) δ → ∃ δ1, t d δ = some δ1 ∧ ∃ δ2, b δ1 = some (.nx δ2) ∧ I rest δ2) :
    ∀ {ds : List D} {δ : Sl}, I ds δ → ∃ δ', forL t b ds δ = some (.nx δ') ∧ I [] δ'
  | [], δ, q => ⟨δ, rfl, q⟩
  | d :: ds, δ, q => by
    obtain ⟨δ1, e1, δ2, e2, q2⟩ := h d ds δ q
    obtain ⟨δ', e3, q3⟩ := forL_inv I h q2
    refine ⟨δ', ?_, q3⟩
    show ((t d δ).bind fun δ1 => (b δ1).bind fun
      | .nx δ2 => forL t b ds δ2
      | .rt d => some (.rt d)
      | .rf sd => some (.rf sd)) = _
    rw [e1]
    show ((b δ1).bind fun
      | .nx δ2 => forL t b ds δ2
      | .rt d => some (.rt d)
      | .rf sd => some (.rf sd)) = _
    rw [e2]
    exact e3
theorem whL_step {c : Sl → Option Bool} {b : Sl → Option Out} {n : Nat} {δ δ2 : Sl} (hc : c δ = some true) (hb : b δ = some (.nx δ2)) : whL c b (n + 1) δ = whL c b n δ2 := by
  show ((c δ).bind fun x => if x = true then (b δ).bind fun
      | .nx δ2 => whL c b n δ2
      | .rt d => some (.rt d)
      | .rf sd => some (.rf sd)
    else some (.nx δ)) = _
  rw [hc]
  show ((b δ).bind fun
      | .nx δ2 => whL c b n δ2
      | .rt d => some (.rt d)
      | .rf sd => some (.rf sd)) = _
  rw [hb]; rfl
theorem whL_stop {c : Sl → Option Bool} {b : Sl → Option Out} {n : Nat} {δ : Sl} (hc : c δ = some false) : whL c b (n + 1) δ = some (.nx δ) := by
  show ((c δ).bind fun x => if x = true then (b δ).bind fun
      | .nx δ2 => whL c b n δ2
      | .rt d => some (.rt d)
      | .rf sd => some (.rf sd)
    else some (.nx δ)) = _
  rw [hc]; rfl
theorem whL_inv {c : Sl → Option Bool} {b : Sl → Option Out} (I : Nat → Sl → Prop) (h : ∀ m δ, I m δ → (∃ m' δ2, c δ = some true ∧ b δ = some (.nx δ2) ∧ m' < m ∧ I m' δ2) ∨ c δ = some false) :
    ∀ {n m : Nat} {δ : Sl}, m < n → I m δ → ∃ δ' m', whL c b n δ = some (.nx δ') ∧ I m' δ' ∧ c δ' = some false
  | 0, m, δ, hn, _ => by omega
  | n + 1, m, δ, hn, q => by
    rcases h m δ q with ⟨m', δ2, h1, h2, h3, h4⟩ | h1
    · obtain ⟨δ', m2, e, q'⟩ := whL_inv I h (n := n) (by omega) h4
      exact ⟨δ', m2, by rw [whL_step h1 h2]; exact e, q'⟩
    · exact ⟨δ, m, whL_stop h1, q, h1⟩
theorem lcL_map {t : Tg} {a : Sl → Option D} {f : D → D} {δ : Sl} : ∀ {ds : List D}, (∀ d ∈ ds, ∃ δ1, t d δ = some δ1 ∧ a δ1 = some (f d)) → lcL t tyes a ds δ = some (ds.map f)
  | [], _ => rfl
  | d :: ds, h => by
    obtain ⟨δ1, e1, e2⟩ := h d List.mem_cons_self
    have ih := lcL_map (t := t) (a := a) (f := f) (δ := δ) fun x hx => h x (List.mem_cons_of_mem _ hx)
    show ((t d δ).bind fun δ1 => (tyes δ1).bind fun x => if x = true then (a δ1).bind fun y => (lcL t tyes a ds δ).map fun ys => y :: ys else lcL t tyes a ds δ) = _
    rw [e1]
    show ((a δ1).bind fun y => (lcL t tyes a ds δ).map fun ys => y :: ys) = _
    rw [e2, ih]; rfl
theorem lcL_filter {t : Tg} {c : Sl → Option Bool} {a : Sl → Option D} {f : D → D} {p : D → Bool} {δ : Sl} : ∀ {ds : List D}, (∀ d ∈ ds, ∃ δ1, t d δ = some δ1 ∧ c δ1 = some (p d) ∧ (p d = true → a δ1 = some (f d))) → lcL t c a ds δ = some ((ds.filter p).map f)
  | [], _ => rfl
  | d :: ds, h => by
    obtain ⟨δ1, e1, e2, e3⟩ := h d List.mem_cons_self
    have ih := lcL_filter (t := t) (c := c) (a := a) (f := f) (p := p) (δ := δ) fun x hx => h x (List.mem_cons_of_mem _ hx)
    show ((t d δ).bind fun δ1 => (c δ1).bind fun x => if x = true then (a δ1).bind fun y => (lcL t c a ds δ).map fun ys => y :: ys else lcL t c a ds δ) = _
    rw [e1]
    show ((c δ1).bind fun x => if x = true then (a δ1).bind fun y => (lcL t c a ds δ).map fun ys => y :: ys else lcL t c a ds δ) = _
    rw [e2]
    show (if p d = true then (a δ1).bind fun y => (lcL t c a ds δ).map fun ys => y :: ys else lcL t c a ds δ) = _
    by_cases hp : p d = true
    · rw [if_pos hp, e3 hp, ih, List.filter_cons_of_pos hp]; rfl
    · rw [if_neg hp, ih, List.filter_cons_of_neg hp]
/-! ### slots -/
theorem dv_of {δ : Sl} {i : Nat} {d : D} (h : δ[i]? = some (some (.sh d))) : dv i δ = some d := by unfold dv; rw [h]
theorem get_set {δ : Sl} {i j : Nat} {x : Option SD} (hi : i < δ.length) : (δ.set i x)[j]? = if i = j then some x else δ[j]? := by
  rw [List.getElem?_set]
  by_cases h : i = j
  · rw [if_pos h, if_pos h, if_pos (h ▸ hi)]
  · rw [if_neg h, if_neg h]
/-! ### sums -/
theorem sum_le {f g : D → Nat} : ∀ {G : List D}, (∀ x ∈ G, f x ≤ g x) → (G.map f).sum ≤ (G.map g).sum
  | [], _ => Nat.le_refl _
  | x :: G, h => by
    rw [List.map_cons, List.map_cons, List.sum_cons, List.sum_cons]
    exact Nat.add_le_add (h x List.mem_cons_self) (sum_le fun y hy => h y (List.mem_cons_of_mem _ hy))
theorem sum_lt {f g : D → Nat} {x : D} : ∀ {G : List D}, (∀ x ∈ G, f x ≤ g x) → x ∈ G → f x < g x → (G.map f).sum < (G.map g).sum
  | [], _, hx, _ => by cases hx
  | y :: G, h, hx, hl => by
    rw [List.map_cons, List.map_cons, List.sum_cons, List.sum_cons]
    have h' : ∀ z ∈ G, f z ≤ g z := fun z hz => h z (List.mem_cons_of_mem _ hz)
    rcases List.mem_cons.mp hx with e | e
    · subst e
      exact Nat.add_lt_add_of_lt_of_le hl (sum_le h')
    · exact Nat.add_lt_add_of_le_of_lt (h y List.mem_cons_self) (sum_lt h' e hl)
theorem sum_bd {f : D → Nat} {b : Nat} : ∀ {G : List D}, (∀ x ∈ G, f x ≤ b) → (G.map f).sum ≤ G.length * b
  | [], _ => by simp
  | x :: G, h => by
    rw [List.map_cons, List.sum_cons, List.length_cons, Nat.succ_mul]
    have := sum_bd (f := f) (b := b) (G := G) fun y hy => h y (List.mem_cons_of_mem _ hy)
    have := h x List.mem_cons_self
    omega
/-- all of 0..n stand in l -/
theorem pigeon : ∀ {n : Nat} {l : List Nat}, (∀ i, i ≤ n → i ∈ l) → n + 1 ≤ l.length
  | 0, l, h => by
    have := h 0 (Nat.le_refl _)
    exact List.length_pos_of_mem this
  | n + 1, l, h => by
    have hm := h (n + 1) (Nat.le_refl _)
    have := pigeon (n := n) (l := l.erase (n + 1)) fun i hi => (List.mem_erase_of_ne (by omega)).mpr (h i (by omega))
    rw [List.length_erase_of_mem hm] at this
    have : 0 < l.length := List.length_pos_of_mem hm
    omega
end Gd

set_option maxHeartbeats 2000000
/-! GmC: what holds of the groupings and steps. -/
namespace Gd
open PySem PySem.Spec PyProof.Rows L2
def ns : List Nat := [1, 2, 3, 4]
/-- the step's end -/
def tr (g s : D) : D := (A_law_step [g, s]).getD .none
def run (g : D) (ws : List D) : D := ws.foldl tr g
def mem (G : List D) (d : D) : Bool := G.any fun g => deq g d
theorem mem_of {G : List D} {d : D} (h : mem G d = true) : d ∈ G := by
  obtain ⟨g, hg, e⟩ := List.any_eq_true.mp h
  rw [← deq_eq e]; exact hg
mutual
theorem deq_refl : ∀ {x : D}, nod x = true → deq x x = true
  | .none, _ => rfl
  | .bool b, _ => by simp [deq]
  | .int i, _ => by simp [deq]
  | .list xs, h => deqs_refl (show nods xs = true from h)
  | .tuple xs, h => deqs_refl (show nods xs = true from h)
  | .str _, h => by cases h
  | .dict _, h => by cases h
theorem deqs_refl : ∀ {x : List D}, nods x = true → deqs x x = true
  | [], _ => rfl
  | x :: xs, h => by
    have h : (nod x && nods xs) = true := h
    rw [Bool.and_eq_true] at h
    show (deq x x && deqs xs xs) = true
    rw [deq_refl h.1, deqs_refl h.2]; rfl
end
/-- every lot but the first of each is joined to it -/
def joins : D → List D
  | .tuple lots => lots.flatMap fun l => match l with
    | .tuple (a :: r) => r.map fun b => .tuple [a, b]
    | _ => []
  | _ => []
def path (n : Nat) (goal : D) : List D := (ST n).filter (fun s => match s with
  | .tuple [_] => true
  | _ => false) ++ joins goal
def keyB (G : List D) : Bool := G.all fun g => nod g && (tkey g).isSome && okd g && G.all fun h => PyData.eqv g h == deq g h
theorem keyB_ok {G : List D} (h : keyB G = true) : KeyOk G ∧ ∀ g ∈ G, (∃ k, tkey g = some k) ∧ okd g = true ∧ nod g = true := by
  have h := List.all_eq_true.mp h
  refine ⟨fun g hg k hk => ?_, fun g hg => ?_⟩
  · have q := h g hg
    simp only [Bool.and_eq_true] at q
    have q2 := List.all_eq_true.mp q.2 k hk
    have q2 := eq_of_beq q2
    rw [q2]
    exact ⟨deq_eq, fun e => by subst e; exact deq_refl q.1.1.1⟩
  · have q := h g hg
    simp only [Bool.and_eq_true] at q
    exact ⟨Option.isSome_iff_exists.mp q.1.1.2, q.1.2, q.1.1.1⟩
def all2 (p : Nat → D → D → Bool) (A B : Nat → List D) : Bool := ns.all fun n => (A n).all fun x => (B n).all fun y => p n x y
theorem all2_get {p : Nat → D → D → Bool} {A B : Nat → List D} (h : all2 p A B = true) {n : Nat} (hn : n ∈ ns) {x y : D} (hx : x ∈ A n) (hy : y ∈ B n) : p n x y = true :=
  List.all_eq_true.mp (List.all_eq_true.mp (List.all_eq_true.mp h n hn) x hx) y hy
def all1 (p : Nat → D → Bool) (A : Nat → List D) : Bool := ns.all fun n => (A n).all fun x => p n x
theorem all1_get {p : Nat → D → Bool} {A : Nat → List D} (h : all1 p A = true) {n : Nat} (hn : n ∈ ns) {x : D} (hx : x ∈ A n) : p n x = true :=
  List.all_eq_true.mp (List.all_eq_true.mp h n hn) x hx
/-! the checks -/
theorem ck_GR : (ns.all fun n => keyB (GR n)) = true := by decide +kernel
theorem ck_ST : (ns.all fun n => keyB (ST n)) = true := by decide +kernel
theorem ck_tr : all2 (fun n g s => odeq (A_law_step [g, s]) (tr g s) && odeq (A_stepped [g, s]) (tr g s) && mem (GR n) (tr g s)) GR ST = true := by decide +kernel
theorem ck_path : all2 (fun n g h => deq (run g (path n h)) h && (path n h).all (mem (ST n))) GR GR = true := by decide +kernel
theorem ck_two : all2 (fun n g h => odeq (A_need_two [g, h]) .none) GR GR = true := by decide +kernel
theorem ck_one : all1 (fun n g => odeq (A_need_grouping [g]) .none && odeq (A_size_of [g]) (.int n)) GR = true := by decide +kernel
theorem ck_lists : (ns.all fun n => odeq (A_law_groupings [.int n]) (.list (GR n)) && odeq (A_all_groupings [.int n]) (.list (GR n)) && odeq (A_law_steps [.int n]) (.list (ST n)) && odeq (A_all_steps [.int n]) (.list (ST n))) = true := by decide +kernel
theorem ck_len : (ns.all fun n => decide ((GR n).length ≤ 15) && decide ((ST n).length ≤ 10)) = true := by decide +kernel
section
variable {n : Nat} (hn : n ∈ ns)
include hn
theorem f_GR : KeyOk (GR n) ∧ ∀ g ∈ GR n, (∃ k, tkey g = some k) ∧ okd g = true ∧ nod g = true := keyB_ok (List.all_eq_true.mp ck_GR n hn)
theorem f_ST : KeyOk (ST n) ∧ ∀ g ∈ ST n, (∃ k, tkey g = some k) ∧ okd g = true ∧ nod g = true := keyB_ok (List.all_eq_true.mp ck_ST n hn)
theorem f_tr {g s : D} (hg : g ∈ GR n) (hs : s ∈ ST n) : A_law_step [g, s] = some (tr g s) ∧ A_stepped [g, s] = some (tr g s) ∧ tr g s ∈ GR n := by
  have h := all2_get ck_tr hn hg hs
  simp only [Bool.and_eq_true] at h
  exact ⟨odeq_eq h.1.1, odeq_eq h.1.2, mem_of h.2⟩
theorem f_path {g h : D} (hg : g ∈ GR n) (hh : h ∈ GR n) : run g (path n h) = h ∧ ∀ s ∈ path n h, s ∈ ST n := by
  have q := all2_get ck_path hn hg hh
  simp only [Bool.and_eq_true] at q
  exact ⟨deq_eq q.1, fun s hs => mem_of (List.all_eq_true.mp q.2 s hs)⟩
theorem f_two {g h : D} (hg : g ∈ GR n) (hh : h ∈ GR n) : A_need_two [g, h] = some .none := odeq_eq (all2_get ck_two hn hg hh)
theorem f_one {g : D} (hg : g ∈ GR n) : A_need_grouping [g] = some .none ∧ A_size_of [g] = some (.int n) := by
  have q := all1_get ck_one hn hg
  simp only [Bool.and_eq_true] at q
  exact ⟨odeq_eq q.1, odeq_eq q.2⟩
theorem f_lists : A_law_groupings [.int n] = some (.list (GR n)) ∧ A_all_groupings [.int n] = some (.list (GR n)) ∧ A_law_steps [.int n] = some (.list (ST n)) ∧ A_all_steps [.int n] = some (.list (ST n)) := by
  have q := List.all_eq_true.mp ck_lists n hn
  simp only [Bool.and_eq_true] at q
  exact ⟨odeq_eq q.1.1.1, odeq_eq q.1.1.2, odeq_eq q.1.2, odeq_eq q.2⟩
theorem f_len : (GR n).length ≤ 15 ∧ (ST n).length ≤ 10 := by
  have q := List.all_eq_true.mp ck_len n hn
  simp only [Bool.and_eq_true, decide_eq_true_eq] at q
  exact q
end
theorem run_mem {n : Nat} (hn : n ∈ ns) : ∀ {ws : List D} {g : D}, g ∈ GR n → (∀ s ∈ ws, s ∈ ST n) → run g ws ∈ GR n
  | [], _, hg, _ => hg
  | s :: ws, g, hg, hs => run_mem hn (ws := ws) (f_tr hn hg (hs s List.mem_cons_self)).2.2 fun x hx => hs x (List.mem_cons_of_mem _ hx)
/-- what holds at the goal, and ahead of each step that leads to it, holds everywhere -/
theorem reach {n : Nat} (hn : n ∈ ns) {goal : D} (hgo : goal ∈ GR n) (Pr : D → Prop) (h0 : Pr goal) (h1 : ∀ g ∈ GR n, ∀ s ∈ ST n, Pr (tr g s) → Pr g) : ∀ g ∈ GR n, Pr g := by
  have go : ∀ (ws : List D) (g : D), g ∈ GR n → (∀ s ∈ ws, s ∈ ST n) → run g ws = goal → Pr g := by
    intro ws
    induction ws with
    | nil => intro g _ _ e; rw [show g = goal from e]; exact h0
    | cons s ws ih =>
      intro g hg hs e
      have hs' := hs s List.mem_cons_self
      exact h1 g hg s hs' (ih (tr g s) (f_tr hn hg hs').2.2 (fun x hx => hs x (List.mem_cons_of_mem _ hx)) e)
  intro g hg
  obtain ⟨e, hs⟩ := f_path hn hg hgo
  exact go _ g hg hs e
/-- the price of a way to the goal -/
inductive Wk (n : Nat) (c : D → Nat) (goal : D) : D → Nat → Prop
  | nil : Wk n c goal goal 0
  | cons {g s : D} {x : Nat} : g ∈ GR n → s ∈ ST n → Wk n c goal (tr g s) x → Wk n c goal g (x + c s)
end Gd

set_option maxHeartbeats 2000000
/-! GmD: the loop that betters a dict until nothing betters. -/
namespace Gd
open PySem PySem.Spec PyProof.Rows L2
section
variable {n N oi fi hi si gi : Nat} {it : Sl → Option (List D)} {body : Sl → Option Out} {Fr : Sl → Prop} {Good : List (D × D) → Prop} {NU : List (D × D) → D → D → Prop} {μ : List (D × D) → Nat}
theorem bf_loop (d1 : oi ≠ fi) (d2 : oi ≠ hi) (d3 : oi ≠ si) (d4 : fi ≠ hi) (d5 : fi ≠ si) (d6 : hi ≠ si)
    (hset : ∀ δ x i, i = fi ∨ i = hi ∨ i = si → Fr δ → Fr (δ.set i x)) (hlen : ∀ δ, Fr δ → fi < δ.length ∧ hi < δ.length ∧ si < δ.length) (hgi : ∀ δ, Fr δ → dv gi δ = some (.list (GR n))) (hit : ∀ δ, Fr δ → it δ = some (ST n))
    (hbody : ∀ δ kvs fl g s, Fr δ → δ[oi]? = some (some (.own kvs)) → δ[fi]? = some (some (.sh (.bool fl))) → δ[hi]? = some (some (.sh g)) → δ[si]? = some (some (.sh s)) → g ∈ GR n → s ∈ ST n → Good kvs →
      ∃ δ' kvs' fl', body δ = some (.nx δ') ∧ Fr δ' ∧ δ'[oi]? = some (some (.own kvs')) ∧ δ'[fi]? = some (some (.sh (.bool fl'))) ∧ δ'[hi]? = some (some (.sh g)) ∧ ((NU kvs g s ∧ kvs' = kvs ∧ fl' = fl) ∨ (fl' = true ∧ Good kvs' ∧ μ kvs' < μ kvs)))
    {δ : Sl} {kvs : List (D × D)} (h0 : Fr δ) (h1 : δ[oi]? = some (some (.own kvs))) (h2 : δ[fi]? = some (some (.sh (.bool true)))) (h3 : Good kvs) (h4 : μ kvs + 1 < N) :
    ∃ δ' kvs', swh N (tb (dv fi)) (andT (sset fi (dc (.bool false))) (sfor (iseq (dv gi)) (tg1 hi) (sfor it (tg1 si) body))) δ = some (.nx δ') ∧ Fr δ' ∧ δ'[oi]? = some (some (.own kvs')) ∧ Good kvs' ∧ ∀ g ∈ GR n, ∀ s ∈ ST n, NU kvs' g s := by
  let I : Nat → Sl → Prop := fun m δ => Fr δ ∧ ∃ kvs fl, δ[oi]? = some (some (.own kvs)) ∧ δ[fi]? = some (some (.sh (.bool fl))) ∧ Good kvs ∧ ((fl = true ∧ m = μ kvs + 1) ∨ (fl = false ∧ m = 0 ∧ ∀ g ∈ GR n, ∀ s ∈ ST n, NU kvs g s))
  have key := whL_inv (c := tb (dv fi)) (b := andT (sset fi (dc (.bool false))) (sfor (iseq (dv gi)) (tg1 hi) (sfor it (tg1 si) body))) I ?_ h4 ⟨h0, kvs, true, h1, h2, h3, .inl ⟨rfl, rfl⟩⟩
  · obtain ⟨δ', m', e, ⟨q0, kvs', fl, q1, q2, q3, q4⟩, hc⟩ := key
    have : fl = false := by
      have : tb (dv fi) δ' = some fl := by unfold tb; rw [dv_of q2]; rfl
      rw [this] at hc
      exact Option.some.inj hc
    subst this
    rcases q4 with ⟨z, _⟩ | ⟨_, _, q⟩
    · cases z
    · exact ⟨δ', kvs', e, q0, q1, q3, q⟩
  · rintro m δ ⟨q0, kvs, fl, q1, q2, q3, q4⟩
    have hc : tb (dv fi) δ = some fl := by unfold tb; rw [dv_of q2]; rfl
    rcases q4 with ⟨rfl, rfl⟩ | ⟨rfl, _, _⟩
    · refine .inl ?_
      obtain ⟨l1, l2, l3⟩ := hlen _ q0
      have a0 : Fr (δ.set fi (some (.sh (.bool false)))) := hset _ _ _ (.inl rfl) q0
      have a1 : (δ.set fi (some (.sh (.bool false))))[oi]? = some (some (.own kvs)) := by rw [get_set l1, if_neg d1.symm]; exact q1
      have a2 : (δ.set fi (some (.sh (.bool false))))[fi]? = some (some (.sh (.bool false))) := by rw [get_set l1, if_pos rfl]
      let J : List D → Sl → Prop := fun rest δ => Fr δ ∧ ∃ pre, pre ++ rest = GR n ∧ ∃ kvs' fl', δ[oi]? = some (some (.own kvs')) ∧ δ[fi]? = some (some (.sh (.bool fl'))) ∧ Good kvs' ∧ ((fl' = false ∧ kvs' = kvs ∧ ∀ g ∈ pre, ∀ s ∈ ST n, NU kvs g s) ∨ (fl' = true ∧ μ kvs' < μ kvs))
      have outer := forL_inv (t := tg1 hi) (b := sfor it (tg1 si) body) J ?_ (ds := GR n) (δ := δ.set fi (some (.sh (.bool false)))) ⟨a0, [], rfl, kvs, false, a1, a2, q3, .inl ⟨rfl, rfl, fun g hg => by cases hg⟩⟩
      · obtain ⟨δ2, e2, b0, pre, hp, kvs', fl', b1, b2, b3, b4⟩ := outer
        rw [List.append_nil] at hp
        subst hp
        have eb : andT (sset fi (dc (.bool false))) (sfor (iseq (dv gi)) (tg1 hi) (sfor it (tg1 si) body)) δ = some (.nx δ2) := by
          show sfor (iseq (dv gi)) (tg1 hi) (sfor it (tg1 si) body) (δ.set fi (some (.sh (.bool false)))) = _
          unfold sfor iseq
          rw [hgi _ a0]
          exact e2
        rcases b4 with ⟨z1, z2, z3⟩ | ⟨z1, z2⟩
        · subst z1; subst z2
          exact ⟨0, δ2, hc, eb, Nat.succ_pos _, b0, kvs', false, b1, b2, b3, .inr ⟨rfl, rfl, z3⟩⟩
        · subst z1
          exact ⟨μ kvs' + 1, δ2, hc, eb, by omega, b0, kvs', true, b1, b2, b3, .inl ⟨rfl, rfl⟩⟩
      · rintro g rest δ3 ⟨b0, pre, hp, kvs', fl', b1, b2, b3, b4⟩
        obtain ⟨l1, l2, l3⟩ := hlen _ b0
        have hg : g ∈ GR n := by rw [← hp]; simp
        refine ⟨δ3.set hi (some (.sh g)), rfl, ?_⟩
        have c0 : Fr (δ3.set hi (some (.sh g))) := hset _ _ _ (.inr (.inl rfl)) b0
        have c1 : (δ3.set hi (some (.sh g)))[oi]? = some (some (.own kvs')) := by rw [get_set l2, if_neg d2.symm]; exact b1
        have c2 : (δ3.set hi (some (.sh g)))[fi]? = some (some (.sh (.bool fl'))) := by rw [get_set l2, if_neg d4.symm]; exact b2
        have c3 : (δ3.set hi (some (.sh g)))[hi]? = some (some (.sh g)) := by rw [get_set l2, if_pos rfl]
        let L : List D → Sl → Prop := fun rest2 δ => Fr δ ∧ δ[hi]? = some (some (.sh g)) ∧ ∃ pre2, pre2 ++ rest2 = ST n ∧ ∃ kvs' fl', δ[oi]? = some (some (.own kvs')) ∧ δ[fi]? = some (some (.sh (.bool fl'))) ∧ Good kvs' ∧
          ((fl' = false ∧ kvs' = kvs ∧ (∀ g ∈ pre, ∀ s ∈ ST n, NU kvs g s) ∧ ∀ s ∈ pre2, NU kvs g s) ∨ (fl' = true ∧ μ kvs' < μ kvs))
        have inner := forL_inv (t := tg1 si) (b := body) L ?_ (ds := ST n) (δ := δ3.set hi (some (.sh g))) ⟨c0, c3, [], rfl, kvs', fl', c1, c2, b3, ?_⟩
        · obtain ⟨δ4, e4, r0, r1, pre2, hp2, kvs2, fl2, r2, r3, r4, r5⟩ := inner
          rw [List.append_nil] at hp2
          subst hp2
          refine ⟨δ4, ?_, r0, pre ++ [g], by rw [List.append_assoc]; exact hp, kvs2, fl2, r2, r3, r4, ?_⟩
          · unfold sfor
            rw [hit _ c0]
            exact e4
          · rcases r5 with ⟨z1, z2, z3, z4⟩ | z
            · refine .inl ⟨z1, z2, fun x hx s hs => ?_⟩
              rcases List.mem_append.mp hx with hx | hx
              · exact z3 x hx s hs
              · have : x = g := by simpa using hx
                subst this; exact z4 s hs
            · exact .inr z
        · rintro s rest2 δ5 ⟨r0, r1, pre2, hp2, kvs2, fl2, r2, r3, r4, r5⟩
          obtain ⟨l1, l2, l3⟩ := hlen _ r0
          have hs : s ∈ ST n := by rw [← hp2]; simp
          refine ⟨δ5.set si (some (.sh s)), rfl, ?_⟩
          obtain ⟨δ6, kvs6, fl6, e6, s0, s1, s2, s3, s4⟩ := hbody (δ5.set si (some (.sh s))) kvs2 fl2 g s (hset _ _ _ (.inr (.inr rfl)) r0) (by rw [get_set l3, if_neg d3.symm]; exact r2) (by rw [get_set l3, if_neg d5.symm]; exact r3)
            (by rw [get_set l3, if_neg d6.symm]; exact r1) (by rw [get_set l3, if_pos rfl]) hg hs r4
          refine ⟨δ6, e6, s0, s3, pre2 ++ [s], by rw [List.append_assoc]; exact hp2, kvs6, fl6, s1, s2, ?_, ?_⟩
          · rcases s4 with ⟨_, z, _⟩ | ⟨_, z, _⟩
            · rw [z]; exact r4
            · exact z
          · rcases s4 with ⟨z1, z2, z3⟩ | ⟨z1, z2, z3⟩
            · rw [z2, z3]
              rcases r5 with ⟨y1, y2, y3, y4⟩ | y
              · refine .inl ⟨y1, y2, y3, fun x hx => ?_⟩
                rcases List.mem_append.mp hx with hx | hx
                · exact y4 x hx
                · have : x = s := by simpa using hx
                  subst this; rw [← y2]; exact z1
              · exact .inr y
            · refine .inr ⟨z1, ?_⟩
              rcases r5 with ⟨y1, y2, _⟩ | ⟨_, y⟩
              · rw [← y2]; exact z3
              · omega
        · rcases b4 with ⟨z1, z2, z3⟩ | z
          · exact .inl ⟨z1, z2, z3, fun s hs => by cases hs⟩
          · exact .inr z
    · exact .inr hc
end
end Gd

set_option maxHeartbeats 2000000
/-! GmE: law's least prices. -/
namespace Gd
open PySem PySem.Spec PyProof.Rows L2
section
variable {δ : Sl} {a b : Sl → Option D} {x y z d : D} {i : Nat} {kvs : List (D × D)}
theorem ev_fn1 {F : List D → Option D} (h1 : a δ = some x) (h : F [x] = some z) : dfn 1 F (ac a an) δ = some z := by
  unfold dfn ac an; rw [h1]; exact h
theorem ev_fn2 {F : List D → Option D} (h1 : a δ = some x) (h2 : b δ = some y) (h : F [x, y] = some z) : dfn 2 F (ac a (ac b an)) δ = some z := by
  unfold dfn ac an; rw [h1, h2]; exact h
theorem ev_d2 {g : D → D → Option D} (h1 : a δ = some x) (h2 : b δ = some y) : d2 g a b δ = g x y := by unfold d2; rw [h1, h2]; rfl
theorem ev_tin {g : Bool → Bool} {k : NestedKey} (h0 : δ[i]? = some (some (.own kvs))) (h1 : b δ = some y) (h2 : tkey y = some k) : tinO i g b δ = some (g (dget kvs y).isSome) := by
  unfold tinO; rw [h0]
  show ((b δ).bind fun y => (tkey y).map fun _ => g (dget kvs y).isSome) = _
  rw [h1]
  show ((tkey y).map fun _ => g (dget kvs y).isSome) = _
  rw [h2]; rfl
theorem ev_dix {k : NestedKey} (h0 : δ[i]? = some (some (.own kvs))) (h1 : b δ = some y) (h2 : tkey y = some k) : dixO i b δ = dget kvs y := by
  unfold dixO; rw [h0]
  show ((b δ).bind fun y => ixO (.own kvs) y) = _
  rw [h1]
  show ((tkey y).bind fun _ => dget kvs y) = _
  rw [h2]; rfl
theorem ev_put {k : NestedKey} {kk : Sl → Option D} (h0 : δ[i]? = some (some (.own kvs))) (h1 : a δ = some x) (h2 : kk δ = some y) (h3 : tkey y = some k) (hl : kvs.length < 1000000) : sput i kk a δ = some (.nx (δ.set i (some (.own (dput kvs y x))))) := by
  unfold sput; rw [h0]
  show ((a δ).bind fun x => (kk δ).bind fun y => (putO (.own kvs) y x).map fun sd' => Out.nx (δ.set i (some sd'))) = _
  rw [h1]
  show ((kk δ).bind fun y => (putO (.own kvs) y x).map fun sd' => Out.nx (δ.set i (some sd'))) = _
  rw [h2]
  show (((tkey y).bind fun _ => if kvs.length < 1000000 then some (SD.own (dput kvs y x)) else none).map fun sd' => Out.nx (δ.set i (some sd'))) = _
  rw [h3]
  show ((if kvs.length < 1000000 then some (SD.own (dput kvs y x)) else none).map fun sd' => Out.nx (δ.set i (some sd'))) = _
  rw [if_pos hl]; rfl
theorem ev_and {f g : Sl → Option Out} {δ1 : Sl} (h : f δ = some (.nx δ1)) : andT f g δ = g δ1 := by unfold andT; rw [h]; rfl
theorem ev_set (h : a δ = some x) : sset i a δ = some (.nx (δ.set i (some (.sh x)))) := by unfold sset; rw [h]; rfl
theorem ev_if {c : Sl → Option Bool} {f g : Sl → Option Out} {v : Bool} (h : c δ = some v) : sif c f g δ = if v = true then f δ else g δ := by unfold sif; rw [h]; rfl
theorem ev_tand {c e : Sl → Option Bool} {v : Bool} (h : c δ = some v) : tand c e δ = if v = true then e δ else some false := by unfold tand; rw [h]; rfl
theorem ev_tor {c e : Sl → Option Bool} {v : Bool} (h : c δ = some v) : tor c e δ = if v = true then some true else e δ := by unfold tor; rw [h]; rfl
theorem ev_tb {v : Bool} (h : a δ = some (.bool v)) : tb a δ = some v := by unfold tb; rw [h]; rfl
end
/-- how many keys are there -/
def pc (n : Nat) (kvs : List (D × D)) : Nat := ((GR n).map fun g => if (dget kvs g).isSome = true then 1 else 0).sum
theorem pc_le {n : Nat} (hn : n ∈ ns) (kvs : List (D × D)) : pc n kvs ≤ 15 := by
  have h := sum_bd (f := fun g => if (dget kvs g).isSome = true then 1 else 0) (b := 1) (G := GR n) fun x _ => by split <;> decide
  have := (f_len hn).1
  unfold pc
  omega
theorem pc_put {n : Nat} (hn : n ∈ ns) {kvs : List (D × D)} (hi : KIn (GR n) kvs) {g d : D} (hg : g ∈ GR n) : pc n kvs ≤ pc n (dput kvs g d) ∧ ((dget kvs g).isSome = false → pc n kvs + 1 ≤ pc n (dput kvs g d)) := by
  have hle : ∀ x ∈ GR n, (if (dget kvs x).isSome = true then 1 else 0) ≤ (if (dget (dput kvs g d) x).isSome = true then 1 else 0) := fun x hx => by
    rw [dget_dput (f_GR hn).1 hi hg hx]
    by_cases z : g = x
    · rw [if_pos z]
      split <;> simp
    · rw [if_neg z]
      exact Nat.le_refl _
  refine ⟨sum_le hle, fun e => sum_lt hle hg ?_⟩
  rw [dget_dput (f_GR hn).1 hi hg hg, if_pos rfl, e]
  simp
theorem len_put {kvs : List (D × D)} {g d : D} : (dput kvs g d).length = if (dget kvs g).isSome = true then kvs.length else kvs.length + 1 := by
  have := congrArg List.length (dput_keys (kvs := kvs) (k := g) d)
  unfold keysD at this
  rw [List.length_map] at this
  rw [this]
  split <;> simp
section
variable (n : Nat) (c : D → Nat) (goal : D)
def LGood (kvs : List (D × D)) : Prop := KIn (GR n) kvs ∧ kvs.length ≤ pc n kvs ∧ dget kvs goal = some (.int 0) ∧ ∀ g ∈ GR n, ∀ d, dget kvs g = some d → ∃ x : Nat, d = .int x ∧ Wk n c goal g x ∧ x ≤ 7 * pc n kvs
def LNU (kvs : List (D × D)) (g s : D) : Prop := ∀ x : Nat, dget kvs (tr g s) = some (.int x) → ∃ y : Nat, dget kvs g = some (.int y) ∧ y ≤ x + c s
def Lv (o : Option D) : Nat := match o with
  | some (.int x) => x.toNat
  | _ => 1000
def Lμ (kvs : List (D × D)) : Nat := ((GR n).map fun g => Lv (dget kvs g)).sum
end
section
variable {n : Nat} {c : D → Nat} {goal : D} (hn : n ∈ ns) (hgo : goal ∈ GR n) (hc : ∀ s ∈ ST n, c s ≤ 7)
include hn hgo hc
theorem lgood_put {kvs : List (D × D)} {g s : D} {x : Nat} (h : LGood n c goal kvs) (hg : g ∈ GR n) (hs : s ∈ ST n) (ht : dget kvs (tr g s) = some (.int x)) (hu : ∀ y : Nat, dget kvs g = some (.int y) → x + c s < y) :
    LGood n c goal (dput kvs g (.int (x + c s : Nat))) ∧ Lμ n (dput kvs g (.int (x + c s : Nat))) < Lμ n kvs := by
  obtain ⟨h1, h2, h3, h4⟩ := h
  have htr := (f_tr hn hg hs).2.2
  obtain ⟨x', e, w, hb⟩ := h4 _ htr _ ht
  have : x' = x := by
    have := PyData.int.inj e
    omega
  subst this
  have hgg : goal ≠ g := fun z => by
    have := hu 0 (by rw [← z]; exact h3)
    omega
  have hp := pc_put hn h1 (d := .int (x' + c s : Nat)) hg
  have hc' := hc s hs
  have key := fun {q : D} (hq : q ∈ GR n) => dget_dput (f_GR hn).1 h1 hg hq (v := .int (x' + c s : Nat))
  refine ⟨⟨dput_kin h1 hg, ?_, ?_, ?_⟩, ?_⟩
  · rw [len_put]
    split
    · exact Nat.le_trans h2 hp.1
    · rename_i z
      have := hp.2 (by simpa using z)
      omega
  · rw [key hgo, if_neg hgg.symm]; exact h3
  · intro q hq d hd
    rw [key hq] at hd
    split at hd
    · rename_i z
      subst z
      cases hd
      refine ⟨_, rfl, .cons hg hs w, ?_⟩
      cases hgk : dget kvs g with
      | none =>
        have := hp.2 (by rw [hgk]; rfl)
        omega
      | some d =>
        obtain ⟨y, rfl, _, hy⟩ := h4 _ hg _ hgk
        have := hu y hgk
        omega
    · obtain ⟨y, e, w, hy⟩ := h4 q hq d hd
      exact ⟨y, e, w, by omega⟩
  · have hx15 : x' + c s < 1000 := by
      have := pc_le hn kvs
      omega
    have hlt : Lv (some (.int (x' + c s : Nat))) < Lv (dget kvs g) := by
      show (((x' + c s : Nat) : Int)).toNat < _
      rw [Int.toNat_natCast]
      cases hgk : dget kvs g with
      | none => exact hx15
      | some d =>
        obtain ⟨y, rfl, _, hy⟩ := h4 _ hg _ hgk
        have := hu y hgk
        show _ < ((y : Int)).toNat
        omega
    refine sum_lt (x := g) (fun q hq => ?_) hg ?_
    · rw [key hq]
      split
      · rename_i z
        subst z; exact Nat.le_of_lt hlt
      · exact Nat.le_refl _
    · rw [key hg, if_pos rfl]; exact hlt
end
def lawBody : Sl → Option Out := andT (sset 22 (dfn 2 A_law_step (ac (dv 17) (ac (dv 5) (an))))) (sif (tand (tinO 16 id (dv 22)) (tor (tinO 16 not (dv 17)) (tb (d2 ltD (d2 addD (dixO 16 (dv 22)) (dixO 4 (dv 5))) (dixO 16 (dv 17)))))) (andT (sput 16 (dv 17) (d2 addD (dixO 16 (dv 22)) (dixO 4 (dv 5)))) (sset 6 (dc (.bool true)))) (snil))
/-- the frame: all but the loop's own slots -/
def LFr (δ0 δ : Sl) : Prop := δ.length = 25 ∧ ∀ i, i ≠ 5 → i ≠ 6 → i ≠ 16 → i ≠ 17 → i ≠ 22 → δ[i]? = δ0[i]?
theorem LFr.set {δ0 δ : Sl} (h : LFr δ0 δ) {i : Nat} {x : Option SD} (hi : i = 5 ∨ i = 6 ∨ i = 16 ∨ i = 17 ∨ i = 22) : LFr δ0 (δ.set i x) := by
  refine ⟨by rw [List.length_set]; exact h.1, fun j h1 h2 h3 h4 h5 => ?_⟩
  rw [get_set (by have := h.1; omega), if_neg (by omega)]
  exact h.2 j h1 h2 h3 h4 h5
section
variable {n : Nat} {c : D → Nat} {goal : D} {kl : List (D × D)} {δ0 : Sl} (hn : n ∈ ns) (hgo : goal ∈ GR n) (hc : ∀ s ∈ ST n, c s ≤ 7 ∧ dget kl s = some (.int (c s)))
  (h13 : δ0[13]? = some (some (.sh (.list (ST n))))) (h15 : δ0[15]? = some (some (.sh (.list (GR n))))) (h4 : δ0[4]? = some (some (.own kl)))
include hn hgo hc h4
theorem law_body {δ : Sl} {kvs : List (D × D)} {fl : Bool} {g s : D} (hF : LFr δ0 δ) (e16 : δ[16]? = some (some (.own kvs))) (e6 : δ[6]? = some (some (.sh (.bool fl)))) (e17 : δ[17]? = some (some (.sh g))) (e5 : δ[5]? = some (some (.sh s)))
    (hg : g ∈ GR n) (hs : s ∈ ST n) (h : LGood n c goal kvs) :
    ∃ δ' kvs' fl', lawBody δ = some (.nx δ') ∧ LFr δ0 δ' ∧ δ'[16]? = some (some (.own kvs')) ∧ δ'[6]? = some (some (.sh (.bool fl'))) ∧ δ'[17]? = some (some (.sh g)) ∧
      ((LNU c kvs g s ∧ kvs' = kvs ∧ fl' = fl) ∨ (fl' = true ∧ LGood n c goal kvs' ∧ Lμ n kvs' < Lμ n kvs)) := by
  have hl := hF.1
  obtain ⟨ht1, ht2, ht3⟩ := f_tr hn hg hs
  obtain ⟨kt, hkt⟩ := ((f_GR hn).2 _ ht3).1
  obtain ⟨kg, hkg⟩ := ((f_GR hn).2 _ hg).1
  obtain ⟨ks, hks⟩ := ((f_ST hn).2 _ hs).1
  have e1 : sset 22 (dfn 2 A_law_step (ac (dv 17) (ac (dv 5) (an)))) δ = some (.nx (δ.set 22 (some (.sh (tr g s))))) := ev_set (ev_fn2 (dv_of e17) (dv_of e5) ht1)
  unfold lawBody
  rw [ev_and e1]
  generalize hδ : δ.set 22 (some (.sh (tr g s))) = δ1
  have F1 : LFr δ0 δ1 := by rw [← hδ]; exact hF.set (by omega)
  have a16 : δ1[16]? = some (some (.own kvs)) := by rw [← hδ, get_set (by omega), if_neg (by decide)]; exact e16
  have a6 : δ1[6]? = some (some (.sh (.bool fl))) := by rw [← hδ, get_set (by omega), if_neg (by decide)]; exact e6
  have a17 : δ1[17]? = some (some (.sh g)) := by rw [← hδ, get_set (by omega), if_neg (by decide)]; exact e17
  have a5 : δ1[5]? = some (some (.sh s)) := by rw [← hδ, get_set (by omega), if_neg (by decide)]; exact e5
  have a22 : δ1[22]? = some (some (.sh (tr g s))) := by rw [← hδ, get_set (by omega), if_pos rfl]
  have a4 : δ1[4]? = some (some (.own kl)) := by rw [F1.2 4 (by decide) (by decide) (by decide) (by decide) (by decide)]; exact h4
  have b1 : tinO 16 id (dv 22) δ1 = some (dget kvs (tr g s)).isSome := ev_tin a16 (dv_of a22) hkt
  have b2 : tinO 16 not (dv 17) δ1 = some (!(dget kvs g).isSome) := ev_tin a16 (dv_of a17) hkg
  have b3 : dixO 16 (dv 22) δ1 = dget kvs (tr g s) := ev_dix a16 (dv_of a22) hkt
  have b4 : dixO 4 (dv 5) δ1 = dget kl s := ev_dix a4 (dv_of a5) hks
  have b5 : dixO 16 (dv 17) δ1 = dget kvs g := ev_dix a16 (dv_of a17) hkg
  have hlen : kvs.length < 1000000 := by have := h.2.1; have := pc_le hn kvs; omega
  cases htk : dget kvs (tr g s) with
  | none =>
    refine ⟨δ1, kvs, fl, ?_, F1, a16, a6, a17, .inl ⟨fun x hx => (by rw [htk] at hx; cases hx), rfl, rfl⟩⟩
    rw [ev_if (v := false) (by rw [ev_tand b1, htk]; rfl)]
    rfl
  | some dt =>
    obtain ⟨x, rfl, w, hx⟩ := h.2.2.2 _ ht3 _ htk
    have b6 : d2 addD (dixO 16 (dv 22)) (dixO 4 (dv 5)) δ1 = some (.int (x + c s : Nat)) := by
      rw [ev_d2 (b3.trans htk) (b4.trans (hc s hs).2)]
      show some (PyData.int ((x : Int) + (c s : Int))) = _
      rw [Int.natCast_add]
    have yes : (∀ y : Nat, dget kvs g = some (.int y) → x + c s < y) → tand (tinO 16 id (dv 22)) (tor (tinO 16 not (dv 17)) (tb (d2 ltD (d2 addD (dixO 16 (dv 22)) (dixO 4 (dv 5))) (dixO 16 (dv 17))))) δ1 = some true →
        ∃ δ' kvs' fl', sif (tand (tinO 16 id (dv 22)) (tor (tinO 16 not (dv 17)) (tb (d2 ltD (d2 addD (dixO 16 (dv 22)) (dixO 4 (dv 5))) (dixO 16 (dv 17)))))) (andT (sput 16 (dv 17) (d2 addD (dixO 16 (dv 22)) (dixO 4 (dv 5)))) (sset 6 (dc (.bool true)))) (snil) δ1 = some (.nx δ') ∧ LFr δ0 δ' ∧ δ'[16]? = some (some (.own kvs')) ∧ δ'[6]? = some (some (.sh (.bool fl'))) ∧ δ'[17]? = some (some (.sh g)) ∧
          ((LNU c kvs g s ∧ kvs' = kvs ∧ fl' = fl) ∨ (fl' = true ∧ LGood n c goal kvs' ∧ Lμ n kvs' < Lμ n kvs)) := by
      intro hu hv
      rw [ev_if hv, if_pos rfl, ev_and (ev_put a16 b6 (dv_of a17) hkg hlen), ev_set (x := .bool true) rfl]
      have hl1 := F1.1
      refine ⟨_, _, true, rfl, (F1.set (by omega)).set (by omega), ?_, ?_, ?_, .inr ⟨rfl, lgood_put hn hgo (fun s hs => (hc s hs).1) h hg hs htk hu⟩⟩
      · rw [get_set (by rw [List.length_set]; omega), if_neg (by decide), get_set (by omega), if_pos rfl]
      · rw [get_set (by rw [List.length_set]; omega), if_pos rfl]
      · rw [get_set (by rw [List.length_set]; omega), if_neg (by decide), get_set (by omega), if_neg (by decide)]; exact a17
    cases hgk : dget kvs g with
    | none =>
      refine yes (fun y hy => by rw [hgk] at hy; cases hy) ?_
      rw [ev_tand b1, htk]
      show tor _ _ δ1 = _
      rw [ev_tor b2, hgk]; rfl
    | some dg =>
      obtain ⟨y, rfl, _, hy⟩ := h.2.2.2 _ hg _ hgk
      have b7 : tb (d2 ltD (d2 addD (dixO 16 (dv 22)) (dixO 4 (dv 5))) (dixO 16 (dv 17))) δ1 = some (decide (((x + c s : Nat) : Int) < (y : Int))) := ev_tb (by rw [ev_d2 b6 (b5.trans hgk)]; rfl)
      have hv : tand (tinO 16 id (dv 22)) (tor (tinO 16 not (dv 17)) (tb (d2 ltD (d2 addD (dixO 16 (dv 22)) (dixO 4 (dv 5))) (dixO 16 (dv 17))))) δ1 = some (decide (((x + c s : Nat) : Int) < (y : Int))) := by
        rw [ev_tand b1, htk]
        show tor _ _ δ1 = _
        rw [ev_tor b2, hgk]
        exact b7
      by_cases hlt : x + c s < y
      · refine yes (fun y' hy' => ?_) ?_
        · rw [hgk] at hy'
          have := PyData.int.inj (Option.some.inj hy')
          omega
        · rw [hv, decide_eq_true (by omega)]
      · refine ⟨δ1, kvs, fl, ?_, F1, a16, a6, a17, .inl ⟨fun x' hx' => ⟨y, hgk, ?_⟩, rfl, rfl⟩⟩
        · rw [ev_if hv, if_neg (by simp; omega)]
          rfl
        · rw [htk] at hx'
          have := PyData.int.inj (Option.some.inj hx')
          omega
include h13 h15
theorem law_loop {δ : Sl} {kvs : List (D × D)} (hF : LFr δ0 δ) (e16 : δ[16]? = some (some (.own kvs))) (e6 : δ[6]? = some (some (.sh (.bool true)))) (h : LGood n c goal kvs) :
    ∃ δ' kvs', P_law5 δ = some (.nx δ') ∧ LFr δ0 δ' ∧ δ'[16]? = some (some (.own kvs')) ∧ LGood n c goal kvs' ∧ ∀ g ∈ GR n, ∀ s ∈ ST n, LNU c kvs' g s := by
  refine bf_loop (N := fuel) (oi := 16) (fi := 6) (hi := 17) (si := 5) (gi := 15) (it := iseq (dv 13)) (body := lawBody) (Fr := LFr δ0) (Good := LGood n c goal) (NU := LNU c) (μ := Lμ n) (by decide) (by decide) (by decide) (by decide) (by decide) (by decide)
    (fun δ x i hi hF => hF.set (by omega)) (fun δ hF => by have := hF.1; omega) (fun δ hF => dv_of ?_) (fun δ hF => ?_) (fun δ kvs fl g s hF e1 e2 e3 e4 hg hs hG => law_body hn hgo hc h4 hF e1 e2 e3 e4 hg hs hG) hF e16 e6 h ?_
  · rw [hF.2 15 (by decide) (by decide) (by decide) (by decide) (by decide)]; exact h15
  · unfold iseq
    rw [dv_of (d := .list (ST n)) (by rw [hF.2 13 (by decide) (by decide) (by decide) (by decide) (by decide)]; exact h13)]; rfl
  · have hb : Lμ n kvs ≤ (GR n).length * 1000 := sum_bd fun x hx => by
      show Lv (dget kvs x) ≤ 1000
      cases hd : dget kvs x with
      | none => exact Nat.le_refl _
      | some d =>
        obtain ⟨y, rfl, _, hy⟩ := h.2.2.2 x hx d hd
        have := pc_le hn kvs
        show ((y : Int)).toNat ≤ 1000
        omega
    have := (f_len hn).1
    unfold fuel
    omega
end
end Gd

set_option maxHeartbeats 2000000
/-! GmF: the program's least rows; both ends. -/
namespace Gd
open PySem PySem.Spec PyProof.Rows L2
/-- an entry: price, count, step -/
def pv (p k : Nat) (st : D) : D := .tuple [.int p, .int k, st]
theorem pv_inj {p k p' k' : Nat} {st st' : D} (h : pv p k st = pv p' k' st') : p = p' ∧ k = k' ∧ st = st' := by
  unfold pv at h
  injection h with h
  injection h with h1 h
  injection h with h2 h
  injection h with h3 h
  injection h1 with h1
  injection h2 with h2
  exact ⟨by omega, by omega, h3⟩
def Pv (o : Option D) : Nat := match o with
  | some (.tuple [.int p, .int _, _]) => p.toNat
  | _ => 200
def Kv (o : Option D) : Nat := match o with
  | some (.tuple [.int _, .int k, _]) => k.toNat
  | _ => 0
theorem Pv_pv {p k : Nat} {st : D} : Pv (some (pv p k st)) = p := by show ((p : Int)).toNat = p; omega
theorem Kv_pv {p k : Nat} {st : D} : Kv (some (pv p k st)) = k := by show ((k : Int)).toNat = k; omega
def Pm (n : Nat) (kvs : List (D × D)) : Nat := ((GR n).map fun g => Pv (dget kvs g)).sum
def Km (n : Nat) (kvs : List (D × D)) : Nat := ((GR n).map fun g => Kv (dget kvs g)).sum
def Pμ (n : Nat) (kvs : List (D × D)) : Nat := Pm n kvs * 45001 + Km n kvs
section
variable (n : Nat) (c : D → Nat) (goal : D)
def PE1 (kvs : List (D × D)) (g d : D) : Prop := ∃ p k st, d = pv p k st ∧ Wk n c goal g p ∧ p ≤ 7 * pc n kvs ∧ k + Pm n kvs ≤ 3000 ∧
  ((g = goal ∧ p = 0 ∧ k = 0 ∧ st = .none) ∨ (g ≠ goal ∧ st ∈ ST n ∧ ∃ p' k' st', dget kvs (tr g st) = some (pv p' k' st') ∧ (p' + c st < p ∨ (p' + c st = p ∧ k' + 1 ≤ k))))
def PGood (kvs : List (D × D)) : Prop := KIn (GR n) kvs ∧ (keysD kvs).Nodup ∧ kvs.length ≤ pc n kvs ∧ dget kvs goal = some (pv 0 0 .none) ∧ ∀ g ∈ GR n, ∀ d, dget kvs g = some d → PE1 n c goal kvs g d
def PNU (kvs : List (D × D)) (g s : D) : Prop := g ≠ goal → ∀ x kx st, dget kvs (tr g s) = some (pv x kx st) → ∃ y ky st', dget kvs g = some (pv y ky st') ∧ ¬ (x + c s < y ∨ (x + c s = y ∧ kx + 1 < ky))
end
section
variable {n : Nat} {c : D → Nat} {goal : D} (hn : n ∈ ns) (hgo : goal ∈ GR n) (hc : ∀ s ∈ ST n, c s ≤ 7)
include hn hgo hc
theorem pgood_put {kvs : List (D × D)} {g s : D} {x kx : Nat} {st0 : D} (h : PGood n c goal kvs) (hg : g ∈ GR n) (hs : s ∈ ST n) (hgg : g ≠ goal) (ht : dget kvs (tr g s) = some (pv x kx st0))
    (hu : ∀ y ky st, dget kvs g = some (pv y ky st) → x + c s < y ∨ (x + c s = y ∧ kx + 1 < ky)) :
    PGood n c goal (dput kvs g (pv (x + c s) (kx + 1) s)) ∧ Pμ n (dput kvs g (pv (x + c s) (kx + 1) s)) < Pμ n kvs := by
  obtain ⟨h1, h0, h2, h3, h4⟩ := h
  have htr := (f_tr hn hg hs).2.2
  obtain ⟨x', kx', st', e, w, hb, hk, _⟩ := h4 _ htr _ ht
  obtain ⟨rfl, rfl, rfl⟩ := pv_inj e
  have hp := pc_put hn h1 (d := pv (x + c s) (kx + 1) s) hg
  have hc' := hc s hs
  have h15 := pc_le hn kvs
  have key := fun {q : D} (hq : q ∈ GR n) => dget_dput (f_GR hn).1 h1 hg hq (v := pv (x + c s) (kx + 1) s)
  have htg : g ≠ tr g s := fun z => by
    have := hu x kx st0 (by rw [z.symm] at ht; exact ht)
    omega
  -- the new price is not above the old
  have hPle : ∀ q ∈ GR n, Pv (dget (dput kvs g (pv (x + c s) (kx + 1) s)) q) ≤ Pv (dget kvs q) := fun q hq => by
    rw [key hq]
    split
    · rename_i z
      subst z
      rw [Pv_pv]
      cases hgk : dget kvs g with
      | none => show _ ≤ 200; omega
      | some d =>
        obtain ⟨y, ky, sy, rfl, _⟩ := h4 _ hg _ hgk
        rw [Pv_pv]
        have := hu _ _ _ hgk
        omega
    · exact Nat.le_refl _
  have hPm : Pm n (dput kvs g (pv (x + c s) (kx + 1) s)) ≤ Pm n kvs := sum_le hPle
  have cs : Pm n (dput kvs g (pv (x + c s) (kx + 1) s)) < Pm n kvs ∨ ((∃ y ky sy, dget kvs g = some (pv y ky sy) ∧ x + c s = y ∧ kx + 1 < ky)) := by
    cases hgk : dget kvs g with
    | none =>
      refine .inl (sum_lt hPle hg ?_)
      rw [key hg, if_pos rfl, Pv_pv, hgk]
      show _ < 200
      omega
    | some d =>
      obtain ⟨y, ky, sy, rfl, _⟩ := h4 _ hg _ hgk
      rcases hu _ _ _ hgk with z | z
      · refine .inl (sum_lt hPle hg ?_)
        rw [key hg, if_pos rfl, Pv_pv, hgk, Pv_pv]
        exact z
      · exact .inr ⟨y, ky, sy, rfl, z⟩
  have hknew : kx + 1 + Pm n (dput kvs g (pv (x + c s) (kx + 1) s)) ≤ 3000 := by
    rcases cs with z | ⟨y, ky, sy, e, _, z⟩
    · omega
    · obtain ⟨y', ky', sy', e', _, _, z', _⟩ := h4 _ hg _ e
      obtain ⟨rfl, rfl, rfl⟩ := pv_inj e'
      omega
  have good : PGood n c goal (dput kvs g (pv (x + c s) (kx + 1) s)) := by
    refine ⟨dput_kin h1 hg, dput_nodup (f_GR hn).1 h1 hg h0, ?_, ?_, ?_⟩
    · rw [len_put]
      split
      · exact Nat.le_trans h2 hp.1
      · rename_i z
        have := hp.2 (by simpa using z)
        omega
    · rw [key hgo, if_neg hgg]; exact h3
    · intro q hq d hd
      rw [key hq] at hd
      split at hd
      · rename_i z
        subst z
        cases hd
        refine ⟨_, _, _, rfl, .cons hg hs w, ?_, hknew, .inr ⟨hgg, hs, x, kx, st0, by rw [key htr, if_neg htg]; exact ht, .inr ⟨rfl, Nat.le_refl _⟩⟩⟩
        cases hgk : dget kvs g with
        | none =>
          have := hp.2 (by rw [hgk]; rfl)
          omega
        | some d =>
          obtain ⟨y, ky, sy, rfl, _, hy, _⟩ := h4 _ hg _ hgk
          have := hu _ _ _ hgk
          omega
      · obtain ⟨p, k, st, e, w, hy, hk2, hz⟩ := h4 q hq d hd
        refine ⟨p, k, st, e, w, by omega, by omega, ?_⟩
        rcases hz with z | ⟨z1, z2, p', k', st', z3, z4⟩
        · exact .inl z
        · refine .inr ⟨z1, z2, ?_⟩
          have hq2 := (f_tr hn hq z2).2.2
          by_cases e2 : g = tr q st
          · rw [← e2] at z3
            refine ⟨x + c s, kx + 1, s, by rw [key hq2, if_pos e2], ?_⟩
            have := hu _ _ _ z3
            omega
          · exact ⟨p', k', st', by rw [key hq2, if_neg e2]; exact z3, z4⟩
  refine ⟨good, ?_⟩
  have hKb : Km n (dput kvs g (pv (x + c s) (kx + 1) s)) ≤ (GR n).length * 3000 := sum_bd fun q hq => by
    show Kv (dget (dput kvs g (pv (x + c s) (kx + 1) s)) q) ≤ 3000
    cases hqk : dget (dput kvs g (pv (x + c s) (kx + 1) s)) q with
    | none => exact Nat.zero_le _
    | some d =>
      obtain ⟨p, k, st, rfl, _, _, hk2, _⟩ := good.2.2.2.2 q hq d hqk
      rw [Kv_pv]; omega
  have hlen := (f_len hn).1
  unfold Pμ
  rcases cs with z | ⟨y, ky, sy, e, z1, z2⟩
  · have : (Pm n (dput kvs g (pv (x + c s) (kx + 1) s)) + 1) * 45001 ≤ Pm n kvs * 45001 := Nat.mul_le_mul_right _ z
    omega
  · have hK : Km n (dput kvs g (pv (x + c s) (kx + 1) s)) < Km n kvs := sum_lt (x := g) (fun q hq => by
      rw [key hq]
      split
      · rename_i z
        subst z
        rw [Kv_pv, e, Kv_pv]; omega
      · exact Nat.le_refl _) hg (by rw [key hg, if_pos rfl, Kv_pv, e, Kv_pv]; exact z2)
    have : Pm n (dput kvs g (pv (x + c s) (kx + 1) s)) * 45001 ≤ Pm n kvs * 45001 := Nat.mul_le_mul_right _ hPm
    omega
end
def progBody : Sl → Option Out := andT (sset 9 (dfn 2 A_stepped (ac (dv 7) (ac (dv 8) (an))))) (sif (tinO 5 id (dv 9)) (andT (sset 10 (dl mkT (ac (d2 addD (d2 ixD (dixO 5 (dv 9)) (dc (.int 0))) (d2 ixD (dv 3) (dv 8))) (ac (d2 addD (d2 ixD (dixO 5 (dv 9)) (dc (.int 1))) (dc (.int 1))) (ac (dv 8) (an)))))) (sif (tand (tb (d2 neD (dv 7) (dv 0))) (tor (tinO 5 not (dv 7)) (tb (d2 ltD (dsl (dv 10) (pn) (ps1 (dc (.int 2)))) (dsl (dixO 5 (dv 7)) (pn) (ps1 (dc (.int 2)))))))) (andT (sput 5 (dv 7) (dv 10)) (sset 6 (dc (.bool true)))) (snil))) (snil))
def PFr (δ0 δ : Sl) : Prop := δ.length = 11 ∧ ∀ i, i < 5 → δ[i]? = δ0[i]?
theorem PFr.set {δ0 δ : Sl} (h : PFr δ0 δ) {i : Nat} {x : Option SD} (hi : 5 ≤ i) : PFr δ0 (δ.set i x) := by
  refine ⟨by rw [List.length_set]; exact h.1, fun j h1 => ?_⟩
  rw [List.getElem?_set_ne (by omega)]
  exact h.2 j h1
theorem ev_ixi {δ : Sl} {a : Sl → Option D} {x z : D} {i : Int} (h1 : a δ = some x) (h : ixD x (.int i) = some z) : d2 ixD a (dc (.int i)) δ = some z := by
  rw [ev_d2 (y := .int i) h1 rfl]; exact h
theorem ev_sl2 {δ : Sl} {a : Sl → Option D} {p k : Nat} {st : D} (h : a δ = some (pv p k st)) : dsl a pn (ps1 (dc (.int 2))) δ = some (.tuple [.int p, .int k]) := by
  unfold dsl; rw [h]; rfl
section
variable {n : Nat} {c : D → Nat} {goal : D} {kp : List (D × D)} {δ0 : Sl} (hn : n ∈ ns) (hgo : goal ∈ GR n) (hc : ∀ s ∈ ST n, c s ≤ 7 ∧ dget kp s = some (.int (c s)))
  (h0 : δ0[0]? = some (some (.sh goal))) (h2 : δ0[2]? = some (some (.sh (.int n)))) (h3 : δ0[3]? = some (some (.sh (.dict kp)))) (h4 : δ0[4]? = some (some (.sh (.list (GR n)))))
include hn hgo hc h0 h3
theorem prog_body {δ : Sl} {kvs : List (D × D)} {fl : Bool} {g s : D} (hF : PFr δ0 δ) (e5 : δ[5]? = some (some (.own kvs))) (e6 : δ[6]? = some (some (.sh (.bool fl)))) (e7 : δ[7]? = some (some (.sh g))) (e8 : δ[8]? = some (some (.sh s)))
    (hg : g ∈ GR n) (hs : s ∈ ST n) (h : PGood n c goal kvs) :
    ∃ δ' kvs' fl', progBody δ = some (.nx δ') ∧ PFr δ0 δ' ∧ δ'[5]? = some (some (.own kvs')) ∧ δ'[6]? = some (some (.sh (.bool fl'))) ∧ δ'[7]? = some (some (.sh g)) ∧
      ((PNU c goal kvs g s ∧ kvs' = kvs ∧ fl' = fl) ∨ (fl' = true ∧ PGood n c goal kvs' ∧ Pμ n kvs' < Pμ n kvs)) := by
  have hl := hF.1
  obtain ⟨ht1, ht2, ht3⟩ := f_tr hn hg hs
  obtain ⟨kt, hkt⟩ := ((f_GR hn).2 _ ht3).1
  obtain ⟨kg, hkg⟩ := ((f_GR hn).2 _ hg).1
  obtain ⟨ks, hks⟩ := ((f_ST hn).2 _ hs).1
  have e1 : sset 9 (dfn 2 A_stepped (ac (dv 7) (ac (dv 8) (an)))) δ = some (.nx (δ.set 9 (some (.sh (tr g s))))) := ev_set (ev_fn2 (dv_of e7) (dv_of e8) ht2)
  unfold progBody
  rw [ev_and e1]
  generalize hδ : δ.set 9 (some (.sh (tr g s))) = δ1
  have F1 : PFr δ0 δ1 := by rw [← hδ]; exact hF.set (by decide)
  have a5 : δ1[5]? = some (some (.own kvs)) := by rw [← hδ, get_set (by omega), if_neg (by decide)]; exact e5
  have a6 : δ1[6]? = some (some (.sh (.bool fl))) := by rw [← hδ, get_set (by omega), if_neg (by decide)]; exact e6
  have a7 : δ1[7]? = some (some (.sh g)) := by rw [← hδ, get_set (by omega), if_neg (by decide)]; exact e7
  have a8 : δ1[8]? = some (some (.sh s)) := by rw [← hδ, get_set (by omega), if_neg (by decide)]; exact e8
  have a9 : δ1[9]? = some (some (.sh (tr g s))) := by rw [← hδ, get_set (by omega), if_pos rfl]
  have a0 : δ1[0]? = some (some (.sh goal)) := by rw [F1.2 0 (by decide)]; exact h0
  have a3 : δ1[3]? = some (some (.sh (.dict kp))) := by rw [F1.2 3 (by decide)]; exact h3
  have b1 : tinO 5 id (dv 9) δ1 = some (dget kvs (tr g s)).isSome := ev_tin a5 (dv_of a9) hkt
  have hlen : kvs.length < 1000000 := by have := h.2.2.1; have := pc_le hn kvs; omega
  cases htk : dget kvs (tr g s) with
  | none =>
    refine ⟨δ1, kvs, fl, ?_, F1, a5, a6, a7, .inl ⟨fun _ x kx st hx => (by rw [htk] at hx; cases hx), rfl, rfl⟩⟩
    rw [ev_if b1, htk]; rfl
  | some dt =>
    obtain ⟨x, kx, st0, rfl, w, hx, hkx, _⟩ := h.2.2.2.2 _ ht3 _ htk
    have b3 : dixO 5 (dv 9) δ1 = some (pv x kx st0) := (ev_dix a5 (dv_of a9) hkt).trans htk
    have b4 : d2 ixD (dv 3) (dv 8) δ1 = some (.int (c s)) := by
      rw [ev_d2 (dv_of a3) (dv_of a8)]
      have htup : ∃ ds, s = .tuple ds := by
        cases s with
        | tuple ds => exact ⟨ds, rfl⟩
        | _ => cases hks
      obtain ⟨ds, rfl⟩ := htup
      show ((tkey (.tuple ds)).bind fun _ => dget kp (.tuple ds)) = _
      rw [hks]
      exact (hc _ hs).2
    have b5 : dl mkT (ac (d2 addD (d2 ixD (dixO 5 (dv 9)) (dc (.int 0))) (d2 ixD (dv 3) (dv 8))) (ac (d2 addD (d2 ixD (dixO 5 (dv 9)) (dc (.int 1))) (dc (.int 1))) (ac (dv 8) (an)))) δ1 = some (pv (x + c s) (kx + 1) s) := by
      have q1 : d2 addD (d2 ixD (dixO 5 (dv 9)) (dc (.int 0))) (d2 ixD (dv 3) (dv 8)) δ1 = some (.int (x + c s : Nat)) := by
        rw [ev_d2 (ev_ixi (z := .int x) b3 rfl) b4]
        show some (PyData.int ((x : Int) + (c s : Int))) = _
        rw [Int.natCast_add]
      have q2 : d2 addD (d2 ixD (dixO 5 (dv 9)) (dc (.int 1))) (dc (.int 1)) δ1 = some (.int (kx + 1 : Nat)) := by
        rw [ev_d2 (y := .int 1) (ev_ixi (z := .int kx) b3 rfl) rfl]; rfl
      unfold dl ac an
      rw [q1, q2, dv_of a8]
      rfl
    have e2 := ev_set (i := 10) b5
    rw [ev_if b1, htk]
    show ∃ δ' kvs' fl', (andT _ _ δ1 = some (.nx δ')) ∧ _
    rw [ev_and e2]
    generalize hδ2 : δ1.set 10 (some (.sh (pv (x + c s) (kx + 1) s))) = δ2
    have hl1 := F1.1
    have F2 : PFr δ0 δ2 := by rw [← hδ2]; exact F1.set (by decide)
    have hl2 := F2.1
    have d5 : δ2[5]? = some (some (.own kvs)) := by rw [← hδ2, get_set (by omega), if_neg (by decide)]; exact a5
    have d6 : δ2[6]? = some (some (.sh (.bool fl))) := by rw [← hδ2, get_set (by omega), if_neg (by decide)]; exact a6
    have d7 : δ2[7]? = some (some (.sh g)) := by rw [← hδ2, get_set (by omega), if_neg (by decide)]; exact a7
    have d10 : δ2[10]? = some (some (.sh (pv (x + c s) (kx + 1) s))) := by rw [← hδ2, get_set (by omega), if_pos rfl]
    have d0 : δ2[0]? = some (some (.sh goal)) := by rw [F2.2 0 (by decide)]; exact h0
    have b2 : tinO 5 not (dv 7) δ2 = some (!(dget kvs g).isSome) := ev_tin d5 (dv_of d7) hkg
    have b6 : dixO 5 (dv 7) δ2 = dget kvs g := ev_dix d5 (dv_of d7) hkg
    have b7 : tb (d2 neD (dv 7) (dv 0)) δ2 = some (!PyData.eqv g goal) := by
      refine ev_tb ?_
      rw [ev_d2 (dv_of d7) (dv_of d0)]
      unfold neD
      rw [((f_GR hn).2 _ hg).2.1, ((f_GR hn).2 _ hgo).2.1]; rfl
    by_cases hgg : g = goal
    · refine ⟨δ2, kvs, fl, ?_, F2, d5, d6, d7, .inl ⟨fun z => absurd hgg z, rfl, rfl⟩⟩
      have : PyData.eqv g goal = true := ((f_GR hn).1 g hg goal hgo).mpr hgg
      rw [ev_if (v := false) (by rw [ev_tand b7, this]; rfl)]; rfl
    have hne : PyData.eqv g goal = false := by
      cases e : PyData.eqv g goal with
      | false => rfl
      | true => exact absurd (((f_GR hn).1 g hg goal hgo).mp e) hgg
    have yes : (∀ y ky st, dget kvs g = some (pv y ky st) → x + c s < y ∨ (x + c s = y ∧ kx + 1 < ky)) → tand (tb (d2 neD (dv 7) (dv 0))) (tor (tinO 5 not (dv 7)) (tb (d2 ltD (dsl (dv 10) (pn) (ps1 (dc (.int 2)))) (dsl (dixO 5 (dv 7)) (pn) (ps1 (dc (.int 2))))))) δ2 = some true →
        ∃ δ' kvs' fl', sif (tand (tb (d2 neD (dv 7) (dv 0))) (tor (tinO 5 not (dv 7)) (tb (d2 ltD (dsl (dv 10) (pn) (ps1 (dc (.int 2)))) (dsl (dixO 5 (dv 7)) (pn) (ps1 (dc (.int 2)))))))) (andT (sput 5 (dv 7) (dv 10)) (sset 6 (dc (.bool true)))) (snil) δ2 = some (.nx δ') ∧ PFr δ0 δ' ∧ δ'[5]? = some (some (.own kvs')) ∧ δ'[6]? = some (some (.sh (.bool fl'))) ∧ δ'[7]? = some (some (.sh g)) ∧
          ((PNU c goal kvs g s ∧ kvs' = kvs ∧ fl' = fl) ∨ (fl' = true ∧ PGood n c goal kvs' ∧ Pμ n kvs' < Pμ n kvs)) := by
      intro hu hv
      rw [ev_if hv, if_pos rfl, ev_and (ev_put d5 (dv_of d10) (dv_of d7) hkg hlen), ev_set (x := .bool true) rfl]
      refine ⟨_, _, true, rfl, (F2.set (by decide)).set (by decide), ?_, ?_, ?_, .inr ⟨rfl, pgood_put hn hgo (fun s hs => (hc s hs).1) h hg hs hgg htk hu⟩⟩
      · rw [get_set (by rw [List.length_set]; omega), if_neg (by decide), get_set (by omega), if_pos rfl]
      · rw [get_set (by rw [List.length_set]; omega), if_pos rfl]
      · rw [get_set (by rw [List.length_set]; omega), if_neg (by decide), get_set (by omega), if_neg (by decide)]; exact d7
    cases hgk : dget kvs g with
    | none =>
      refine yes (fun y ky st hy => by rw [hgk] at hy; cases hy) ?_
      rw [ev_tand b7, hne]
      show tor _ _ δ2 = _
      rw [ev_tor b2, hgk]; rfl
    | some dg =>
      obtain ⟨y, ky, sy, rfl, _⟩ := h.2.2.2.2 _ hg _ hgk
      have b8 : tb (d2 ltD (dsl (dv 10) (pn) (ps1 (dc (.int 2)))) (dsl (dixO 5 (dv 7)) (pn) (ps1 (dc (.int 2))))) δ2 = some (HT.lexLt [((x + c s : Nat) : Int), ((kx + 1 : Nat) : Int)] [(y : Int), (ky : Int)]) :=
        ev_tb (by rw [ev_d2 (ev_sl2 (dv_of d10)) (ev_sl2 (b6.trans hgk))]; rfl)
      have hv : tand (tb (d2 neD (dv 7) (dv 0))) (tor (tinO 5 not (dv 7)) (tb (d2 ltD (dsl (dv 10) (pn) (ps1 (dc (.int 2)))) (dsl (dixO 5 (dv 7)) (pn) (ps1 (dc (.int 2))))))) δ2 = some (HT.lexLt [((x + c s : Nat) : Int), ((kx + 1 : Nat) : Int)] [(y : Int), (ky : Int)]) := by
        rw [ev_tand b7, hne]
        show tor _ _ δ2 = _
        rw [ev_tor b2, hgk]
        exact b8
      have hlex : HT.lexLt [((x + c s : Nat) : Int), ((kx + 1 : Nat) : Int)] [(y : Int), (ky : Int)] = decide (x + c s < y ∨ (x + c s = y ∧ kx + 1 < ky)) := by
        rw [HT.lexLt_cons, HT.lexLt_cons, HT.lexLt_nil_nil]
        by_cases q1 : x + c s = y
        · rw [if_pos (by omega)]
          by_cases q2 : kx + 1 = ky
          · rw [if_pos (by omega)]; simp; omega
          · rw [if_neg (by omega)]
            simp only [decide_eq_decide]; omega
        · rw [if_neg (by omega)]
          simp only [decide_eq_decide]; omega
      rw [hlex] at hv
      by_cases hlt : x + c s < y ∨ (x + c s = y ∧ kx + 1 < ky)
      · refine yes (fun y' ky' st' hy' => ?_) ?_
        · rw [hgk] at hy'
          obtain ⟨rfl, rfl, rfl⟩ := pv_inj (Option.some.inj hy')
          exact hlt
        · rw [hv, decide_eq_true hlt]
      · refine ⟨δ2, kvs, fl, ?_, F2, d5, d6, d7, .inl ⟨fun _ x' kx' st' hx' => ⟨y, ky, sy, hgk, ?_⟩, rfl, rfl⟩⟩
        · rw [ev_if hv, if_neg (by simpa using hlt)]
          rfl
        · rw [htk] at hx'
          obtain ⟨rfl, rfl, rfl⟩ := pv_inj (Option.some.inj hx')
          exact hlt
include h2 h4
theorem prog_loop {δ : Sl} {kvs : List (D × D)} (hF : PFr δ0 δ) (e5 : δ[5]? = some (some (.own kvs))) (e6 : δ[6]? = some (some (.sh (.bool true)))) (h : PGood n c goal kvs) :
    ∃ δ' kvs', swh fuel (tb (dv 6)) (andT (sset 6 (dc (.bool false))) (sfor (iseq (dv 4)) (tg1 7) (sfor (iseq (dfn 1 A_all_steps (ac (dv 2) (an)))) (tg1 8) progBody))) δ = some (.nx δ') ∧ PFr δ0 δ' ∧ δ'[5]? = some (some (.own kvs')) ∧ PGood n c goal kvs' ∧ ∀ g ∈ GR n, ∀ s ∈ ST n, PNU c goal kvs' g s := by
  refine bf_loop (N := fuel) (oi := 5) (fi := 6) (hi := 7) (si := 8) (gi := 4) (it := iseq (dfn 1 A_all_steps (ac (dv 2) (an)))) (body := progBody) (Fr := PFr δ0) (Good := PGood n c goal) (NU := PNU c goal) (μ := Pμ n) (by decide) (by decide) (by decide) (by decide) (by decide) (by decide)
    (fun δ x i hi hF => hF.set (by omega)) (fun δ hF => by have := hF.1; omega) (fun δ hF => dv_of ?_) (fun δ hF => ?_) (fun δ kvs fl g s hF e1 e2 e3 e4 hg hs hG => prog_body hn hgo hc h0 h3 hF e1 e2 e3 e4 hg hs hG) hF e5 e6 h ?_
  · rw [hF.2 4 (by decide)]; exact h4
  · unfold iseq
    rw [ev_fn1 (dv_of (d := .int n) (by rw [hF.2 2 (by decide)]; exact h2)) (f_lists hn).2.2.2]; rfl
  · have hlen := (f_len hn).1
    have hb : Pm n kvs ≤ (GR n).length * 200 := sum_bd fun q hq => by
      show Pv (dget kvs q) ≤ 200
      cases hd : dget kvs q with
      | none => exact Nat.le_refl _
      | some d =>
        obtain ⟨p, k, st, rfl, _, hy, _⟩ := h.2.2.2.2 q hq d hd
        have := pc_le hn kvs
        rw [Pv_pv]; omega
    have hK : Km n kvs ≤ (GR n).length * 3000 := sum_bd fun q hq => by
      show Kv (dget kvs q) ≤ 3000
      cases hd : dget kvs q with
      | none => exact Nat.zero_le _
      | some d =>
        obtain ⟨p, k, st, rfl, _, _, hk2, _⟩ := h.2.2.2.2 q hq d hd
        rw [Kv_pv]; omega
    have : Pm n kvs * 45001 ≤ 3000 * 45001 := Nat.mul_le_mul_right _ (by omega)
    unfold fuel Pμ
    omega
end
end Gd

set_option maxHeartbeats 2000000
/-! GmG: both ends: the same least prices. -/
namespace Gd
open PySem PySem.Spec PyProof.Rows L2
structure Pr (n : Nat) (pr : D) (c : D → Nat) (kl kp : List (D × D)) : Prop where
  hn : n ∈ ns
  ptab : A_price_table [.int n, pr] = some (.dict kp)
  are : A_are_prices [.int n, pr] = some (.bool true)
  cl : ∀ s ∈ ST n, c s ≤ 7 ∧ dget kl s = some (.int (c s))
  cp : ∀ s ∈ ST n, c s ≤ 7 ∧ dget kp s = some (.int (c s))
  kpk : tupKeys kp = true
  kpm : ∀ s, s ∈ keysD kp ↔ s ∈ ST n
  klk : keysD kl = ST n
  klt : tupKeys kl = true
/-- the least price of each -/
structure Lst (n : Nat) (c : D → Nat) (goal : D) (f : D → Nat) : Prop where
  wk : ∀ g ∈ GR n, Wk n c goal g (f g)
  le : ∀ g x, Wk n c goal g x → f g ≤ x
theorem Wk.mem {n : Nat} {c : D → Nat} {goal g : D} {x : Nat} (hgo : goal ∈ GR n) (h : Wk n c goal g x) : g ∈ GR n := by
  cases h with
  | nil => exact hgo
  | cons h _ _ => exact h
theorem Lst.unique {n : Nat} {c : D → Nat} {goal : D} {f f' : D → Nat} (h : Lst n c goal f) (h' : Lst n c goal f') : ∀ g ∈ GR n, f g = f' g := fun g hg =>
  Nat.le_antisymm (h.le g _ (h'.wk g hg)) (h'.le g _ (h.wk g hg))
section
variable {n : Nat} {pr : D} {c : D → Nat} {kl kp : List (D × D)} {goal : D} (P : Pr n pr c kl kp) (hgo : goal ∈ GR n)
include P hgo
theorem pc_one (v : D) : 1 ≤ pc n [(goal, v)] := by
  have hi : KIn (GR n) [(goal, v)] := fun p hp => by
    have : p = (goal, v) := by simpa using hp
    rw [this]; exact hgo
  have h := sum_lt (f := fun _ => 0) (g := fun g => if (dget [(goal, v)] g).isSome = true then 1 else 0) (x := goal) (G := GR n) (fun x _ => Nat.zero_le _) hgo (by
    rw [dget_cons (f_GR P.hn).1 hgo hgo, if_pos rfl]; simp)
  unfold pc
  omega
theorem dget_one (v : D) {g : D} (hg : g ∈ GR n) : dget [(goal, v)] g = if goal = g then some v else none := by
  rw [dget_cons (f_GR P.hn).1 hgo hg]; rfl
theorem lgood0 : LGood n c goal [(goal, .int 0)] := by
  refine ⟨fun p hp => ?_, pc_one P hgo _, by rw [dget_one P hgo _ hgo, if_pos rfl], fun g hg d hd => ?_⟩
  · have : p = (goal, .int 0) := by simpa using hp
    rw [this]; exact hgo
  · rw [dget_one P hgo _ hg] at hd
    split at hd
    · rename_i z
      subst z
      cases hd
      exact ⟨0, rfl, .nil, Nat.zero_le _⟩
    · cases hd
theorem pgood0 : PGood n c goal [(goal, pv 0 0 .none)] := by
  refine ⟨fun p hp => ?_, by simp [keysD], pc_one P hgo _, by rw [dget_one P hgo _ hgo, if_pos rfl], fun g hg d hd => ?_⟩
  · have : p = (goal, pv 0 0 .none) := by simpa using hp
    rw [this]; exact hgo
  · rw [dget_one P hgo _ hg] at hd
    split at hd
    · rename_i z
      subst z
      cases hd
      refine ⟨0, 0, .none, rfl, .nil, Nat.zero_le _, ?_, .inl ⟨rfl, rfl, rfl, rfl⟩⟩
      have hb : Pm n [(goal, pv 0 0 .none)] ≤ (GR n).length * 200 := sum_bd fun q hq => by
        rw [dget_one P hgo _ hq]
        split
        · rw [Pv_pv]; omega
        · exact Nat.le_refl _
      have := (f_len P.hn).1
      omega
    · cases hd
theorem law_final {kvs : List (D × D)} (h : LGood n c goal kvs) (hu : ∀ g ∈ GR n, ∀ s ∈ ST n, LNU c kvs g s) : ∃ f, Lst n c goal f ∧ ∀ g ∈ GR n, dget kvs g = some (.int (f g)) := by
  have hall : ∀ g ∈ GR n, ∃ x : Nat, dget kvs g = some (.int x) := reach P.hn hgo (fun g => ∃ x : Nat, dget kvs g = some (.int x)) ⟨0, h.2.2.1⟩ fun g hg s hs ⟨x, hx⟩ => by
    obtain ⟨y, hy, _⟩ := hu g hg s hs x hx
    exact ⟨y, hy⟩
  let f : D → Nat := fun g => Lv (dget kvs g)
  have hf : ∀ g ∈ GR n, dget kvs g = some (.int (f g)) := fun g hg => by
    obtain ⟨x, hx⟩ := hall g hg
    have : f g = x := by
      show Lv (dget kvs g) = x
      rw [hx]
      show ((x : Int)).toNat = x
      omega
    rw [this]; exact hx
  refine ⟨f, ⟨fun g hg => ?_, fun g x w => ?_⟩, hf⟩
  · obtain ⟨x, e, w, _⟩ := h.2.2.2 g hg _ (hf g hg)
    have := PyData.int.inj e
    have : x = f g := by omega
    rw [← this]; exact w
  · induction w with
    | nil =>
      have := hf goal hgo
      rw [h.2.2.1] at this
      have := PyData.int.inj (Option.some.inj this)
      omega
    | @cons g s x hg hs w ih =>
      obtain ⟨y, hy, hle⟩ := hu g hg s hs _ (hf _ (f_tr P.hn hg hs).2.2)
      rw [hf g hg] at hy
      have := PyData.int.inj (Option.some.inj hy)
      omega
/-- what the program's entries say -/
structure Ent' (n : Nat) (c : D → Nat) (goal : D) (kvs : List (D × D)) (f k : D → Nat) (st : D → D) : Prop where
  lst : Lst n c goal f
  get : ∀ g ∈ GR n, dget kvs g = some (pv (f g) (k g) (st g))
  go : f goal = 0 ∧ k goal = 0
  dn : ∀ g ∈ GR n, g ≠ goal → st g ∈ ST n ∧ f g = f (tr g (st g)) + c (st g) ∧ k g = k (tr g (st g)) + 1
theorem prog_final {kvs : List (D × D)} (h : PGood n c goal kvs) (hu : ∀ g ∈ GR n, ∀ s ∈ ST n, PNU c goal kvs g s) : ∃ f k st, Ent' n c goal kvs f k st := by
  have hall : ∀ g ∈ GR n, ∃ p k st, dget kvs g = some (pv p k st) := reach P.hn hgo (fun g => ∃ p k st, dget kvs g = some (pv p k st)) ⟨0, 0, .none, h.2.2.2.1⟩ fun g hg s hs ⟨x, kx, st, hx⟩ => by
    by_cases z : g = goal
    · subst z; exact ⟨0, 0, .none, h.2.2.2.1⟩
    obtain ⟨y, ky, sy, hy, _⟩ := hu g hg s hs z x kx st hx
    exact ⟨y, ky, sy, hy⟩
  let f : D → Nat := fun g => Pv (dget kvs g)
  let k : D → Nat := fun g => Kv (dget kvs g)
  let st : D → D := fun g => match dget kvs g with
    | some (.tuple [.int _, .int _, s]) => s
    | _ => .none
  have hf : ∀ g ∈ GR n, dget kvs g = some (pv (f g) (k g) (st g)) := fun g hg => by
    obtain ⟨x, kx, sx, hx⟩ := hall g hg
    have e1 : f g = x := by show Pv (dget kvs g) = x; rw [hx, Pv_pv]
    have e2 : k g = kx := by show Kv (dget kvs g) = kx; rw [hx, Kv_pv]
    have e3 : st g = sx := by
      show (match dget kvs g with
        | some (.tuple [.int _, .int _, s]) => s
        | _ => PyData.none) = sx
      rw [hx]; rfl
    rw [e1, e2, e3]; exact hx
  have hg0 : f goal = 0 ∧ k goal = 0 := by
    have := hf goal hgo
    rw [h.2.2.2.1] at this
    obtain ⟨e1, e2, _⟩ := pv_inj (Option.some.inj this)
    exact ⟨e1.symm, e2.symm⟩
  refine ⟨f, k, st, ⟨fun g hg => ?_, fun g x w => ?_⟩, hf, hg0, fun g hg hgg => ?_⟩
  · obtain ⟨p, kp', sp, e, w, _⟩ := h.2.2.2.2 g hg _ (hf g hg)
    obtain ⟨e1, _, _⟩ := pv_inj e
    rw [e1]; exact w
  · induction w with
    | nil => omega
    | @cons g s x hg hs w ih =>
      by_cases z : g = goal
      · subst z; omega
      obtain ⟨y, ky, sy, hy, hle⟩ := hu g hg s hs z _ _ _ (hf _ (f_tr P.hn hg hs).2.2)
      rw [hf g hg] at hy
      obtain ⟨e1, _, _⟩ := pv_inj (Option.some.inj hy)
      omega
  · obtain ⟨p, kp', sp, e, w, _, _, hz⟩ := h.2.2.2.2 g hg _ (hf g hg)
    obtain ⟨e1, e2, e3⟩ := pv_inj e
    rcases hz with ⟨z, _⟩ | ⟨_, hs, p', k', s', hd, hle⟩
    · exact absurd z hgg
    · rw [← e3] at hs hd hle
      have ht := (f_tr P.hn hg hs).2.2
      rw [hf _ ht] at hd
      obtain ⟨a1, a2, a3⟩ := pv_inj (Option.some.inj hd)
      obtain ⟨y, ky, sy, hy, hn'⟩ := hu g hg _ hs hgg _ _ _ (hf _ ht)
      rw [hf g hg] at hy
      obtain ⟨b1, b2, b3⟩ := pv_inj (Option.some.inj hy)
      exact ⟨hs, by omega, by omega⟩
theorem least_rows : ∃ kvs f k st, A_least_rows [goal, pr] = some (.dict kvs) ∧ PGood n c goal kvs ∧ Ent' n c goal kvs f k st := by
  obtain ⟨kg, hkg⟩ := ((f_GR P.hn).2 _ hgo).1
  let δ3 : Sl := [some (.sh goal), some (.sh pr), some (.sh (.int n)), some (.sh (.dict kp)), some (.sh (.list (GR n))), some (.own [(goal, pv 0 0 .none)]), some (.sh (.bool true)), none, none, none, none]
  obtain ⟨δ', kvs, e, hF, e5, hG, hu⟩ := prog_loop (δ0 := δ3) P.hn hgo P.cp rfl rfl rfl rfl (δ := δ3) (kvs := [(goal, pv 0 0 .none)]) ⟨rfl, fun _ _ => rfl⟩ rfl rfl (pgood0 P hgo)
  obtain ⟨f, k, st, hE⟩ := prog_final P hgo hG hu
  refine ⟨kvs, f, k, st, ?_, hG, hE⟩
  have e1 : sset 2 (dfn 1 A_size_of (ac (dv 0) (an))) (startD 11 [goal, pr]) = some (.nx [some (.sh goal), some (.sh pr), some (.sh (.int n)), none, none, none, none, none, none, none, none]) := ev_set (ev_fn1 (x := goal) rfl (f_one P.hn hgo).2)
  have e2 : spar [3, 4] (aoc (dfn 2 A_price_table (ac (dv 2) (ac (dv 1) (an)))) (aoc (dfn 1 A_all_groupings (ac (dv 2) (an))) (aon))) [some (.sh goal), some (.sh pr), some (.sh (.int n)), none, none, none, none, none, none, none, none] =
      some (.nx [some (.sh goal), some (.sh pr), some (.sh (.int n)), some (.sh (.dict kp)), some (.sh (.list (GR n))), none, none, none, none, none, none]) := by
    unfold spar aoc aon
    rw [ev_fn2 (x := .int n) (y := pr) rfl rfl P.ptab, ev_fn1 (x := .int n) rfl (f_lists P.hn).2.1]
    rfl
  have e3 : spar [5, 6] (aof (fd1 (dv 0) (dl mkT (ac (dc (.int 0)) (ac (dc (.int 0)) (ac (dc .none) (an)))))) (aoc (dc (.bool true)) (aon))) [some (.sh goal), some (.sh pr), some (.sh (.int n)), some (.sh (.dict kp)), some (.sh (.list (GR n))), none, none, none, none, none, none] = some (.nx δ3) := by
    have : fd1 (dv 0) (dl mkT (ac (dc (.int 0)) (ac (dc (.int 0)) (ac (dc .none) (an))))) [some (.sh goal), some (.sh pr), some (.sh (.int n)), some (.sh (.dict kp)), some (.sh (.list (GR n))), none, none, none, none, none, none] = some (.own [(goal, pv 0 0 .none)]) := by
      show ((tkey goal).map fun _ => SD.own (dput [] goal (pv 0 0 .none))) = _
      rw [hkg]; rfl
    unfold spar aof aoc aon
    rw [this]; rfl
  have ef : F_least_rows (startD 11 [goal, pr]) = some (.rt (.dict kvs)) := by
    unfold F_least_rows
    rw [ev_and e1, ev_and e2, ev_and e3]
    show andT (swh fuel (tb (dv 6)) (andT (sset 6 (dc (.bool false))) (sfor (iseq (dv 4)) (tg1 7) (sfor (iseq (dfn 1 A_all_steps (ac (dv 2) (an)))) (tg1 8) progBody)))) (sfrz 5 (sret (dv 5))) δ3 = _
    rw [ev_and e]
    unfold sfrz
    rw [e5]
    show sret (dv 5) (δ'.set 5 (some (.sh (.dict kvs)))) = _
    unfold sret
    rw [dv_of (d := .dict kvs) (by rw [get_set (by have := hF.1; omega), if_pos rfl])]; rfl
  unfold A_least_rows ansD
  rw [ef]; rfl
end
end Gd

set_option maxHeartbeats 2000000
/-! GmH: worths; the cheapest row. -/
namespace Gd
open PySem PySem.Spec PyProof.Rows L2
/-- the place among the groupings -/
def rk (n : Nat) (g : D) : Nat := (GR n).findIdx (deq g)
theorem ck_rk : all2 (fun n g h => (leD' g h == decide (rk n g ≤ rk n h)) && (!(decide (rk n g = rk n h)) || deq g h) && PySem.W.alike g h && isTupC g && decide (g.depth ≤ 60)) GR GR = true := by decide +kernel
def pwB : List Nat → Bool
  | [] => true
  | x :: xs => xs.all (fun y => decide (x < y)) && pwB xs
theorem pwB_ok : ∀ {l : List Nat}, pwB l = true → l.Pairwise (· < ·)
  | [], _ => .nil
  | x :: xs, h => by
    have h : (xs.all (fun y => decide (x < y)) && pwB xs) = true := h
    rw [Bool.and_eq_true] at h
    exact List.pairwise_cons.mpr ⟨fun y hy => of_decide_eq_true (List.all_eq_true.mp h.1 y hy), pwB_ok h.2⟩
theorem ck_pw : (ns.all fun n => pwB ((GR n).map (rk n))) = true := by decide +kernel
theorem strict_eq {r : D → Nat} : ∀ {l m : List D}, (l.map r).Pairwise (· < ·) → (m.map r).Pairwise (· < ·) → (∀ x, x ∈ l ↔ x ∈ m) → l = m
  | [], [], _, _, _ => rfl
  | [], y :: m, _, _, h => by have := (h y).mpr List.mem_cons_self; cases this
  | x :: l, [], _, _, h => by have := (h x).mp List.mem_cons_self; cases this
  | x :: l, y :: m, h1, h2, h => by
    rw [List.map_cons, List.pairwise_cons] at h1 h2
    have e : x = y := by
      rcases List.mem_cons.mp ((h x).mp List.mem_cons_self) with z | z
      · exact z
      · rcases List.mem_cons.mp ((h y).mpr List.mem_cons_self) with z' | z'
        · exact z'.symm
        · have := h1.1 (r y) (List.mem_map.mpr ⟨y, z', rfl⟩)
          have := h2.1 (r x) (List.mem_map.mpr ⟨x, z, rfl⟩)
          omega
    subst e
    rw [strict_eq h1.2 h2.2 fun q => ?_]
    constructor
    · intro hq
      rcases List.mem_cons.mp ((h q).mp (List.mem_cons_of_mem _ hq)) with z | z
      · subst z
        have := h1.1 (r q) (List.mem_map.mpr ⟨q, hq, rfl⟩)
        omega
      · exact z
    · intro hq
      rcases List.mem_cons.mp ((h q).mpr (List.mem_cons_of_mem _ hq)) with z | z
      · subst z
        have := h2.1 (r q) (List.mem_map.mpr ⟨q, hq, rfl⟩)
        omega
      · exact z
theorem mem_ins' {le : D → D → Bool} {x y : D} : ∀ {l : List D}, y ∈ ins le x l ↔ y = x ∨ y ∈ l
  | [] => by simp [ins]
  | a :: l => by
    unfold ins
    split
    · simp
    · rw [List.mem_cons, mem_ins', List.mem_cons]
      constructor
      · rintro (h | h | h)
        · exact .inr (.inl h)
        · exact .inl h
        · exact .inr (.inr h)
      · rintro (h | h | h)
        · exact .inr (.inl h)
        · exact .inl h
        · exact .inr (.inr h)
theorem mem_isort' {le : D → D → Bool} {y : D} : ∀ {l : List D}, y ∈ isort le l ↔ y ∈ l
  | [] => Iff.rfl
  | a :: l => by
    show y ∈ ins le a (isort le l) ↔ _
    rw [mem_ins', mem_isort', List.mem_cons]
theorem ins_strict {le : D → D → Bool} {r : D → Nat} {G : List D} (hle : ∀ g ∈ G, ∀ h ∈ G, le g h = decide (r g ≤ r h)) (inj : ∀ g ∈ G, ∀ h ∈ G, r g = r h → g = h) {x : D} (hx : x ∈ G) :
    ∀ {l : List D}, (∀ y ∈ l, y ∈ G) → x ∉ l → (l.map r).Pairwise (· < ·) → ((ins le x l).map r).Pairwise (· < ·)
  | [], _, _, _ => by simp [ins]
  | a :: l, hG, hn, p => by
    have ha : a ∈ G := hG a List.mem_cons_self
    have hax : x ≠ a := fun z => hn (z ▸ List.mem_cons_self)
    rw [List.map_cons, List.pairwise_cons] at p
    unfold ins
    rw [hle x hx a ha]
    by_cases q : r x ≤ r a
    · rw [if_pos (decide_eq_true q)]
      have q : r x < r a := by
        rcases Nat.lt_or_eq_of_le q with q | q
        · exact q
        · exact absurd (inj x hx a ha q) hax
      rw [List.map_cons, List.pairwise_cons]
      refine ⟨fun b hb => ?_, by rw [List.map_cons, List.pairwise_cons]; exact p⟩
      rw [List.map_cons] at hb
      rcases List.mem_cons.mp hb with z | z
      · rw [z]; exact q
      · exact Nat.lt_trans q (p.1 b z)
    · rw [if_neg (by simpa using q), List.map_cons, List.pairwise_cons]
      refine ⟨fun b hb => ?_, ins_strict hle inj hx (fun y hy => hG y (List.mem_cons_of_mem _ hy)) (fun z => hn (List.mem_cons_of_mem _ z)) p.2⟩
      obtain ⟨d, hd, rfl⟩ := List.mem_map.mp hb
      rcases mem_ins'.mp hd with z | z
      · subst z; omega
      · exact p.1 _ (List.mem_map.mpr ⟨d, z, rfl⟩)
theorem isort_strict {le : D → D → Bool} {r : D → Nat} {G : List D} (hle : ∀ g ∈ G, ∀ h ∈ G, le g h = decide (r g ≤ r h)) (inj : ∀ g ∈ G, ∀ h ∈ G, r g = r h → g = h) :
    ∀ {l : List D}, (∀ y ∈ l, y ∈ G) → l.Nodup → ((isort le l).map r).Pairwise (· < ·)
  | [], _, _ => .nil
  | a :: l, hG, nd => by
    rw [List.nodup_cons] at nd
    exact ins_strict hle inj (hG a List.mem_cons_self) (fun y hy => hG y (List.mem_cons_of_mem _ (mem_isort'.mp hy))) (fun z => nd.1 (mem_isort'.mp z)) (isort_strict hle inj (fun y hy => hG y (List.mem_cons_of_mem _ hy)) nd.2)
theorem nods_all : ∀ {l : List D}, (∀ d ∈ l, nod d = true) → nods l = true
  | [], _ => rfl
  | d :: l, h => by
    show (nod d && nods l) = true
    rw [h d List.mem_cons_self, nods_all fun x hx => h x (List.mem_cons_of_mem _ hx)]; rfl
theorem sort_keys {n : Nat} (hn : n ∈ ns) {l : List D} (hG : ∀ y ∈ l, y ∈ GR n) (nd : l.Nodup) (all : ∀ y ∈ GR n, y ∈ l) (hl : l.length ≤ 1000000) : sortL l = some (GR n) := by
  have ck := fun {g h : D} (hg : g ∈ GR n) (hh : h ∈ GR n) => by
    have := all2_get ck_rk hn hg hh
    simp only [Bool.and_eq_true, Bool.or_eq_true, Bool.not_eq_true', decide_eq_true_eq, decide_eq_false_iff_not] at this
    exact this
  have ok : sortOk l = true := by
    unfold sortOk
    simp only [Bool.and_eq_true, Bool.or_eq_true, decide_eq_true_eq, List.all_eq_true]
    exact ⟨⟨⟨⟨hl, nods_all fun d hd => ((f_GR hn).2 d (hG d hd)).2.2⟩, fun x hx y hy => (ck (hG x hx) (hG y hy)).1.1.2⟩, .inl fun x hx => (ck (hG x hx) (hG x hx)).1.2⟩, fun x hx => (ck (hG x hx) (hG x hx)).2⟩
  unfold sortL
  rw [if_pos ok]
  congr 1
  refine strict_eq (r := rk n) (isort_strict (fun g hg h hh => eq_of_beq (ck hg hh).1.1.1.1) (fun g hg h hh e => ?_) hG nd) (pwB_ok (List.all_eq_true.mp ck_pw n hn)) fun x => ⟨fun hx => hG x (mem_isort'.mp hx), fun hx => mem_isort'.mpr (all x hx)⟩
  rcases (ck hg hh).1.1.1.2 with z | z
  · exact absurd e z
  · exact deq_eq z
theorem ck_tup : (all1 (fun n g => match g with
  | .tuple _ => true
  | _ => false) GR) = true := by decide +kernel
theorem tk_GR {n : Nat} (hn : n ∈ ns) {kvs : List (D × D)} (hi : KIn (GR n) kvs) (ne : kvs ≠ []) : tupKeys kvs = true := by
  cases kvs with
  | nil => exact absurd rfl ne
  | cons p kvs =>
    have := all1_get ck_tup hn (hi p List.mem_cons_self)
    obtain ⟨k, v⟩ := p
    cases k with
    | tuple ds => rfl
    | _ => cases this
theorem ixD_GR {n : Nat} (hn : n ∈ ns) {kvs : List (D × D)} {g : D} (hg : g ∈ GR n) : ixD (.dict kvs) g = dget kvs g := by
  obtain ⟨k, hk⟩ := ((f_GR hn).2 _ hg).1
  cases g with
  | tuple ds =>
    show ((tkey (.tuple ds)).bind fun _ => dget kvs (.tuple ds)) = _
    rw [hk]; rfl
  | _ => cases hk
theorem ixD_ST {n : Nat} (hn : n ∈ ns) {kvs : List (D × D)} {g : D} (hg : g ∈ ST n) : ixD (.dict kvs) g = dget kvs g := by
  obtain ⟨k, hk⟩ := ((f_ST hn).2 _ hg).1
  cases g with
  | tuple ds =>
    show ((tkey (.tuple ds)).bind fun _ => dget kvs (.tuple ds)) = _
    rw [hk]; rfl
  | _ => cases hk
theorem ev_drop {δ : Sl} {a : Sl → Option D} {x : D} (h : a δ = some x) : sdrop a δ = some (.nx δ) := by unfold sdrop; rw [h]; rfl
theorem ev_dl1 {δ : Sl} {g : List D → Option D} {a : Sl → Option D} {x : D} (h : a δ = some x) : dl g (ac a an) δ = g [x] := by unfold dl ac an; rw [h]; rfl
section
variable {n : Nat} {pr : D} {c : D → Nat} {kl kp : List (D × D)} {goal start : D} (P : Pr n pr c kl kp) (hgo : goal ∈ GR n) (hst : start ∈ GR n)
include P
theorem need_prices : A_need_prices [.int n, pr] = some .none := by
  have e : F_need_prices (startD 2 [.int n, pr]) = some (.nx (startD 2 [.int n, pr])) := by
    unfold F_need_prices
    rw [ev_if (v := false) (by
      show (tb (dfn 2 A_are_prices (ac (dv 0) (ac (dv 1) (an)))) (startD 2 [.int n, pr])).map (fun x => !x) = some false
      rw [ev_tb (v := true) (ev_fn2 (x := .int n) (y := pr) rfl rfl P.are)]; rfl)]
    rfl
  unfold A_need_prices ansD
  rw [e]; rfl
include hgo
theorem keys_all {kvs : List (D × D)} {f k : D → Nat} {st : D → D} (hG : PGood n c goal kvs) (hE : Ent' n c goal kvs f k st) : sortedN [.dict kvs] = some (.list (GR n)) := by
  have hk : ∀ y ∈ GR n, y ∈ keysD kvs := fun y hy => (dget_key (f_GR P.hn).1 hG.1 hy).mp (by rw [hE.get y hy]; rfl)
  have ne : kvs ≠ [] := fun z => by
    have := hk goal hgo
    rw [z] at this; cases this
  have hl : (keysD kvs).length ≤ 1000000 := by
    have := hG.2.2.1
    have := pc_le P.hn kvs
    unfold keysD
    rw [List.length_map]; omega
  show (if tupKeys kvs = true then (sortL (keysD kvs)).map PyData.list else none) = _
  rw [if_pos (tk_GR P.hn hG.1 ne), sort_keys P.hn (kin_iff.mp hG.1) hG.2.1 hk hl]; rfl
theorem worths_ok {f : D → Nat} (hf : Lst n c goal f) : A_worths [goal, pr] = some (.tuple ((GR n).map fun g => .int (f g))) := by
  obtain ⟨kvs, f', k, st, e, hG, hE⟩ := least_rows P hgo
  have e1 : sdrop (dfn 1 A_need_grouping (ac (dv 0) (an))) (startD 4 [goal, pr]) = some (.nx (startD 4 [goal, pr])) := ev_drop (ev_fn1 (x := goal) rfl (f_one P.hn hgo).1)
  have e2 : sdrop (dfn 2 A_need_prices (ac (dfn 1 A_size_of (ac (dv 0) (an))) (ac (dv 1) (an)))) (startD 4 [goal, pr]) = some (.nx (startD 4 [goal, pr])) := ev_drop (ev_fn2 (y := pr) (ev_fn1 (x := goal) rfl (f_one P.hn hgo).2) rfl (need_prices P))
  have e3 : sset 2 (dfn 2 A_least_rows (ac (dv 0) (ac (dv 1) (an)))) (startD 4 [goal, pr]) = some (.nx [some (.sh goal), some (.sh pr), some (.sh (.dict kvs)), none]) := ev_set (ev_fn2 (x := goal) (y := pr) rfl rfl e)
  have e4 : dlc [3] (iseq (dl sortedN (ac (dv 2) (an)))) (tg1 3) (tyes) (d2 ixD (d2 ixD (dv 2) (dv 3)) (dc (.int 0))) [some (.sh goal), some (.sh pr), some (.sh (.dict kvs)), none] = some (.list ((GR n).map fun g => .int (f g))) := by
    unfold dlc iseq
    rw [ev_dl1 (x := .dict kvs) rfl, keys_all P hgo hG hE]
    have hl := (f_len P.hn).1
    show (if (GR n).length ≤ 1000000 then (lcL (tg1 3) tyes (d2 ixD (d2 ixD (dv 2) (dv 3)) (dc (.int 0))) (GR n) [some (.sh goal), some (.sh pr), some (.sh (.dict kvs)), none]).map PyData.list else none) = _
    rw [if_pos (by omega), lcL_map (f := fun g => .int (f g)) fun g hg => ⟨[some (.sh goal), some (.sh pr), some (.sh (.dict kvs)), some (.sh g)], rfl, ?_⟩]
    · rfl
    · refine ev_ixi (x := pv (f' g) (k g) (st g)) ?_ ?_
      · rw [ev_d2 (x := .dict kvs) (y := g) rfl rfl, ixD_GR P.hn hg]
        exact hE.get g hg
      · rw [hf.unique hE.lst g hg]; rfl
  have ef : F_worths (startD 4 [goal, pr]) = some (.rt (.tuple ((GR n).map fun g => .int (f g)))) := by
    unfold F_worths
    rw [ev_and e1, ev_and e2, ev_and e3]
    unfold sret
    rw [ev_dl1 e4]; rfl
  unfold A_worths ansD
  rw [ef]; rfl
end
end Gd

set_option maxHeartbeats 2000000
/-! GmI: the cheapest row. -/
namespace Gd
open PySem PySem.Spec PyProof.Rows L2
def cost (c : D → Nat) (ws : List D) : Nat := (ws.map c).sum
theorem run_app {g : D} {ws : List D} {s : D} : run g (ws ++ [s]) = tr (run g ws) s := by unfold run; rw [List.foldl_append]; rfl
theorem cost_app {c : D → Nat} {ws : List D} {s : D} : cost c (ws ++ [s]) = cost c ws + c s := by unfold cost; rw [List.map_append, List.sum_append]; simp
theorem ev_fn3 {δ : Sl} {a b e : Sl → Option D} {x y v z : D} {F : List D → Option D} (h1 : a δ = some x) (h2 : b δ = some y) (h3 : e δ = some v) (h : F [x, y, v] = some z) : dfn 3 F (ac a (ac b (ac e an))) δ = some z := by
  unfold dfn ac an; rw [h1, h2, h3]; exact h
theorem eqv_of {G : List D} (hk : KeyOk G) {g h : D} (hg : g ∈ G) (hh : h ∈ G) : PyData.eqv g h = decide (g = h) := by
  by_cases z : g = h
  · rw [decide_eq_true z]; exact (hk g hg h hh).mpr z
  · rw [decide_eq_false z]
    cases e : PyData.eqv g h with
    | false => rfl
    | true => exact absurd ((hk g hg h hh).mp e) z
section
variable {n : Nat} {pr : D} {c : D → Nat} {kl kp : List (D × D)} {goal start : D} (P : Pr n pr c kl kp) (hgo : goal ∈ GR n) (hst : start ∈ GR n)
include P hgo
theorem k_down {kvs : List (D × D)} {f k : D → Nat} {st : D → D} (hE : Ent' n c goal kvs f k st) : ∀ (j : Nat) (g : D), g ∈ GR n → k g = j → ∀ i, i ≤ j → ∃ h ∈ GR n, k h = i
  | 0, g, hg, e, i, hi => ⟨g, hg, by omega⟩
  | j + 1, g, hg, e, i, hi => by
    by_cases z : i = j + 1
    · exact ⟨g, hg, by omega⟩
    · have hgg : g ≠ goal := fun q => by
        subst q
        have := hE.go.2
        omega
      obtain ⟨h1, _, h3⟩ := hE.dn g hg hgg
      exact k_down hE j _ (f_tr P.hn hg h1).2.2 (by omega) i (by omega)
theorem k_le {kvs : List (D × D)} {f k : D → Nat} {st : D → D} (hE : Ent' n c goal kvs f k st) {g : D} (hg : g ∈ GR n) : k g ≤ 14 := by
  have := pigeon (n := k g) (l := (GR n).map k) fun i hi => by
    obtain ⟨h, hh, e⟩ := k_down P hgo hE _ g hg rfl i hi
    exact List.mem_map.mpr ⟨h, hh, e⟩
  rw [List.length_map] at this
  have := (f_len P.hn).1
  omega
include hst
theorem need_priced : A_need_priced [start, goal, pr] = some .none := by
  have e1 : sdrop (dfn 2 A_need_two (ac (dv 0) (ac (dv 1) (an)))) (startD 3 [start, goal, pr]) = some (.nx (startD 3 [start, goal, pr])) := ev_drop (ev_fn2 (x := start) (y := goal) rfl rfl (f_two P.hn hst hgo))
  have e2 : sdrop (dfn 2 A_need_prices (ac (dfn 1 A_size_of (ac (dv 0) (an))) (ac (dv 2) (an)))) (startD 3 [start, goal, pr]) = some (.nx (startD 3 [start, goal, pr])) := ev_drop (ev_fn2 (y := pr) (ev_fn1 (x := start) rfl (f_one P.hn hst).2) rfl (need_prices P))
  unfold A_need_priced ansD F_need_priced
  rw [ev_and e1, e2]; rfl
theorem cheap_ok {f : D → Nat} (hf : Lst n c goal f) : ∃ ws : List D, A_cheap_row [start, goal, pr] = some (.tuple [.int (f start), .tuple ws]) ∧ (∀ s ∈ ws, s ∈ ST n) ∧ ws.length ≤ 14 ∧ run start ws = goal ∧ cost c ws = f start := by
  obtain ⟨kvs, f', k, st, e, hG, hE⟩ := least_rows P hgo
  have hff := hf.unique hE.lst
  have e1 : sdrop (dfn 3 A_need_priced (ac (dv 0) (ac (dv 1) (ac (dv 2) (an))))) (startD 6 [start, goal, pr]) = some (.nx (startD 6 [start, goal, pr])) := ev_drop (ev_fn3 (x := start) (y := goal) (v := pr) rfl rfl rfl (need_priced P hgo hst))
  let δs : List D → D → Sl := fun ws here => [some (.sh start), some (.sh goal), some (.sh pr), some (.sh (.dict kvs)), some (.owl ws), some (.sh here)]
  have e2 : spar [3, 4, 5] (aoc (dfn 2 A_least_rows (ac (dv 1) (ac (dv 2) (an)))) (aof (fl (an)) (aoc (dv 0) (aon)))) (startD 6 [start, goal, pr]) = some (.nx (δs [] start)) := by
    unfold spar aoc
    rw [ev_fn2 (x := goal) (y := pr) rfl rfl e]
    rfl
  have hstep : ∀ ws here, here ∈ GR n → d2 ixD (d2 ixD (dv 3) (dv 5)) (dc (.int 2)) (δs ws here) = some (st here) := fun ws here hh => ev_ixi (x := pv (f' here) (k here) (st here)) (by rw [ev_d2 (x := .dict kvs) (y := here) rfl rfl, ixD_GR P.hn hh]; exact hE.get _ hh) rfl
  have hc : ∀ ws here, here ∈ GR n → tb (d2 neD (dv 5) (dv 1)) (δs ws here) = some (!decide (here = goal)) := fun ws here hh => by
    refine ev_tb ?_
    rw [ev_d2 (x := here) (y := goal) rfl rfl]
    unfold neD
    rw [((f_GR P.hn).2 _ hh).2.1, ((f_GR P.hn).2 _ hgo).2.1, eqv_of (f_GR P.hn).1 hh hgo]; rfl
  let I : Nat → Sl → Prop := fun m δ => ∃ ws here, δ = δs ws here ∧ here ∈ GR n ∧ run start ws = here ∧ (∀ s ∈ ws, s ∈ ST n) ∧ cost c ws + f' here = f' start ∧ ws.length + k here = k start ∧ m = k here
  obtain ⟨δ', m', e3, ⟨ws, here, rfl, hh, hr, hs, hco, hle, rfl⟩, hcf⟩ := whL_inv (c := tb (d2 neD (dv 5) (dv 1))) (b := andT (sapp 4 (d2 ixD (d2 ixD (dv 3) (dv 5)) (dc (.int 2)))) (sset 5 (dfn 2 A_stepped (ac (dv 5) (ac (d2 ixD (d2 ixD (dv 3) (dv 5)) (dc (.int 2))) (an)))))) I (by
    rintro m δ ⟨ws, here, rfl, hh, hr, hs, hco, hle, rfl⟩
    by_cases z : here = goal
    · refine .inr ?_
      rw [hc ws here hh, decide_eq_true z]; rfl
    · refine .inl ?_
      obtain ⟨h1, h2, h3⟩ := hE.dn here hh z
      obtain ⟨t1, t2, t3⟩ := f_tr P.hn hh h1
      refine ⟨k (tr here (st here)), δs (ws ++ [st here]) (tr here (st here)), by rw [hc ws here hh, decide_eq_false z]; rfl, ?_, by omega, ws ++ [st here], tr here (st here), rfl, t3, by rw [run_app, hr], fun s hs' => ?_, by rw [cost_app]; omega, by rw [List.length_append, List.length_singleton]; omega, rfl⟩
      · have ea : sapp 4 (d2 ixD (d2 ixD (dv 3) (dv 5)) (dc (.int 2))) (δs ws here) = some (.nx (δs (ws ++ [st here]) here)) := by
          show ((d2 ixD (d2 ixD (dv 3) (dv 5)) (dc (.int 2)) (δs ws here)).bind fun x => if ws.length < 1000000 then some (Out.nx ((δs ws here).set 4 (some (.owl (ws ++ [x]))))) else none) = _
          rw [hstep ws here hh]
          have := k_le P hgo hE hst
          show (if ws.length < 1000000 then _ else _) = _
          rw [if_pos (by omega)]; rfl
        rw [ev_and ea, ev_set (ev_fn2 (x := here) rfl (hstep _ here hh) t2)]; rfl
      · rcases List.mem_append.mp hs' with q | q
        · exact hs s q
        · have : s = st here := by simpa using q
          rw [this]; exact h1) (n := fuel) (m := k start) (δ := δs [] start) (by have := k_le P hgo hE hst; unfold fuel; omega)
    ⟨[], start, rfl, hst, rfl, (fun s hs => by cases hs), by unfold cost; simp, by simp, rfl⟩
  have hz : here = goal := by
    rw [hc ws here hh] at hcf
    have := Option.some.inj hcf
    by_cases z : here = goal
    · exact z
    · rw [decide_eq_false z] at this; cases this
  subst hz
  have hl := k_le P hgo hE hst
  refine ⟨ws, ?_, hs, by omega, hr, by rw [hff start hst]; have := hE.go.1; omega⟩
  have ef : F_cheap_row (startD 6 [start, here, pr]) = some (.rt (.tuple [.int (f start), .tuple ws])) := by
    unfold F_cheap_row
    rw [ev_and e1, ev_and e2]
    rw [ev_and (f := swh fuel _ _) (δ1 := δs ws here) e3]
    have ex : d2 ixD (d2 ixD (dv 3) (dv 0)) (dc (.int 0)) [some (.sh start), some (.sh here), some (.sh pr), some (.sh (.dict kvs)), some (.sh (.list ws)), some (.sh here)] = some (.int (f start)) := ev_ixi (x := pv (f' start) (k start) (st start)) (by rw [ev_d2 (x := .dict kvs) (y := start) rfl rfl, ixD_GR P.hn hst]; exact hE.get _ hst) (by rw [hff start hst]; rfl)
    show sret (dl mkT (ac (d2 ixD (d2 ixD (dv 3) (dv 0)) (dc (.int 0))) (ac (dl tupleD (ac (dv 4) (an))) (an)))) [some (.sh start), some (.sh here), some (.sh pr), some (.sh (.dict kvs)), some (.sh (.list ws)), some (.sh here)] = _
    unfold sret dl ac
    rw [ex]; rfl
  unfold A_cheap_row ansD
  rw [ef]; rfl
end
end Gd

set_option maxHeartbeats 2000000
/-! GmJ: a row shown. -/
namespace Gd
open PySem PySem.Spec PyProof.Rows L2
/-- small data -/
def sm (d : D) : Bool := nod d && d.canLay0 && decide (d.depth ≤ 20)
theorem sm_and {d : D} (h : sm d = true) : nod d = true ∧ d.canLay0 = true ∧ d.depth ≤ 20 := by
  unfold sm at h
  simp only [Bool.and_eq_true, decide_eq_true_eq] at h
  exact ⟨h.1.1, h.1.2, h.2⟩
theorem okd_sm {d : D} (h : sm d = true) : okd d = true := by
  obtain ⟨h1, h2, h3⟩ := sm_and h
  unfold okd SeqAt.shaped
  rw [h1, h2]
  simp; omega
theorem can_all : ∀ {l : List D}, (∀ d ∈ l, sm d = true) → PyData.canLayAll0 l = true
  | [], _ => rfl
  | d :: l, h => by
    show (d.canLay0 && PyData.canLayAll0 l) = true
    rw [(sm_and (h d List.mem_cons_self)).2.1, can_all fun x hx => h x (List.mem_cons_of_mem _ hx)]; rfl
theorem dep_all : ∀ {l : List D}, (∀ d ∈ l, sm d = true) → PyData.depthAll l ≤ 20
  | [], _ => Nat.zero_le _
  | d :: l, h => by
    show max d.depth (PyData.depthAll l) ≤ 20
    exact Nat.max_le.mpr ⟨(sm_and (h d List.mem_cons_self)).2.2, dep_all fun x hx => h x (List.mem_cons_of_mem _ hx)⟩
theorem okd_list {l : List D} (h : ∀ d ∈ l, sm d = true) : okd (.list l) = true := by
  unfold okd SeqAt.shaped
  rw [show nod (.list l) = true from nods_all fun d hd => (sm_and (h d hd)).1, show PyData.canLay0 (.list l) = true from can_all h]
  have := dep_all h
  show (true && (true && decide (PyData.depthAll l + 1 ≤ 64))) = true
  simp; omega
theorem okd_tup {l : List D} (h : ∀ d ∈ l, sm d = true) : okd (.tuple l) = true := by
  unfold okd SeqAt.shaped
  rw [show nod (.tuple l) = true from nods_all fun d hd => (sm_and (h d hd)).1, show PyData.canLay0 (.tuple l) = true from can_all h]
  have := dep_all h
  show (true && (true && decide (PyData.depthAll l + 1 ≤ 64))) = true
  simp; omega
theorem sm_int (i : Int) : sm (.int i) = true := rfl
/-- the steps, and one that is none -/
def EL (n : Nat) : List D := ST n ++ [.tuple [.int n]]
theorem ck_EL : all1 (fun n s => odeq (A_is_step [.int n, s]) (.bool (mem (ST n) s)) && odeq (notinD s (.list (ST n))) (.bool (!mem (ST n) s)) && sm s) EL = true := by decide +kernel
theorem ck_smG : all1 (fun n g => sm g) GR = true := by decide +kernel
theorem ck_memS : all1 (fun n s => mem (ST n) s) ST = true := by decide +kernel
theorem EL_ok {n : Nat} (hn : n ∈ ns) {s : D} (h : s ∈ EL n) : A_is_step [.int n, s] = some (.bool (mem (ST n) s)) ∧ notinD s (.list (ST n)) = some (.bool (!mem (ST n) s)) ∧ sm s = true := by
  have q := all1_get ck_EL hn h
  simp only [Bool.and_eq_true] at q
  exact ⟨odeq_eq q.1.1, odeq_eq q.1.2, q.2⟩
theorem mem_ST {n : Nat} (hn : n ∈ ns) {s : D} : mem (ST n) s = true ↔ s ∈ ST n := ⟨mem_of, fun h => all1_get ck_memS hn h⟩
theorem ST_EL {n : Nat} {s : D} (h : s ∈ ST n) : s ∈ EL n := List.mem_append_left _ h
theorem boolsOf_of : ∀ (bs : List Bool), boolsOf (bs.map PyData.bool) = some bs
  | [] => rfl
  | b :: bs => by show (boolsOf (bs.map PyData.bool)).map (fun bs => b :: bs) = _; rw [boolsOf_of bs]; rfl
theorem intsOf_of : ∀ (is : List Int), intsOf (is.map PyData.int) = some is
  | [] => rfl
  | i :: is => by show (intsOf (is.map PyData.int)).map (fun is => i :: is) = _; rw [intsOf_of is]; rfl
theorem ev_dand {δ : Sl} {a b : Sl → Option D} {v : Bool} (h : a δ = some (.bool v)) : dand a b δ = if v = true then b δ else some (.bool false) := by
  unfold dand; rw [ev_tb h]; rfl
theorem ev_d1 {δ : Sl} {g : D → Option D} {a : Sl → Option D} {x : D} (h : a δ = some x) : d1 g a δ = g x := by unfold d1; rw [h]; rfl
theorem ev_for {δ : Sl} {f : Sl → Option (List D)} {t : Tg} {b : Sl → Option Out} {ds : List D} {o : Option Out} (h : f δ = some ds) (e : forL t b ds δ = o) : sfor f t b δ = o := by unfold sfor; rw [h]; exact e
theorem eqD_int (i j : Int) : eqD (.int i) (.int j) = some (.bool (decide (i = j))) := by
  show (if true then some (PyData.bool (i == j)) else none) = _
  rw [if_pos rfl]
  congr 2
theorem sum_nat (c : D → Nat) : ∀ ws : List D, (ws.map fun s => (c s : Int)).sum = (cost c ws : Int)
  | [] => rfl
  | s :: ws => by
    rw [List.map_cons, List.sum_cons, sum_nat c ws]
    unfold cost
    rw [List.map_cons, List.sum_cons]; omega
section
variable {n : Nat} {pr : D} {c : D → Nat} {kl kp : List (D × D)} {goal start : D} (P : Pr n pr c kl kp) (hgo : goal ∈ GR n) (hst : start ∈ GR n)
include P
theorem are_steps_ok {ws : List D} (hw : ∀ s ∈ ws, s ∈ EL n) : A_are_steps [.int n, .tuple ws, .int 300] = some (.bool (decide (ws.length ≤ 300) && ws.all (mem (ST n)))) := by
  have e : F_are_steps (startD 4 [.int n, .tuple ws, .int 300]) = some (.rt (.bool (decide (ws.length ≤ 300) && ws.all (mem (ST n))))) := by
    unfold F_are_steps sret
    rw [ev_dand (v := true) rfl, if_pos rfl, ev_dand (v := decide (ws.length ≤ 300)) (by
      rw [ev_d2 (x := .int ws.length) (y := .int 300) rfl rfl]
      show some (PyData.bool (decide ((ws.length : Int) ≤ 300))) = _
      congr 2
      simp only [decide_eq_decide]; omega)]
    by_cases hl : ws.length ≤ 300
    · rw [if_pos (decide_eq_true hl), decide_eq_true hl]
      unfold dall gvals
      show ((((lcL (tg1 3) tyes (dfn 2 A_is_step (ac (dv 0) (ac (dv 3) (an)))) ws [some (.sh (.int n)), some (.sh (.tuple ws)), some (.sh (.int 300)), none]).bind fun ys => (boolsOf ys).map fun bs => PyData.bool (bs.all id))).map Out.rt) = _
      rw [lcL_map (f := fun s => .bool (mem (ST n) s)) fun s hs => ⟨[some (.sh (.int n)), some (.sh (.tuple ws)), some (.sh (.int 300)), some (.sh s)], rfl, ev_fn2 (x := .int n) (y := s) rfl rfl (EL_ok P.hn (hw s hs)).1⟩]
      show ((boolsOf (ws.map fun s => PyData.bool (mem (ST n) s))).map fun bs => PyData.bool (bs.all id)).map Out.rt = _
      have : (ws.map fun s => PyData.bool (mem (ST n) s)) = (ws.map (mem (ST n))).map PyData.bool := by rw [List.map_map]; rfl
      rw [this, boolsOf_of]
      show some (Out.rt (.bool ((ws.map (mem (ST n))).all id))) = _
      rw [List.all_map]; rfl
    · rw [if_neg (by simpa using hl), decide_eq_false hl]; rfl
  unfold A_are_steps ansD
  rw [e]; rfl
theorem trace_ok : ∀ {ws : List D}, start ∈ GR n → (∀ s ∈ ws, s ∈ ST n) → ws.length ≤ 1000 → ∃ l : List D, A_trace [start, .tuple ws] = some (.list l) ∧ atI l (-1) = some (run start ws) := by
  intro ws hst hs hlen
  let δs : List D → Option SD → Sl := fun l x => [some (.sh start), some (.sh (.tuple ws)), some (.owl l), x]
  have key := forL_inv (t := tg1 3) (b := sapp 2 (dfn 2 A_stepped (ac (dixO 2 (d1 negD (dc (.int 1)))) (ac (dv 3) (an))))) (fun rest δ => ∃ pre l x, pre ++ rest = ws ∧ δ = δs (l ++ [run start pre]) x ∧ l.length = pre.length) (by
    rintro s rest δ ⟨pre, l, x, hp, rfl, hl⟩
    have hs' : s ∈ ST n := hs s (by rw [← hp]; simp)
    have hpre : run start pre ∈ GR n := run_mem P.hn hst fun y hy => hs y (by rw [← hp]; exact List.mem_append_left _ hy)
    have hlp : pre.length + (rest.length + 1) = ws.length := by rw [← hp]; simp
    refine ⟨δs (l ++ [run start pre]) (some (.sh s)), rfl, δs ((l ++ [run start pre]) ++ [tr (run start pre) s]) (some (.sh s)), ?_, pre ++ [s], l ++ [run start pre], some (.sh s), by rw [List.append_assoc]; exact hp, by rw [run_app], by simp [hl]⟩
    show ((dfn 2 A_stepped (ac (dixO 2 (d1 negD (dc (.int 1)))) (ac (dv 3) (an))) (δs (l ++ [run start pre]) (some (.sh s)))).bind fun x => if (l ++ [run start pre]).length < 1000000 then some (Out.nx ((δs (l ++ [run start pre]) (some (.sh s))).set 2 (some (.owl ((l ++ [run start pre]) ++ [x]))))) else none) = _
    rw [ev_fn2 (x := run start pre) (y := s) ?_ rfl (f_tr P.hn hpre hs').2.1]
    · show (if (l ++ [run start pre]).length < 1000000 then _ else _) = _
      rw [if_pos (by simp; omega)]; rfl
    · show atI (l ++ [run start pre]) (-1) = _
      unfold atI ixN
      rw [if_neg (by omega), if_pos (by simp; omega)]
      show (l ++ [run start pre])[((-1 : Int) + ((l ++ [run start pre]).length : Nat)).toNat]? = _
      have : ((-1 : Int) + ((l ++ [run start pre]).length : Nat)).toNat = l.length := by simp; omega
      rw [this]; simp)
    (ds := ws) (δ := δs [start] none) ⟨[], [], none, rfl, rfl, rfl⟩
  obtain ⟨δ', e, pre, l, x, hp, rfl, hl⟩ := key
  rw [List.append_nil] at hp
  subst hp
  refine ⟨l ++ [run start pre], ?_, ?_⟩
  · have ef : F_trace (startD 4 [start, .tuple pre]) = some (.rt (.list (l ++ [run start pre]))) := by
      unfold F_trace
      rw [ev_and (δ1 := δs [start] none) rfl]
      rw [ev_and (δ1 := δs (l ++ [run start pre]) x) (ev_for (ds := pre) rfl e)]
      rfl
    unfold A_trace ansD
    rw [ef]; rfl
  · unfold atI ixN
    rw [if_neg (by omega), if_pos (by simp; omega)]
    show (l ++ [run start pre])[((-1 : Int) + ((l ++ [run start pre]).length : Nat)).toNat]? = _
    have : ((-1 : Int) + ((l ++ [run start pre]).length : Nat)).toNat = l.length := by simp; omega
    rw [this]; simp
theorem price_of_ok {ws : List D} (hs : ∀ s ∈ ws, s ∈ ST n) : A_price_of [.int n, pr, .tuple ws] = some (.int (cost c ws)) := by
  have e1 : sset 3 (dfn 2 A_price_table (ac (dv 0) (ac (dv 1) (an)))) (startD 5 [.int n, pr, .tuple ws]) = some (.nx [some (.sh (.int n)), some (.sh pr), some (.sh (.tuple ws)), some (.sh (.dict kp)), none]) := ev_set (ev_fn2 (x := .int n) (y := pr) rfl rfl P.ptab)
  have ef : F_price_of (startD 5 [.int n, pr, .tuple ws]) = some (.rt (.int (cost c ws))) := by
    unfold F_price_of
    rw [ev_and e1]
    unfold sret dsum gvals
    show (((lcL (tg1 4) tyes (d2 ixD (dv 3) (dv 4)) ws [some (.sh (.int n)), some (.sh pr), some (.sh (.tuple ws)), some (.sh (.dict kp)), none]).bind fun ys => (intsOf ys).map fun ns => PyData.int ns.sum).map Out.rt) = _
    rw [lcL_map (f := fun s => .int (c s)) fun s hs' => ⟨[some (.sh (.int n)), some (.sh pr), some (.sh (.tuple ws)), some (.sh (.dict kp)), some (.sh s)], rfl, by
      rw [ev_d2 (x := .dict kp) (y := s) rfl rfl, ixD_ST P.hn (hs s hs')]
      exact (P.cp s (hs s hs')).2⟩]
    show ((intsOf (ws.map fun s => PyData.int (c s))).map fun ns => PyData.int ns.sum).map Out.rt = _
    have : (ws.map fun s => PyData.int (c s)) = (ws.map fun s => (c s : Int)).map PyData.int := by rw [List.map_map]; rfl
    rw [this, intsOf_of]
    show some (Out.rt (.int (ws.map fun s => (c s : Int)).sum)) = _
    rw [sum_nat]
  unfold A_price_of ansD
  rw [ef]; rfl
theorem law_done_ok : ∀ {ws : List D}, start ∈ GR n → (∀ s ∈ ws, s ∈ ST n) → A_law_done [start, .tuple ws] = some (run start ws) := by
  intro ws hst hs
  have key := forL_inv (t := tg1 2) (b := sset 0 (dfn 2 A_law_step (ac (dv 0) (ac (dv 2) (an))))) (fun rest δ => ∃ pre x, pre ++ rest = ws ∧ δ = [some (.sh (run start pre)), some (.sh (.tuple ws)), x]) (by
    rintro s rest δ ⟨pre, x, hp, rfl⟩
    have hs' : s ∈ ST n := hs s (by rw [← hp]; simp)
    have hpre : run start pre ∈ GR n := run_mem P.hn hst fun y hy => hs y (by rw [← hp]; exact List.mem_append_left _ hy)
    exact ⟨[some (.sh (run start pre)), some (.sh (.tuple ws)), some (.sh s)], rfl, _, ev_set (ev_fn2 (x := run start pre) (y := s) rfl rfl (f_tr P.hn hpre hs').1), pre ++ [s], some (.sh s), by rw [List.append_assoc]; exact hp, by rw [run_app]; rfl⟩)
    (ds := ws) (δ := [some (.sh start), some (.sh (.tuple ws)), none]) ⟨[], none, rfl, rfl⟩
  obtain ⟨δ', e, pre, x, hp, rfl⟩ := key
  rw [List.append_nil] at hp
  subst hp
  have ef : F_law_done (startD 3 [start, .tuple pre]) = some (.rt (run start pre)) := by
    unfold F_law_done
    show andT (sfor (iseq (dv 1)) (tg1 2) (sset 0 (dfn 2 A_law_step (ac (dv 0) (ac (dv 2) an))))) (sret (dv 0)) [some (.sh start), some (.sh (.tuple pre)), none] = _
    rw [ev_and (f := sfor (iseq (dv 1)) _ _) (δ1 := [some (.sh (run start pre)), some (.sh (.tuple pre)), x]) (ev_for (ds := pre) rfl e)]
    rfl
  unfold A_law_done ansD
  rw [ef]; rfl
end
end Gd

set_option maxHeartbeats 2000000
/-! GmK: rows shown: the program and law agree. -/
namespace Gd
open PySem PySem.Spec PyProof.Rows L2
theorem is_in_ok (x b : Int) : A_is_in [.int x, .int b, .int b] = some (.bool (decide (x = b))) := by
  have e : dch leD leD (dv 1) (dv 0) (dv 2) (startD 3 [.int x, .int b, .int b]) = some (.bool (decide (x = b))) := by
    show (match PyData.bool (decide (b ≤ x)) with
      | .bool true => some (PyData.bool (decide (x ≤ b)))
      | .bool false => some (.bool false)
      | _ => none) = _
    by_cases h : b ≤ x
    · rw [decide_eq_true h]
      show some (PyData.bool (decide (x ≤ b))) = _
      congr 2
      simp only [decide_eq_decide]; omega
    · rw [decide_eq_false h]
      show some (PyData.bool false) = some (PyData.bool (decide (x = b)))
      rw [decide_eq_false (p := x = b) (by omega)]
  unfold A_is_in ansD F_is_in sret
  rw [ev_dand (v := true) rfl, if_pos rfl, ev_dand (v := true) rfl, if_pos rfl, e]; rfl
theorem alike_bool (b : Bool) : A2_law_alike [.bool b, .bool b] = some (.bool true) := by cases b <;> rfl
theorem ev_tnot {δ : Sl} {a : Sl → Option Bool} {v : Bool} (h : a δ = some v) : tnot a δ = some (!v) := by unfold tnot; rw [h]; rfl
theorem ev_fn4 {δ : Sl} {a b e f : Sl → Option D} {x y v u z : D} {F : List D → Option D} (h1 : a δ = some x) (h2 : b δ = some y) (h3 : e δ = some v) (h4 : f δ = some u) (h : F [x, y, v, u] = some z) : dfn 4 F (ac a (ac b (ac e (ac f an)))) δ = some z := by
  unfold dfn ac an; rw [h1, h2, h3, h4]; exact h
section
variable {n : Nat} {pr : D} {c : D → Nat} {kl kp : List (D × D)} {goal start : D} {f : D → Nat} (P : Pr n pr c kl kp) (hgo : goal ∈ GR n) (hst : start ∈ GR n) (hf : Lst n c goal f)
/-- a row is shown -/
noncomputable def due (n : Nat) (c : D → Nat) (goal start : D) (b : Nat) (x : Int) (ws : List D) : Bool := decide (x = (b : Int)) && (decide (ws.length ≤ 300) && ws.all (mem (ST n))) && (decide (run start ws = goal) && decide (cost c ws = b))
include P hgo hst hf
theorem shows_pre (v : D) : ∃ δ2 : Sl, δ2 = [some (.sh start), some (.sh goal), some (.sh pr), some (.sh v), some (.sh (.int (f start))), some (.sh (.int n))] ∧
    ∀ o, (andT (sif (tor (tnot (tb (d1 (isiD .tuple) (dv 3)))) (tor (tb (d2 neD (dl lenD (ac (dv 3) (an))) (dc (.int 2)))) (tnot (tb (dfn 3 A_is_in (ac (d2 ixD (dv 3) (dc (.int 0))) (ac (dv 4) (ac (dv 4) (an))))))))) (sret (dc (.bool false))) (snil)) (andT (sif (tnot (tb (dfn 3 A_are_steps (ac (dv 5) (ac (d2 ixD (dv 3) (dc (.int 1))) (ac (dc (.int 300)) (an))))))) (sret (dc (.bool false))) (snil)) (sret (dand (d2 eqD (d2 ixD (dfn 2 A_trace (ac (dv 0) (ac (d2 ixD (dv 3) (dc (.int 1))) (an)))) (d1 negD (dc (.int 1)))) (dv 1)) (d2 eqD (dfn 3 A_price_of (ac (dv 5) (ac (dv 2) (ac (d2 ixD (dv 3) (dc (.int 1))) (an))))) (dv 4))))) δ2) = some (.rt o) → A_shows_cheap_row [start, goal, pr, v] = some o := by
  obtain ⟨kvs, f', k, st, e, hG, hE⟩ := least_rows P hgo
  refine ⟨_, rfl, fun o ho => ?_⟩
  have e1 : sdrop (dfn 3 A_need_priced (ac (dv 0) (ac (dv 1) (ac (dv 2) (an))))) (startD 6 [start, goal, pr, v]) = some (.nx (startD 6 [start, goal, pr, v])) := ev_drop (ev_fn3 (x := start) (y := goal) (v := pr) rfl rfl rfl (need_priced P hgo hst))
  have e2 : spar [4, 5] (aoc (d2 ixD (d2 ixD (dfn 2 A_least_rows (ac (dv 1) (ac (dv 2) (an)))) (dv 0)) (dc (.int 0))) (aoc (dfn 1 A_size_of (ac (dv 0) (an))) (aon))) (startD 6 [start, goal, pr, v]) = some (.nx [some (.sh start), some (.sh goal), some (.sh pr), some (.sh v), some (.sh (.int (f start))), some (.sh (.int n))]) := by
    unfold spar aoc aon
    rw [ev_ixi (x := pv (f' start) (k start) (st start)) (z := .int (f start)) (by rw [ev_d2 (y := start) (ev_fn2 (x := goal) (y := pr) rfl rfl e) rfl, ixD_GR P.hn hst]; exact hE.get _ hst) (by rw [hf.unique hE.lst start hst]; rfl), ev_fn1 (x := start) rfl (f_one P.hn hst).2]
    rfl
  unfold A_shows_cheap_row ansD F_shows_cheap_row
  rw [ev_and e1, ev_and e2, ho]; rfl
theorem shows_not {v : D} (h : isiD .tuple v = some (.bool false)) : A_shows_cheap_row [start, goal, pr, v] = some (.bool false) := by
  obtain ⟨δ2, hδ, q⟩ := shows_pre P hgo hst hf v
  refine q _ ?_
  have ht : tb (d1 (isiD .tuple) (dv 3)) δ2 = some false := ev_tb (by rw [ev_d1 (x := v) (by rw [hδ]; rfl)]; exact h)
  unfold andT
  rw [ev_if (v := true) (by rw [ev_tor (ev_tnot ht)]; rfl), if_pos rfl]; rfl
theorem shows_list {x : Int} {ws : List D} : A_shows_cheap_row [start, goal, pr, .tuple [.int x, .list ws]] = some (.bool false) := by
  obtain ⟨δ2, hδ, q⟩ := shows_pre P hgo hst hf (.tuple [.int x, .list ws])
  refine q _ ?_
  have hi : tb (dfn 3 A_is_in (ac (d2 ixD (dv 3) (dc (.int 0))) (ac (dv 4) (ac (dv 4) (an))))) δ2 = some (decide (x = (f start : Int))) := by rw [hδ]; exact ev_tb (ev_fn3 (x := .int x) (y := .int (f start)) (v := .int (f start)) rfl rfl rfl (is_in_ok _ _))
  have hc : tor (tnot (tb (d1 (isiD .tuple) (dv 3)))) (tor (tb (d2 neD (dl lenD (ac (dv 3) (an))) (dc (.int 2)))) (tnot (tb (dfn 3 A_is_in (ac (d2 ixD (dv 3) (dc (.int 0))) (ac (dv 4) (ac (dv 4) (an)))))))) δ2 = some (!decide (x = (f start : Int))) := by
    rw [ev_tor (v := false) (by rw [hδ]; rfl), if_neg (by decide), ev_tor (v := false) (by rw [hδ]; rfl), if_neg (by decide), ev_tnot hi]
  by_cases hx : x = (f start : Int)
  · rw [decide_eq_true hx] at hc
    have hs : tb (dfn 3 A_are_steps (ac (dv 5) (ac (d2 ixD (dv 3) (dc (.int 1))) (ac (dc (.int 300)) (an))))) δ2 = some false := by
      rw [hδ]; exact ev_tb (ev_fn3 (x := .int n) (y := .list ws) (v := .int 300) rfl rfl rfl rfl)
    rw [ev_and (δ1 := δ2) (by rw [ev_if hc]; rfl)]
    unfold andT
    rw [ev_if (ev_tnot hs)]; rfl
  · rw [decide_eq_false hx] at hc
    unfold andT
    rw [ev_if hc]; rfl
theorem shows_tup {x : Int} {ws : List D} (hw : ∀ s ∈ ws, s ∈ EL n) (hl : ws.length ≤ 1000) : A_shows_cheap_row [start, goal, pr, .tuple [.int x, .tuple ws]] = some (.bool (due n c goal start (f start) x ws)) := by
  obtain ⟨δ2, hδ, q⟩ := shows_pre P hgo hst hf (.tuple [.int x, .tuple ws])
  refine q _ ?_
  have hi : tb (dfn 3 A_is_in (ac (d2 ixD (dv 3) (dc (.int 0))) (ac (dv 4) (ac (dv 4) (an))))) δ2 = some (decide (x = (f start : Int))) := by rw [hδ]; exact ev_tb (ev_fn3 (x := .int x) (y := .int (f start)) (v := .int (f start)) rfl rfl rfl (is_in_ok _ _))
  have hc : tor (tnot (tb (d1 (isiD .tuple) (dv 3)))) (tor (tb (d2 neD (dl lenD (ac (dv 3) (an))) (dc (.int 2)))) (tnot (tb (dfn 3 A_is_in (ac (d2 ixD (dv 3) (dc (.int 0))) (ac (dv 4) (ac (dv 4) (an)))))))) δ2 = some (!decide (x = (f start : Int))) := by
    rw [ev_tor (v := false) (by rw [hδ]; rfl), if_neg (by decide), ev_tor (v := false) (by rw [hδ]; rfl), if_neg (by decide), ev_tnot hi]
  unfold due
  by_cases hx : x = (f start : Int)
  · rw [decide_eq_true hx] at hc
    rw [decide_eq_true hx]
    have hs : tb (dfn 3 A_are_steps (ac (dv 5) (ac (d2 ixD (dv 3) (dc (.int 1))) (ac (dc (.int 300)) (an))))) δ2 = some (decide (ws.length ≤ 300) && ws.all (mem (ST n))) := by
      rw [hδ]; exact ev_tb (ev_fn3 (x := .int n) (y := .tuple ws) (v := .int 300) rfl rfl rfl (are_steps_ok P hw))
    rw [ev_and (δ1 := δ2) (by rw [ev_if hc]; rfl)]
    by_cases h2 : (decide (ws.length ≤ 300) && ws.all (mem (ST n))) = true
    · rw [h2] at hs
      rw [h2, ev_and (δ1 := δ2) (by rw [ev_if (ev_tnot hs)]; rfl)]
      rw [Bool.and_eq_true] at h2
      have hS : ∀ s ∈ ws, s ∈ ST n := fun s hs => mem_of (List.all_eq_true.mp h2.2 s hs)
      obtain ⟨l, t1, t2⟩ := trace_ok P (ws := ws) hst hS hl
      have hr : run start ws ∈ GR n := run_mem P.hn hst hS
      have a1 : d2 eqD (d2 ixD (dfn 2 A_trace (ac (dv 0) (ac (d2 ixD (dv 3) (dc (.int 1))) (an)))) (d1 negD (dc (.int 1)))) (dv 1) δ2 = some (.bool (decide (run start ws = goal))) := by
        have b1 : d2 ixD (dfn 2 A_trace (ac (dv 0) (ac (d2 ixD (dv 3) (dc (.int 1))) (an)))) (d1 negD (dc (.int 1))) δ2 = some (run start ws) := by
          rw [hδ, ev_d2 (y := .int (-1)) (ev_fn2 (x := start) (y := .tuple ws) rfl rfl t1) rfl]
          exact t2
        rw [ev_d2 (y := goal) b1 (by rw [hδ]; rfl)]
        unfold eqD
        rw [((f_GR P.hn).2 _ hr).2.1, ((f_GR P.hn).2 _ hgo).2.1, eqv_of (f_GR P.hn).1 hr hgo]; rfl
      have a2 : d2 eqD (dfn 3 A_price_of (ac (dv 5) (ac (dv 2) (ac (d2 ixD (dv 3) (dc (.int 1))) (an))))) (dv 4) δ2 = some (.bool (decide (cost c ws = f start))) := by
        rw [hδ, ev_d2 (y := .int (f start)) (ev_fn3 (x := .int n) (y := pr) (v := .tuple ws) rfl rfl rfl (price_of_ok P hS)) rfl, eqD_int]
        congr 2
        simp only [decide_eq_decide]; omega
      unfold sret
      rw [ev_dand a1, a2]
      cases decide (run start ws = goal) <;> rfl
    · have h2 : (decide (ws.length ≤ 300) && ws.all (mem (ST n))) = false := by simpa using h2
      rw [h2] at hs
      rw [h2]
      unfold andT
      rw [ev_if (ev_tnot hs)]; rfl
  · rw [decide_eq_false hx] at hc
    rw [decide_eq_false hx]
    unfold andT
    rw [ev_if hc]; rfl
end
/-- law's state in its last loop -/
structure Fin' (n : Nat) (pr : D) (kl : List (D × D)) (goal start : D) (b : Nat) (δ : Sl) : Prop where
  len : δ.length = 25
  h3 : δ[3]? = some (some (.sh pr))
  h4 : δ[4]? = some (some (.own kl))
  h11 : δ[11]? = some (some (.sh start))
  h12 : δ[12]? = some (some (.sh goal))
  h13 : δ[13]? = some (some (.sh (.list (ST n))))
  h19 : δ[19]? = some (some (.sh (.int b)))
theorem Fin'.set {n : Nat} {pr : D} {kl : List (D × D)} {goal start : D} {b : Nat} {δ : Sl} (h : Fin' n pr kl goal start b δ) {i : Nat} {x : Option SD} (hi : i = 10 ∨ i = 20) : Fin' n pr kl goal start b (δ.set i x) := by
  have hl := h.len
  have key : ∀ j, j ≠ 10 → j ≠ 20 → (δ.set i x)[j]? = δ[j]? := fun j h1 h2 => by rw [get_set (by omega), if_neg (by omega)]
  exact ⟨by rw [List.length_set]; exact h.len, by rw [key _ (by decide) (by decide)]; exact h.h3, by rw [key _ (by decide) (by decide)]; exact h.h4, by rw [key _ (by decide) (by decide)]; exact h.h11, by rw [key _ (by decide) (by decide)]; exact h.h12,
    by rw [key _ (by decide) (by decide)]; exact h.h13, by rw [key _ (by decide) (by decide)]; exact h.h19⟩
section
variable {n : Nat} {pr : D} {c : D → Nat} {kl kp : List (D × D)} {goal start : D} {f : D → Nat} (P : Pr n pr c kl kp) (hgo : goal ∈ GR n) (hst : start ∈ GR n) (hf : Lst n c goal f) {δ : Sl} {v : D}
/-- three settings of one slot -/
theorem set3 {δ : Sl} {i : Nat} {x y : Option SD} : (δ.set i x).set i y = δ.set i y := by rw [List.set_set]
def due1 : Sl → Option D := dand (d1 (isiD .tuple) (dv 10)) (dand (d2 eqD (dl lenD (ac (dv 10) (an))) (dc (.int 2))) (dand (d2 eqD (d2 ixD (dv 10) (dc (.int 0))) (dv 19)) (d1 (isiD .tuple) (d2 ixD (dv 10) (dc (.int 1))))))
def due2 : Sl → Option D := dand (dv 20) (dand (d2 leD (dl lenD (ac (d2 ixD (dv 10) (dc (.int 1))) (an))) (dc (.int 300))) (d2 eqD (dlc [5] (iseq (d2 ixD (dv 10) (dc (.int 1)))) (tg1 5) (tb (d2 notinD (dv 5) (dv 13))) (dv 5)) (dl mkL (an))))
def due3 : Sl → Option D := dand (dv 20) (dand (d2 eqD (dfn 2 A_law_done (ac (dv 11) (ac (d2 ixD (dv 10) (dc (.int 1))) (an)))) (dv 12)) (d2 eqD (dl sumD (ac (dlc [5] (iseq (d2 ixD (dv 10) (dc (.int 1)))) (tg1 5) (tyes) (dixO 4 (dv 5))) (an))) (dv 19)))
theorem law12_of {d1' d2' d3' : Bool} (h : Fin' n pr kl goal start (f start) δ) (h10 : δ[10]? = some (some (.sh v))) (e1 : due1 δ = some (.bool d1')) (e2 : due2 (δ.set 20 (some (.sh (.bool d1')))) = some (.bool d2')) (e3 : due3 (δ.set 20 (some (.sh (.bool d2')))) = some (.bool d3'))
    (e4 : A_shows_cheap_row [start, goal, pr, v] = some (.bool d3')) : P_law12 δ = some (.nx (δ.set 20 (some (.sh (.bool d3'))))) := by
  unfold P_law12
  show andT (sset 20 due1) (andT (sset 20 due2) (andT (sset 20 due3) _)) δ = _
  rw [ev_and (ev_set (a := due1) e1), ev_and (ev_set (a := due2) e2), set3, ev_and (ev_set (a := due3) e3), set3]
  have hl := h.len
  have F : Fin' n pr kl goal start (f start) (δ.set 20 (some (.sh (.bool d3')))) := h.set (.inr rfl)
  have a10 : (δ.set 20 (some (.sh (.bool d3'))))[10]? = some (some (.sh v)) := by rw [get_set (by omega), if_neg (by decide)]; exact h10
  have a20 : (δ.set 20 (some (.sh (.bool d3'))))[20]? = some (some (.sh (.bool d3'))) := by rw [get_set (by omega), if_pos rfl]
  rw [ev_if (v := false) (by
    rw [ev_tnot (v := true) (ev_tb (ev_fn2 (x := .bool d3') (y := .bool d3') (ev_fn4 (x := start) (y := goal) (v := pr) (u := v) (dv_of F.h11) (dv_of F.h12) (dv_of F.h3) (dv_of a10) e4) (dv_of a20) (alike_bool d3')))]; rfl)]
  rfl
include P hgo hst hf
theorem law12_false (h : Fin' n pr kl goal start (f start) δ) (h10 : δ[10]? = some (some (.sh v))) (e1 : due1 δ = some (.bool false)) (e4 : A_shows_cheap_row [start, goal, pr, v] = some (.bool false)) : ∃ b, P_law12 δ = some (.nx (δ.set 20 (some (.sh (.bool b))))) := by
  have hl := h.len
  have a20 : (δ.set 20 (some (.sh (.bool false))))[20]? = some (some (.sh (.bool false))) := by rw [get_set (by omega), if_pos rfl]
  refine ⟨_, law12_of h h10 e1 (d2' := false) ?_ (d3' := false) ?_ e4⟩
  · unfold due2; rw [ev_dand (dv_of a20)]; rfl
  · unfold due3; rw [ev_dand (dv_of a20)]; rfl
theorem law12_not (h : Fin' n pr kl goal start (f start) δ) (h10 : δ[10]? = some (some (.sh v))) (hv : isiD .tuple v = some (.bool false)) : ∃ b, P_law12 δ = some (.nx (δ.set 20 (some (.sh (.bool b))))) := by
  refine law12_false P hgo hst hf h h10 ?_ (shows_not P hgo hst hf hv)
  unfold due1
  rw [ev_dand (v := false) (by rw [ev_d1 (dv_of h10)]; exact hv)]; rfl
theorem due1_two {x : Int} {w : D} {t : Bool} (h : Fin' n pr kl goal start (f start) δ) (h10 : δ[10]? = some (some (.sh (.tuple [.int x, w])))) (hw : isiD .tuple w = some (.bool t)) : due1 δ = some (.bool (decide (x = (f start : Int)) && t)) := by
  unfold due1
  rw [ev_dand (v := true) (by rw [ev_d1 (dv_of h10)]; rfl), if_pos rfl, ev_dand (v := true) (by rw [ev_d2 (y := .int 2) (ev_dl1 (dv_of h10)) rfl]; rfl), if_pos rfl,
    ev_dand (v := decide (x = (f start : Int))) (by rw [ev_d2 (ev_ixi (z := .int x) (dv_of h10) rfl) (dv_of h.h19), eqD_int]), ev_d1 (ev_ixi (z := w) (dv_of h10) rfl), hw]
  cases decide (x = (f start : Int)) <;> rfl
theorem law12_list {x : Int} {ws : List D} (h : Fin' n pr kl goal start (f start) δ) (h10 : δ[10]? = some (some (.sh (.tuple [.int x, .list ws])))) : ∃ b, P_law12 δ = some (.nx (δ.set 20 (some (.sh (.bool b))))) := by
  refine law12_false P hgo hst hf h h10 ?_ (shows_list P hgo hst hf)
  rw [due1_two P hgo hst hf (t := false) h h10 rfl, Bool.and_false]
theorem law12_tup {x : Int} {ws : List D} (h : Fin' n pr kl goal start (f start) δ) (h10 : δ[10]? = some (some (.sh (.tuple [.int x, .tuple ws])))) (hw : ∀ s ∈ ws, s ∈ EL n) (hl : ws.length ≤ 1000) : ∃ b, P_law12 δ = some (.nx (δ.set 20 (some (.sh (.bool b))))) := by
  have hlen := h.len
  refine ⟨_, law12_of h h10 (due1_two P hgo hst hf (t := true) h h10 rfl) (d2' := decide (x = (f start : Int)) && (decide (ws.length ≤ 300) && ws.all (mem (ST n)))) ?_ (d3' := due n c goal start (f start) x ws) ?_ (shows_tup P hgo hst hf hw hl)⟩
  · rw [Bool.and_true]
    generalize hδ1 : δ.set 20 (some (.sh (.bool (decide (x = (f start : Int)))))) = δ1
    have F : Fin' n pr kl goal start (f start) δ1 := by rw [← hδ1]; exact h.set (.inr rfl)
    have a10 : δ1[10]? = some (some (.sh (.tuple [.int x, .tuple ws]))) := by rw [← hδ1, get_set (by omega), if_neg (by decide)]; exact h10
    have a20 : δ1[20]? = some (some (.sh (.bool (decide (x = (f start : Int)))))) := by rw [← hδ1, get_set (by omega), if_pos rfl]
    have hix : d2 ixD (dv 10) (dc (.int 1)) δ1 = some (.tuple ws) := ev_ixi (dv_of a10) rfl
    unfold due2
    rw [ev_dand (dv_of a20)]
    by_cases hx : x = (f start : Int)
    · rw [decide_eq_true hx, if_pos rfl, Bool.true_and, ev_dand (v := decide (ws.length ≤ 300)) (by
        rw [ev_d2 (x := .int ws.length) (y := .int 300) (by rw [ev_dl1 hix]; rfl) rfl]
        show some (PyData.bool (decide ((ws.length : Int) ≤ 300))) = _
        congr 2
        simp only [decide_eq_decide]; omega)]
      have hlc : dlc [5] (iseq (d2 ixD (dv 10) (dc (.int 1)))) (tg1 5) (tb (d2 notinD (dv 5) (dv 13))) (dv 5) δ1 = some (.list (ws.filter fun s => !mem (ST n) s)) := by
        unfold dlc iseq
        rw [hix]
        show (if ws.length ≤ 1000000 then (lcL (tg1 5) (tb (d2 notinD (dv 5) (dv 13))) (dv 5) ws (δ1.set 5 none)).map PyData.list else none) = _
        have hl1 := F.len
        rw [if_pos (by omega), lcL_filter (f := id) (p := fun s => !mem (ST n) s) fun s hs => ⟨(δ1.set 5 none).set 5 (some (.sh s)), rfl, ?_, fun _ => dv_of (by rw [set3, get_set (by omega), if_pos rfl]; rfl)⟩]
        · rw [List.map_id]; rfl
        · refine ev_tb ?_
          rw [set3, ev_d2 (dv_of (d := s) (by rw [get_set (by omega), if_pos rfl])) (dv_of (d := .list (ST n)) (by rw [get_set (by omega), if_neg (by decide)]; exact F.h13))]
          exact (EL_ok P.hn (hw s hs)).2.1
      rw [ev_d2 (y := .list []) hlc rfl]
      unfold eqD
      rw [okd_list (fun d hd => (EL_ok P.hn (hw d (List.mem_filter.mp hd).1)).2.2)]
      have hz : PyData.eqv (.list (ws.filter fun s => !mem (ST n) s)) (.list []) = ws.all (mem (ST n)) := by
        show PyData.eqvAll (ws.filter fun s => !mem (ST n) s) [] = _
        clear hlc hw hl hix a10 h10
        induction ws with
        | nil => rfl
        | cons s ws ih =>
          rw [List.filter_cons, List.all_cons]
          cases mem (ST n) s with
          | true => exact ih
          | false => rfl
      show (if decide (ws.length ≤ 300) = true then some (PyData.bool (PyData.eqv (.list (ws.filter fun s => !mem (ST n) s)) (.list []))) else some (.bool false)) = _
      rw [hz]
      cases decide (ws.length ≤ 300) <;> rfl
    · rw [decide_eq_false hx]; rfl
  · generalize hb2 : (decide (x = (f start : Int)) && (decide (ws.length ≤ 300) && ws.all (mem (ST n)))) = b2
    generalize hδ1 : δ.set 20 (some (.sh (.bool b2))) = δ1
    have F : Fin' n pr kl goal start (f start) δ1 := by rw [← hδ1]; exact h.set (.inr rfl)
    have hl1 := F.len
    have a10 : δ1[10]? = some (some (.sh (.tuple [.int x, .tuple ws]))) := by rw [← hδ1, get_set (by omega), if_neg (by decide)]; exact h10
    have a20 : δ1[20]? = some (some (.sh (.bool b2))) := by rw [← hδ1, get_set (by omega), if_pos rfl]
    have hix : d2 ixD (dv 10) (dc (.int 1)) δ1 = some (.tuple ws) := ev_ixi (dv_of a10) rfl
    unfold due3 due
    rw [ev_dand (dv_of a20), hb2]
    cases b2 with
    | false => rfl
    | true =>
      rw [if_pos rfl, Bool.true_and]
      rw [Bool.and_eq_true, Bool.and_eq_true] at hb2
      have hS : ∀ s ∈ ws, s ∈ ST n := fun s hs => mem_of (List.all_eq_true.mp hb2.2.2 s hs)
      have hr : run start ws ∈ GR n := run_mem P.hn hst hS
      have a1 : d2 eqD (dfn 2 A_law_done (ac (dv 11) (ac (d2 ixD (dv 10) (dc (.int 1))) (an)))) (dv 12) δ1 = some (.bool (decide (run start ws = goal))) := by
        rw [ev_d2 (ev_fn2 (dv_of F.h11) hix (law_done_ok P hst hS)) (dv_of F.h12)]
        unfold eqD
        rw [((f_GR P.hn).2 _ hr).2.1, ((f_GR P.hn).2 _ hgo).2.1, eqv_of (f_GR P.hn).1 hr hgo]; rfl
      have hlc : dlc [5] (iseq (d2 ixD (dv 10) (dc (.int 1)))) (tg1 5) (tyes) (dixO 4 (dv 5)) δ1 = some (.list (ws.map fun s => .int (c s))) := by
        unfold dlc iseq
        rw [hix]
        show (if ws.length ≤ 1000000 then (lcL (tg1 5) tyes (dixO 4 (dv 5)) ws (δ1.set 5 none)).map PyData.list else none) = _
        rw [if_pos (by omega), lcL_map (f := fun s => .int (c s)) fun s hs => ⟨(δ1.set 5 none).set 5 (some (.sh s)), rfl, ?_⟩]
        · rfl
        · obtain ⟨ks, hks⟩ := ((f_ST P.hn).2 _ (hS s hs)).1
          rw [set3, ev_dix (kvs := kl) (by rw [get_set (by omega), if_neg (by decide)]; exact F.h4) (dv_of (d := s) (by rw [get_set (by omega), if_pos rfl])) hks]
          exact (P.cl s (hS s hs)).2
      have a2 : d2 eqD (dl sumD (ac (dlc [5] (iseq (d2 ixD (dv 10) (dc (.int 1)))) (tg1 5) (tyes) (dixO 4 (dv 5))) (an))) (dv 19) δ1 = some (.bool (decide (cost c ws = f start))) := by
        have b1 : dl sumD (ac (dlc [5] (iseq (d2 ixD (dv 10) (dc (.int 1)))) (tg1 5) (tyes) (dixO 4 (dv 5))) (an)) δ1 = some (.int (cost c ws)) := by
          rw [ev_dl1 hlc]
          show (intsOf (ws.map fun s => PyData.int (c s))).map (fun ns => PyData.int ns.sum) = _
          have : (ws.map fun s => PyData.int (c s)) = (ws.map fun s => (c s : Int)).map PyData.int := by rw [List.map_map]; rfl
          rw [this, intsOf_of]
          show some (PyData.int (ws.map fun s => (c s : Int)).sum) = _
          rw [sum_nat]
        rw [ev_d2 b1 (dv_of F.h19), eqD_int]
        congr 2
        simp only [decide_eq_decide]; omega
      rw [ev_dand a1, a2]
      cases decide (run start ws = goal) <;> rfl
end
end Gd

set_option maxHeartbeats 2000000
/-! GmL: a paper of numbers shown. -/
namespace Gd
open PySem PySem.Spec PyProof.Rows L2
theorem forL_exit {t : Tg} {b : Sl → Option Out} {o : D} {bad : D → Bool} (I : Sl → Prop) : ∀ {ds : List D} {δ : Sl}, (∀ d ∈ ds, ∀ δ, I δ → ∃ δ1, t d δ = some δ1 ∧ ((bad d = true ∧ b δ1 = some (.rt o)) ∨ (bad d = false ∧ ∃ δ2, b δ1 = some (.nx δ2) ∧ I δ2))) → I δ →
    (ds.any bad = true ∧ forL t b ds δ = some (.rt o)) ∨ (ds.any bad = false ∧ ∃ δ', forL t b ds δ = some (.nx δ') ∧ I δ')
  | [], δ, _, q => .inr ⟨rfl, δ, rfl, q⟩
  | d :: ds, δ, h, q => by
    obtain ⟨δ1, e1, h1⟩ := h d List.mem_cons_self δ q
    have hd : forL t b (d :: ds) δ = (b δ1).bind fun
      | .nx δ2 => forL t b ds δ2
      | .rt d => some (.rt d)
      | .rf sd => some (.rf sd) := by
      show ((t d δ).bind fun δ1 => (b δ1).bind fun
        | .nx δ2 => forL t b ds δ2
        | .rt d => some (.rt d)
        | .rf sd => some (.rf sd)) = _
      rw [e1]; rfl
    rcases h1 with ⟨hb, e⟩ | ⟨hb, δ2, e, q2⟩
    · exact .inl ⟨by rw [List.any_cons, hb]; rfl, by rw [hd, e]; rfl⟩
    · rcases forL_exit I (fun x hx => h x (List.mem_cons_of_mem _ hx)) q2 with ⟨h2, e2⟩ | ⟨h2, δ', e2, q'⟩
      · exact .inl ⟨by rw [List.any_cons, hb, h2]; rfl, by rw [hd, e]; exact e2⟩
      · exact .inr ⟨by rw [List.any_cons, hb, h2]; rfl, δ', by rw [hd, e]; exact e2, q'⟩
/-- the dict of two rows -/
def told (n : Nat) (vs : List D) : List (D × D) := dputs [] ((GR n).zip vs)
theorem dputs_kin {G : List D} : ∀ {ps acc : List (D × D)}, KIn G acc → KIn G ps → KIn G (dputs acc ps)
  | [], _, h, _ => h
  | (k, v) :: ps, acc, h, hp => dputs_kin (ps := ps) (acc := dput acc k v) (dput_kin h (hp _ List.mem_cons_self)) fun q hq => hp q (List.mem_cons_of_mem _ hq)
theorem dputs_int {G : List D} (hk : KeyOk G) {g : D} (hg : g ∈ G) : ∀ {ps acc : List (D × D)}, KIn G acc → KIn G ps → (∀ p ∈ ps, ∃ i : Int, p.2 = .int i) → (g ∈ ps.map (·.1) ∨ ∃ i : Int, dget acc g = some (.int i)) → ∃ i : Int, dget (dputs acc ps) g = some (.int i)
  | [], acc, _, _, _, h => by
    rcases h with h | h
    · cases h
    · exact h
  | (k, v) :: ps, acc, ha, hp, hi, h => by
    have hkG : k ∈ G := hp _ List.mem_cons_self
    refine dputs_int hk hg (ps := ps) (acc := dput acc k v) (dput_kin ha hkG) (fun q hq => hp q (List.mem_cons_of_mem _ hq)) (fun q hq => hi q (List.mem_cons_of_mem _ hq)) ?_
    by_cases z : k = g
    · obtain ⟨i, e⟩ := hi (k, v) List.mem_cons_self
      have e : v = .int i := e
      exact .inr ⟨i, by rw [dget_dput hk ha hkG hg, if_pos z, e]⟩
    · rcases h with h | h
      · rw [List.map_cons] at h
        rcases List.mem_cons.mp h with h | h
        · exact absurd h.symm z
        · exact .inl h
      · exact .inr (by rw [dget_dput hk ha hkG hg, if_neg z]; exact h)
theorem zip_kin {n : Nat} {vs : List D} : KIn (GR n) ((GR n).zip vs) := fun p hp => (List.of_mem_zip (a := p.1) (b := p.2) hp).1
theorem told_int {n : Nat} (hn : n ∈ ns) {ys : List Int} (hl : ys.length = (GR n).length) : ∃ yv : D → Int, ∀ g ∈ GR n, dget (told n (ys.map PyData.int)) g = some (.int (yv g)) := by
  have h : ∀ g ∈ GR n, ∃ i : Int, dget (told n (ys.map PyData.int)) g = some (.int i) := fun g hg => dputs_int (f_GR hn).1 hg (fun p hp => by cases hp) zip_kin (fun p hp => by
    have := (List.of_mem_zip (a := p.1) (b := p.2) hp).2
    obtain ⟨i, _, e⟩ := List.mem_map.mp this
    exact ⟨i, e.symm⟩) (.inl (by
    have : ((GR n).zip (ys.map PyData.int)).map (·.1) = GR n := by
      rw [List.map_fst_zip]
      rw [List.length_map]; omega
    rw [this]; exact hg))
  refine ⟨fun g => match dget (told n (ys.map PyData.int)) g with
    | some (.int i) => i
    | _ => 0, fun g hg => ?_⟩
  obtain ⟨i, e⟩ := h g hg
  dsimp only
  rw [e]
theorem zipP_ok {n : Nat} (hn : n ∈ ns) : ∀ {l : List D}, (∀ g ∈ l, g ∈ GR n) → ∀ vs : List D, zipP l vs = some (l.zip vs)
  | [], _, vs => by cases vs <;> rfl
  | g :: l, h, [] => rfl
  | g :: l, h, v :: vs => by
    obtain ⟨k, hk⟩ := ((f_GR hn).2 _ (h g List.mem_cons_self)).1
    show ((tkey g).bind fun _ => (zipP l vs).map fun ps => (g, v) :: ps) = _
    rw [hk, zipP_ok hn (fun x hx => h x (List.mem_cons_of_mem _ hx)) vs]; rfl
theorem pairsOf_ok {n : Nat} (hn : n ∈ ns) : ∀ {ps : List (D × D)}, KIn (GR n) ps → pairsOf (ps.map fun p => .tuple [p.1, p.2]) = some ps
  | [], _ => rfl
  | (g, v) :: ps, h => by
    obtain ⟨k, hk⟩ := ((f_GR hn).2 _ (h _ List.mem_cons_self)).1
    show ((tkey g).bind fun _ => (pairsOf (ps.map fun p => .tuple [p.1, p.2])).map fun ps => (g, v) :: ps) = _
    rw [hk, pairsOf_ok hn fun q hq => h q (List.mem_cons_of_mem _ hq)]; rfl
/-- no step is dearer than the fall -/
noncomputable def okAt (n : Nat) (c : D → Nat) (yv : D → Int) (g : D) : Bool := (ST n).all fun s => decide (yv g - yv (tr g s) ≤ (c s : Int))
noncomputable def dueP (n : Nat) (c : D → Nat) (goal start : D) (b : Nat) (yv : D → Int) : Bool := (decide (yv goal = 0) && decide (yv start = (b : Int))) && (GR n).all (okAt n c yv)
section
variable {n : Nat} {pr : D} {c : D → Nat} {kl kp : List (D × D)} {goal start : D} {f : D → Nat} (P : Pr n pr c kl kp) (hgo : goal ∈ GR n) (hst : start ∈ GR n) (hf : Lst n c goal f)
def ptail2 : Sl → Option Out := andT (sset 5 (own_val (fzip (dv 7) (dv 3)))) (andT (sif (tor (tb (d2 neD (d2 ixD (dv 5) (dv 1)) (dc (.int 0)))) (tb (d2 neD (d2 ixD (dv 5) (dv 0)) (d2 ixD (d2 ixD (dfn 2 A_least_rows (ac (dv 1) (ac (dv 2) (an)))) (dv 0)) (dc (.int 0)))))) (sret (dc (.bool false))) (snil)) (andT (sfor (iseq (dv 7)) (tg1 6) (sif (tb (dany [10] (idct (dv 8)) (tg1 10) (d2 gtD (d2 subD (d2 ixD (dv 5) (dv 6)) (d2 ixD (dv 5) (dfn 2 A_stepped (ac (dv 6) (ac (dv 10) (an)))))) (d2 ixD (dv 8) (dv 10))))) (sret (dc (.bool false))) (snil))) (sret (dc (.bool true)))))
def ptail : Sl → Option Out := andT (sif (tor (tnot (tb (d1 (isiD .tuple) (dv 3)))) (tb (d2 neD (dl lenD (ac (dv 3) (an))) (dl lenD (ac (dv 7) (an)))))) (sret (dc (.bool false))) (snil)) (andT (sif (tnot (tb (dall [9] (iseq (dv 3)) (tg1 9) (dand (d1 (isiD .int) (dv 9)) (d1 notD (d1 (isiD .bool) (dv 9))))))) (sret (dc (.bool false))) (snil)) ptail2)
include P hgo hst
theorem paper_pre (v : D) : ∃ δ2 : Sl, δ2 = [some (.sh start), some (.sh goal), some (.sh pr), some (.sh v), some (.sh (.int n)), none, none, some (.sh (.list (GR n))), some (.sh (.dict kp)), none, none] ∧ ∀ o, ptail δ2 = some (.rt o) → A_shows_price_paper [start, goal, pr, v] = some o := by
  refine ⟨_, rfl, fun o ho => ?_⟩
  have e1 : sdrop (dfn 3 A_need_priced (ac (dv 0) (ac (dv 1) (ac (dv 2) (an))))) (startD 11 [start, goal, pr, v]) = some (.nx (startD 11 [start, goal, pr, v])) := ev_drop (ev_fn3 (x := start) (y := goal) (v := pr) rfl rfl rfl (need_priced P hgo hst))
  have e2 : sset 4 (dfn 1 A_size_of (ac (dv 0) (an))) (startD 11 [start, goal, pr, v]) = some (.nx [some (.sh start), some (.sh goal), some (.sh pr), some (.sh v), some (.sh (.int n)), none, none, none, none, none, none]) := ev_set (ev_fn1 (x := start) rfl (f_one P.hn hst).2)
  have e3 : spar [7, 8] (aoc (dfn 1 A_all_groupings (ac (dv 4) (an))) (aoc (dfn 2 A_price_table (ac (dv 4) (ac (dv 2) (an)))) (aon))) [some (.sh start), some (.sh goal), some (.sh pr), some (.sh v), some (.sh (.int n)), none, none, none, none, none, none] =
      some (.nx [some (.sh start), some (.sh goal), some (.sh pr), some (.sh v), some (.sh (.int n)), none, none, some (.sh (.list (GR n))), some (.sh (.dict kp)), none, none]) := by
    unfold spar aoc aon
    rw [ev_fn1 (x := .int n) rfl (f_lists P.hn).2.1, ev_fn2 (x := .int n) (y := pr) rfl rfl P.ptab]; rfl
  have ef : F_shows_price_paper (startD 11 [start, goal, pr, v]) = some (.rt o) := by
    unfold F_shows_price_paper
    rw [ev_and e1, ev_and e2, ev_and e3]; exact ho
  unfold A_shows_price_paper ansD
  rw [ef]; rfl
theorem paper_not {v : D} (h : isiD .tuple v = some (.bool false)) : A_shows_price_paper [start, goal, pr, v] = some (.bool false) := by
  obtain ⟨δ2, hδ, q⟩ := paper_pre P hgo hst v
  refine q _ ?_
  have ht : tb (d1 (isiD .tuple) (dv 3)) δ2 = some false := ev_tb (by rw [ev_d1 (x := v) (by rw [hδ]; rfl)]; exact h)
  unfold ptail andT
  rw [ev_if (v := true) (by rw [ev_tor (ev_tnot ht)]; rfl), if_pos rfl]; rfl
theorem paper_len {vs : List D} : ∃ δ2 : Sl, δ2 = [some (.sh start), some (.sh goal), some (.sh pr), some (.sh (.tuple vs)), some (.sh (.int n)), none, none, some (.sh (.list (GR n))), some (.sh (.dict kp)), none, none] ∧
    tor (tnot (tb (d1 (isiD .tuple) (dv 3)))) (tb (d2 neD (dl lenD (ac (dv 3) (an))) (dl lenD (ac (dv 7) (an))))) δ2 = some (!decide (vs.length = (GR n).length)) ∧ ∀ o, ptail δ2 = some (.rt o) → A_shows_price_paper [start, goal, pr, .tuple vs] = some o := by
  obtain ⟨δ2, hδ, q⟩ := paper_pre P hgo hst (.tuple vs)
  refine ⟨δ2, hδ, ?_, q⟩
  rw [ev_tor (v := false) (by rw [hδ]; rfl), if_neg (by decide)]
  refine ev_tb ?_
  rw [hδ, ev_d2 (x := .int vs.length) (y := .int (GR n).length) rfl rfl]
  show (if true then some (PyData.bool (!((vs.length : Int) == ((GR n).length : Int)))) else none) = _
  rw [if_pos rfl]
  congr 3
  show decide ((vs.length : Int) = ((GR n).length : Int)) = _
  simp only [decide_eq_decide]; omega
theorem paper_short {vs : List D} (h : vs.length ≠ (GR n).length) : A_shows_price_paper [start, goal, pr, .tuple vs] = some (.bool false) := by
  obtain ⟨δ2, hδ, hc, q⟩ := paper_len P hgo hst (vs := vs)
  refine q _ ?_
  rw [decide_eq_false h] at hc
  unfold ptail andT
  rw [ev_if hc]; rfl
theorem paper_nones {m : Nat} (hm : m = (GR n).length) (hp : 0 < m) : A_shows_price_paper [start, goal, pr, .tuple (List.replicate m .none)] = some (.bool false) := by
  obtain ⟨δ2, hδ, hc, q⟩ := paper_len P hgo hst (vs := List.replicate m .none)
  refine q _ ?_
  rw [decide_eq_true (by rw [List.length_replicate]; exact hm)] at hc
  unfold ptail
  rw [ev_and (δ1 := δ2) (by rw [ev_if hc]; rfl)]
  have ha : tb (dall [9] (iseq (dv 3)) (tg1 9) (dand (d1 (isiD .int) (dv 9)) (d1 notD (d1 (isiD .bool) (dv 9))))) δ2 = some false := by
    refine ev_tb ?_
    rw [hδ]
    unfold dall gvals
    show (((lcL (tg1 9) tyes (dand (d1 (isiD .int) (dv 9)) (d1 notD (d1 (isiD .bool) (dv 9)))) (List.replicate m .none) [some (.sh start), some (.sh goal), some (.sh pr), some (.sh (.tuple (List.replicate m .none))), some (.sh (.int n)), none, none, some (.sh (.list (GR n))), some (.sh (.dict kp)), none, none]).bind fun ys => (boolsOf ys).map fun bs => PyData.bool (bs.all id))) = _
    rw [lcL_map (f := fun _ => .bool false) fun s hs => ⟨[some (.sh start), some (.sh goal), some (.sh pr), some (.sh (.tuple (List.replicate m .none))), some (.sh (.int n)), none, none, some (.sh (.list (GR n))), some (.sh (.dict kp)), some (.sh s), none], rfl, by
      rw [(List.mem_replicate.mp hs).2]; rfl⟩]
    rw [List.map_replicate, show List.replicate m (PyData.bool false) = (List.replicate m false).map PyData.bool by rw [List.map_replicate]]
    show (boolsOf ((List.replicate m false).map PyData.bool)).map (fun bs => PyData.bool (bs.all id)) = _
    rw [boolsOf_of]
    cases m with
    | zero => omega
    | succ m => rfl
  unfold andT
  rw [ev_if (ev_tnot ha)]; rfl
include hf
theorem paper_ok {ys : List Int} {yv : D → Int} (hl : ys.length = (GR n).length) (hy : ∀ g ∈ GR n, dget (told n (ys.map PyData.int)) g = some (.int (yv g))) : A_shows_price_paper [start, goal, pr, .tuple (ys.map PyData.int)] = some (.bool (dueP n c goal start (f start) yv)) := by
  obtain ⟨kvs, f', k, st, e, hG, hE⟩ := least_rows P hgo
  obtain ⟨δ2, hδ, hc, q⟩ := paper_len P hgo hst (vs := ys.map PyData.int)
  refine q _ ?_
  rw [decide_eq_true (by rw [List.length_map]; exact hl)] at hc
  unfold ptail
  rw [ev_and (δ1 := δ2) (by rw [ev_if hc]; rfl)]
  have ha : tb (dall [9] (iseq (dv 3)) (tg1 9) (dand (d1 (isiD .int) (dv 9)) (d1 notD (d1 (isiD .bool) (dv 9))))) δ2 = some true := by
    refine ev_tb ?_
    rw [hδ]
    unfold dall gvals
    show (((lcL (tg1 9) tyes (dand (d1 (isiD .int) (dv 9)) (d1 notD (d1 (isiD .bool) (dv 9)))) (ys.map PyData.int) [some (.sh start), some (.sh goal), some (.sh pr), some (.sh (.tuple (ys.map PyData.int))), some (.sh (.int n)), none, none, some (.sh (.list (GR n))), some (.sh (.dict kp)), none, none]).bind fun ys => (boolsOf ys).map fun bs => PyData.bool (bs.all id))) = _
    rw [lcL_map (f := fun _ => .bool true) fun s hs => ⟨[some (.sh start), some (.sh goal), some (.sh pr), some (.sh (.tuple (ys.map PyData.int))), some (.sh (.int n)), none, none, some (.sh (.list (GR n))), some (.sh (.dict kp)), some (.sh s), none], rfl, by
      obtain ⟨i, _, rfl⟩ := List.mem_map.mp hs
      rfl⟩]
    rw [List.map_map, show (ys.map ((fun _ => PyData.bool true) ∘ PyData.int)) = (ys.map fun _ => true).map PyData.bool by rw [List.map_map]; rfl]
    show (boolsOf ((ys.map fun _ => true).map PyData.bool)).map (fun bs => PyData.bool (bs.all id)) = _
    rw [boolsOf_of]
    show some (PyData.bool ((ys.map fun _ => true).all id)) = _
    rw [List.all_map]
    congr 2
    exact List.all_eq_true.mpr fun _ _ => rfl
  rw [ev_and (δ1 := δ2) (by rw [ev_if (ev_tnot ha)]; rfl)]
  -- the dict
  let T0 : List (D × D) := told n (ys.map PyData.int)
  let δs : Option SD → Sl := fun h => [some (.sh start), some (.sh goal), some (.sh pr), some (.sh (.tuple (ys.map PyData.int))), some (.sh (.int n)), some (.sh (.dict T0)), h, some (.sh (.list (GR n))), some (.sh (.dict kp)), none, none]
  have e5 : sset 5 (own_val (fzip (dv 7) (dv 3))) δ2 = some (.nx (δs none)) := by
    rw [hδ]
    have : own_val (fzip (dv 7) (dv 3)) [some (.sh start), some (.sh goal), some (.sh pr), some (.sh (.tuple (ys.map PyData.int))), some (.sh (.int n)), none, none, some (.sh (.list (GR n))), some (.sh (.dict kp)), none, none] = some (.dict T0) := by
      show (((zipP (GR n) (ys.map PyData.int)).bind fun ps => if (GR n).length ≤ 1000000 then some (SD.own (dputs [] ps)) else none).map SD.val) = _
      rw [zipP_ok P.hn (fun g hg => hg)]
      have := (f_len P.hn).1
      show ((if (GR n).length ≤ 1000000 then some (SD.own (dputs [] ((GR n).zip (ys.map PyData.int)))) else none).map SD.val) = _
      rw [if_pos (by omega)]; rfl
    rw [ev_set this]; rfl
  unfold ptail2
  rw [ev_and e5]
  have g1 : ∀ h, d2 ixD (dv 5) (dv 1) (δs h) = some (.int (yv goal)) := fun h => by rw [ev_d2 (x := .dict T0) (y := goal) rfl rfl, ixD_GR P.hn hgo]; exact hy goal hgo
  have g0 : ∀ h, d2 ixD (dv 5) (dv 0) (δs h) = some (.int (yv start)) := fun h => by rw [ev_d2 (x := .dict T0) (y := start) rfl rfl, ixD_GR P.hn hst]; exact hy start hst
  have gb : d2 ixD (d2 ixD (dfn 2 A_least_rows (ac (dv 1) (ac (dv 2) (an)))) (dv 0)) (dc (.int 0)) (δs none) = some (.int (f start)) :=
    ev_ixi (x := pv (f' start) (k start) (st start)) (by rw [ev_d2 (y := start) (ev_fn2 (x := goal) (y := pr) rfl rfl e) rfl, ixD_GR P.hn hst]; exact hE.get _ hst) (by rw [hf.unique hE.lst start hst]; rfl)
  have neI : ∀ i j : Int, neD (.int i) (.int j) = some (.bool (!decide (i = j))) := fun i j => rfl
  have hc2 : tor (tb (d2 neD (d2 ixD (dv 5) (dv 1)) (dc (.int 0)))) (tb (d2 neD (d2 ixD (dv 5) (dv 0)) (d2 ixD (d2 ixD (dfn 2 A_least_rows (ac (dv 1) (ac (dv 2) (an)))) (dv 0)) (dc (.int 0))))) (δs none) = some (!(decide (yv goal = 0) && decide (yv start = (f start : Int)))) := by
    rw [ev_tor (v := !decide (yv goal = 0)) (ev_tb (by rw [ev_d2 (y := .int 0) (g1 _) rfl, neI])), ev_tb (v := !decide (yv start = (f start : Int))) (by rw [ev_d2 (g0 _) gb, neI])]
    cases decide (yv goal = 0) <;> rfl
  unfold dueP
  by_cases hz : (decide (yv goal = 0) && decide (yv start = (f start : Int))) = true
  · rw [hz] at hc2
    rw [hz, ev_and (δ1 := δs none) (by rw [ev_if hc2]; rfl)]
    have loop := forL_exit (t := tg1 6) (o := .bool false) (bad := fun g => !okAt n c yv g) (b := sif (tb (dany [10] (idct (dv 8)) (tg1 10) (d2 gtD (d2 subD (d2 ixD (dv 5) (dv 6)) (d2 ixD (dv 5) (dfn 2 A_stepped (ac (dv 6) (ac (dv 10) (an)))))) (d2 ixD (dv 8) (dv 10))))) (sret (dc (.bool false))) (snil)) (fun δ => ∃ h, δ = δs h) (ds := GR n) (δ := δs none) (by
      rintro g hg δ ⟨h, rfl⟩
      refine ⟨δs (some (.sh g)), rfl, ?_⟩
      have hany : tb (dany [10] (idct (dv 8)) (tg1 10) (d2 gtD (d2 subD (d2 ixD (dv 5) (dv 6)) (d2 ixD (dv 5) (dfn 2 A_stepped (ac (dv 6) (ac (dv 10) (an)))))) (d2 ixD (dv 8) (dv 10)))) (δs (some (.sh g))) = some (!okAt n c yv g) := by
        refine ev_tb ?_
        unfold dany gvals idct
        show ((((if tupKeys kp = true then some (keysD kp) else none).bind fun ds => lcL (tg1 10) tyes (d2 gtD (d2 subD (d2 ixD (dv 5) (dv 6)) (d2 ixD (dv 5) (dfn 2 A_stepped (ac (dv 6) (ac (dv 10) (an)))))) (d2 ixD (dv 8) (dv 10))) ds (δs (some (.sh g)))).bind fun ys => (boolsOf ys).map fun bs => PyData.bool (bs.any id))) = _
        rw [if_pos P.kpk]
        show (((lcL (tg1 10) tyes (d2 gtD (d2 subD (d2 ixD (dv 5) (dv 6)) (d2 ixD (dv 5) (dfn 2 A_stepped (ac (dv 6) (ac (dv 10) (an)))))) (d2 ixD (dv 8) (dv 10))) (keysD kp) (δs (some (.sh g)))).bind fun ys => (boolsOf ys).map fun bs => PyData.bool (bs.any id))) = _
        rw [lcL_map (f := fun s => .bool (decide ((c s : Int) < yv g - yv (tr g s)))) fun s hs => ⟨[some (.sh start), some (.sh goal), some (.sh pr), some (.sh (.tuple (ys.map PyData.int))), some (.sh (.int n)), some (.sh (.dict T0)), some (.sh g), some (.sh (.list (GR n))), some (.sh (.dict kp)), none, some (.sh s)], rfl, by
          have hs' : s ∈ ST n := (P.kpm s).mp hs
          obtain ⟨t1, t2, t3⟩ := f_tr P.hn hg hs'
          rw [ev_d2 (x := .int (yv g - yv (tr g s))) (y := .int (c s)) ?_ ?_]
          · rfl
          · rw [ev_d2 (x := .int (yv g)) (y := .int (yv (tr g s))) (by rw [ev_d2 (x := .dict T0) (y := g) rfl rfl, ixD_GR P.hn hg]; exact hy g hg) (by rw [ev_d2 (x := .dict T0) rfl (ev_fn2 (x := g) (y := s) rfl rfl t2), ixD_GR P.hn t3]; exact hy _ t3)]
            rfl
          · rw [ev_d2 (x := .dict kp) (y := s) rfl rfl, ixD_ST P.hn hs']; exact (P.cp s hs').2⟩]
        show (boolsOf ((keysD kp).map fun s => PyData.bool (decide ((c s : Int) < yv g - yv (tr g s))))).map (fun bs => PyData.bool (bs.any id)) = _
        rw [show ((keysD kp).map fun s => PyData.bool (decide ((c s : Int) < yv g - yv (tr g s)))) = ((keysD kp).map fun s => decide ((c s : Int) < yv g - yv (tr g s))).map PyData.bool by rw [List.map_map]; rfl, boolsOf_of]
        show some (PyData.bool (((keysD kp).map fun s => decide ((c s : Int) < yv g - yv (tr g s))).any id)) = _
        rw [List.any_map]
        congr 2
        unfold okAt
        rw [Bool.eq_iff_iff]
        simp only [List.any_eq_true, Function.comp, id, decide_eq_true_eq, Bool.not_eq_true', List.all_eq_false]
        constructor
        · rintro ⟨s, hs, h⟩
          exact ⟨s, (P.kpm s).mp hs, by omega⟩
        · rintro ⟨s, hs, h⟩
          exact ⟨s, (P.kpm s).mpr hs, by omega⟩
      cases hb : okAt n c yv g with
      | true =>
        rw [hb] at hany
        exact .inr ⟨rfl, δs (some (.sh g)), by rw [ev_if hany]; rfl, _, rfl⟩
      | false =>
        rw [hb] at hany
        exact .inl ⟨rfl, by rw [ev_if hany]; rfl⟩) ⟨none, rfl⟩
    have hfin : (GR n).any (fun g => !okAt n c yv g) = !(GR n).all (okAt n c yv) := by
      rw [List.any_eq_not_all_not]; simp
    rcases loop with ⟨h1, h2⟩ | ⟨h1, δ', h2, h, rfl⟩
    · rw [hfin] at h1
      have h1 : (GR n).all (okAt n c yv) = false := by simpa using h1
      rw [h1]
      unfold andT
      rw [ev_for (ds := GR n) rfl h2]; rfl
    · rw [hfin] at h1
      have h1 : (GR n).all (okAt n c yv) = true := by simpa using h1
      rw [h1, ev_and (δ1 := δs h) (ev_for (ds := GR n) rfl h2)]; rfl
  · have hz : (decide (yv goal = 0) && decide (yv start = (f start : Int))) = false := by simpa using hz
    rw [hz] at hc2
    rw [hz]
    unfold andT
    rw [ev_if hc2]; rfl
end
end Gd

set_option maxHeartbeats 2000000
/-! GmM: law's papers. -/
namespace Gd
open PySem PySem.Spec PyProof.Rows L2
structure PFin (n : Nat) (pr : D) (kl : List (D × D)) (goal start : D) (b : Nat) (NI : List Int) (δ : Sl) : Prop where
  len : δ.length = 16
  h0 : δ[0]? = some (some (.sh start))
  h1 : δ[1]? = some (some (.sh goal))
  h2 : δ[2]? = some (some (.sh pr))
  h3 : δ[3]? = some (some (.sh (.dict kl)))
  h4 : δ[4]? = some (some (.sh (.tuple (NI.map PyData.int))))
  h5 : δ[5]? = some (some (.sh (.int b)))
  h9 : δ[9]? = some (some (.sh (.list (GR n))))
  h10 : δ[10]? = some (some (.sh (.list (ST n))))
theorem PFin.set {n : Nat} {pr : D} {kl : List (D × D)} {goal start : D} {b : Nat} {NI : List Int} {δ : Sl} (h : PFin n pr kl goal start b NI δ) {i : Nat} {x : Option SD} (hi : i = 6 ∨ i = 7 ∨ i = 8 ∨ i = 11 ∨ i = 12 ∨ i = 13 ∨ i = 14 ∨ i = 15) : PFin n pr kl goal start b NI (δ.set i x) := by
  have hl := h.len
  have key : ∀ j, (j < 6 ∨ j = 9 ∨ j = 10) → (δ.set i x)[j]? = δ[j]? := fun j h1 => by rw [get_set (by omega), if_neg (by omega)]
  exact ⟨by rw [List.length_set]; exact h.len, by rw [key _ (by decide)]; exact h.h0, by rw [key _ (by decide)]; exact h.h1, by rw [key _ (by decide)]; exact h.h2, by rw [key _ (by decide)]; exact h.h3, by rw [key _ (by decide)]; exact h.h4,
    by rw [key _ (by decide)]; exact h.h5, by rw [key _ (by decide)]; exact h.h9, by rw [key _ (by decide)]; exact h.h10⟩
/-- what a paper may be -/
def Pap (n : Nat) (v : D) : Prop := isiD .tuple v = some (.bool false) ∨ (∃ ys : List Int, v = .tuple (ys.map PyData.int)) ∨ v = .tuple (List.replicate (GR n).length .none)
def pd1 : Sl → Option D := dand (d1 (isiD .tuple) (dv 8)) (dand (d2 eqD (dl lenD (ac (dv 8) (an))) (dl lenD (ac (dv 9) (an)))) (d2 eqD (dlc [15] (iseq (dv 8)) (tg1 15) (tnot (tb (d1 (isiD .int) (dv 15)))) (dv 15)) (dl mkL (an))))
def pd2 : Sl → Option D := own_val (fcl dictD (ac (dlc [7] (irg1 (dl lenD (ac (dv 9) (an)))) (tg1 7) (tyes) (dl mkT (ac (d2 ixD (dv 9) (dv 7)) (ac (d2 ixD (dv 8) (dv 7)) (an))))) (an)))
def pd3 : Sl → Option D := dand (d2 eqD (d2 ixD (dv 13) (dv 1)) (dc (.int 0))) (d2 eqD (d2 ixD (dv 13) (dv 0)) (dv 5))
def pd4 : Sl → Option D := dand (dv 12) (d2 eqD (dlc [11] (iseq (dv 10)) (tg1 11) (tb (d2 gtD (d2 subD (d2 ixD (dv 13) (dv 14)) (d2 ixD (dv 13) (dfn 2 A_law_step (ac (dv 14) (ac (dv 11) (an)))))) (d2 ixD (dv 3) (dv 11)))) (dv 11)) (dl mkL (an)))
def ptest : Sl → Option Out := sif (tnot (tb (dfn 2 A2_law_alike (ac (dfn 4 A_shows_price_paper (ac (dv 0) (ac (dv 1) (ac (dv 2) (ac (dv 8) (an)))))) (ac (dv 12) (an)))))) (sret (dc (.bool false))) (snil)
def paperBody : Sl → Option Out := andT (sset 12 pd1) (andT (sif (tb (dv 12)) (andT (sset 13 pd2) (andT (sset 12 pd3) (sfor (iseq (dv 9)) (tg1 14) (sset 12 pd4)))) (snil)) ptest)
theorem eqv_nil : ∀ l : List D, PyData.eqv (.list l) (.list []) = l.isEmpty
  | [] => rfl
  | _ :: _ => rfl
theorem ev_ac1 {δ : Sl} {a : Sl → Option D} {x : D} (h : a δ = some x) : ac a an δ = some [x] := by unfold ac an; rw [h]; rfl
theorem dlc_of {δ : Sl} {vs : List Nat} {f : Sl → Option (List D)} {t : Tg} {c : Sl → Option Bool} {a : Sl → Option D} {ds ys : List D} (h : f δ = some ds) (hl : ds.length ≤ 1000000) (e : lcL t c a ds (wipeD δ vs) = some ys) : dlc vs f t c a δ = some (.list ys) := by
  unfold dlc
  rw [h]
  show (if ds.length ≤ 1000000 then (lcL t c a ds (wipeD δ vs)).map PyData.list else none) = _
  rw [if_pos hl, e]; rfl
theorem irg1_int {δ : Sl} {a : Sl → Option D} {j : Int} (h : a δ = some (.int j)) (hj : -1000000 < j ∧ j < 1000000) : irg1 a δ = some (rgL 0 j.toNat) := by
  unfold irg1
  rw [h]
  show (if -1000000 < j ∧ j < 1000000 then some (rgL 0 j.toNat) else none) = _
  rw [if_pos hj]
theorem irg1_ok {δ : Sl} {a : Sl → Option D} {m : Nat} (h : a δ = some (.int m)) (hm : m ≤ 1000) : irg1 a δ = some (rgL 0 m) := by
  rw [irg1_int h ⟨by omega, by omega⟩, Int.toNat_natCast]
theorem ck_ne : (ns.all fun n => decide (0 < (GR n).length)) = true := by decide +kernel
section
variable {n : Nat} {pr : D} {c : D → Nat} {kl kp : List (D × D)} {goal start : D} {f : D → Nat} {NI : List Int} {δ : Sl} {v : D} (P : Pr n pr c kl kp) (hgo : goal ∈ GR n) (hst : start ∈ GR n) (hf : Lst n c goal f)
theorem ptest_ok {d : Bool} (h : PFin n pr kl goal start (f start) NI δ) (h8 : δ[8]? = some (some (.sh v))) (h12 : δ[12]? = some (some (.sh (.bool d)))) (e : A_shows_price_paper [start, goal, pr, v] = some (.bool d)) : ptest δ = some (.nx δ) := by
  unfold ptest
  rw [ev_if (v := false) (by
    rw [ev_tnot (v := true) (ev_tb (ev_fn2 (x := .bool d) (y := .bool d) (ev_fn4 (x := start) (y := goal) (v := pr) (u := v) (dv_of h.h0) (dv_of h.h1) (dv_of h.h2) (dv_of h8) e) (dv_of h12) (alike_bool d)))]; rfl)]
  rfl
theorem paper_no (h : PFin n pr kl goal start (f start) NI δ) (h8 : δ[8]? = some (some (.sh v))) (e1 : pd1 δ = some (.bool false)) (e : A_shows_price_paper [start, goal, pr, v] = some (.bool false)) : ∃ δ', paperBody δ = some (.nx δ') ∧ PFin n pr kl goal start (f start) NI δ' := by
  have hl := h.len
  have F : PFin n pr kl goal start (f start) NI (δ.set 12 (some (.sh (.bool false)))) := h.set (by omega)
  have a12 : (δ.set 12 (some (.sh (.bool false))))[12]? = some (some (.sh (.bool false))) := by rw [get_set (by omega), if_pos rfl]
  have a8 : (δ.set 12 (some (.sh (.bool false))))[8]? = some (some (.sh v)) := by rw [get_set (by omega), if_neg (by decide)]; exact h8
  refine ⟨_, ?_, F⟩
  unfold paperBody
  rw [ev_and (ev_set e1), ev_and (δ1 := δ.set 12 (some (.sh (.bool false)))) (by rw [ev_if (v := false) (ev_tb (dv_of a12))]; rfl)]
  exact ptest_ok F a8 a12 e
theorem at_nat {l : List D} {i : Nat} {x : D} (h : l[i]? = some x) : atI l ((0 : Int) + (i : Nat)) = some x := by
  have hl : i < l.length := (List.getElem?_eq_some_iff.mp h).1
  unfold atI ixN
  rw [if_pos (by omega), if_pos (by omega)]
  show l[((0 : Int) + (i : Nat)).toNat]? = _
  rw [show ((0 : Int) + (i : Nat)).toNat = i by omega]; exact h
theorem pd1_len {vs : List D} (h : PFin n pr kl goal start (f start) NI δ) (h8 : δ[8]? = some (some (.sh (.tuple vs)))) : d2 eqD (dl lenD (ac (dv 8) (an))) (dl lenD (ac (dv 9) (an))) δ = some (.bool (decide (vs.length = (GR n).length))) := by
  rw [ev_d2 (x := .int vs.length) (y := .int (GR n).length) (ev_dl1 (dv_of h8)) (ev_dl1 (dv_of h.h9)), eqD_int]
  congr 2
  simp only [decide_eq_decide]; omega
include P
theorem pd2_ok {vs : List D} (hl : vs.length = (GR n).length) (h : PFin n pr kl goal start (f start) NI δ) (h8 : δ[8]? = some (some (.sh (.tuple vs)))) : pd2 δ = some (.dict (told n vs)) := by
  have hlen := h.len
  have hN := (f_len P.hn).1
  have hlc : dlc [7] (irg1 (dl lenD (ac (dv 9) (an)))) (tg1 7) (tyes) (dl mkT (ac (d2 ixD (dv 9) (dv 7)) (ac (d2 ixD (dv 8) (dv 7)) (an)))) δ = some (.list (((GR n).zip vs).map fun p => .tuple [p.1, p.2])) := by
    refine dlc_of (irg1_ok (m := (GR n).length) (ev_dl1 (dv_of h.h9)) (by omega)) (by rw [rgL_len]; omega) ?_
    show lcL (tg1 7) tyes (dl mkT (ac (d2 ixD (dv 9) (dv 7)) (ac (d2 ixD (dv 8) (dv 7)) (an)))) (rgL 0 (GR n).length) (δ.set 7 none) = _
    rw [lcL_map (f := fun d => match d with
      | .int i => .tuple [(GR n).getD i.toNat .none, vs.getD i.toNat .none]
      | _ => .none) fun d hd => ⟨(δ.set 7 none).set 7 (some (.sh d)), rfl, ?_⟩]
    · congr 1
      refine List.ext_getElem? fun i => ?_
      rw [List.getElem?_map, List.getElem?_map]
      unfold rgL
      rw [List.getElem?_map]
      by_cases hi : i < (GR n).length
      · rw [List.getElem?_range hi]
        have hz : ((GR n).zip vs)[i]? = some ((GR n)[i], vs[i]) := by rw [List.getElem?_eq_getElem (by rw [List.length_zip]; omega), List.getElem_zip]
        rw [hz]
        show some (PyData.tuple [(GR n).getD ((0 : Int) + (i : Nat)).toNat .none, vs.getD ((0 : Int) + (i : Nat)).toNat .none]) = some (PyData.tuple [(GR n)[i], vs[i]])
        rw [show ((0 : Int) + (i : Nat)).toNat = i by omega]
        rw [List.getD_eq_getElem?_getD, List.getD_eq_getElem?_getD, List.getElem?_eq_getElem hi, List.getElem?_eq_getElem (by omega)]; rfl
      · rw [List.getElem?_eq_none (l := List.range _) (by rw [List.length_range]; omega), List.getElem?_eq_none (l := (GR n).zip vs) (by rw [List.length_zip]; omega)]; rfl
    · obtain ⟨i, hi⟩ := List.mem_iff_getElem?.mp hd
      obtain ⟨hi', rfl⟩ := rgL_get hi
      clear hi
      have hi := hi'
      rw [set3]
      have b7 : dv 7 (δ.set 7 (some (.sh (.int ((0 : Int) + (i : Nat)))))) = some (.int ((0 : Int) + (i : Nat))) := dv_of (by rw [get_set (by omega), if_pos rfl])
      have b9 : dv 9 (δ.set 7 (some (.sh (.int ((0 : Int) + (i : Nat)))))) = some (.list (GR n)) := dv_of (by rw [get_set (by omega), if_neg (by decide)]; exact h.h9)
      have b8 : dv 8 (δ.set 7 (some (.sh (.int ((0 : Int) + (i : Nat)))))) = some (.tuple vs) := dv_of (by rw [get_set (by omega), if_neg (by decide)]; exact h8)
      have c1 : d2 ixD (dv 9) (dv 7) (δ.set 7 (some (.sh (.int ((0 : Int) + (i : Nat)))))) = some (GR n)[i] := by
        rw [ev_d2 b9 b7]; exact at_nat (List.getElem?_eq_getElem hi)
      have c2 : d2 ixD (dv 8) (dv 7) (δ.set 7 (some (.sh (.int ((0 : Int) + (i : Nat)))))) = some (vs[i]'(by omega)) := by
        rw [ev_d2 b8 b7]; exact at_nat (List.getElem?_eq_getElem (by omega))
      unfold dl ac an
      rw [c1, c2]
      show some (PyData.tuple [(GR n)[i], vs[i]'(by omega)]) = some (PyData.tuple [(GR n).getD ((0 : Int) + (i : Nat)).toNat .none, vs.getD ((0 : Int) + (i : Nat)).toNat .none])
      rw [show ((0 : Int) + (i : Nat)).toNat = i by omega, List.getD_eq_getElem?_getD, List.getD_eq_getElem?_getD, List.getElem?_eq_getElem hi, List.getElem?_eq_getElem (by omega)]; rfl
  unfold pd2 own_val fcl
  rw [ev_ac1 hlc]
  show (((pairsOf (((GR n).zip vs).map fun p => .tuple [p.1, p.2])).bind fun ps => if ps.length ≤ 1000000 then some (SD.own (dputs [] ps)) else none).map SD.val) = _
  rw [pairsOf_ok P.hn zip_kin]
  show ((if ((GR n).zip vs).length ≤ 1000000 then some (SD.own (dputs [] ((GR n).zip vs))) else none).map SD.val) = _
  rw [if_pos (by rw [List.length_zip]; omega)]; rfl
include hgo hst hf
theorem paper_body (h : PFin n pr kl goal start (f start) NI δ) (h8 : δ[8]? = some (some (.sh v))) (hv : Pap n v) : ∃ δ', paperBody δ = some (.nx δ') ∧ PFin n pr kl goal start (f start) NI δ' := by
  have hlen := h.len
  have hN := (f_len P.hn).1
  rcases hv with hv | ⟨ys, rfl⟩ | rfl
  · refine paper_no h h8 ?_ (paper_not P hgo hst hv)
    unfold pd1
    rw [ev_dand (v := false) (by rw [ev_d1 (dv_of h8)]; exact hv)]; rfl
  · by_cases hy : ys.length = (GR n).length
    · obtain ⟨yv, hyv⟩ := told_int P.hn hy
      have e1 : pd1 δ = some (.bool true) := by
        unfold pd1
        rw [ev_dand (v := true) (by rw [ev_d1 (dv_of h8)]; rfl), if_pos rfl, ev_dand (pd1_len h h8), List.length_map, decide_eq_true hy, if_pos rfl]
        have hlc : dlc [15] (iseq (dv 8)) (tg1 15) (tnot (tb (d1 (isiD .int) (dv 15)))) (dv 15) δ = some (.list []) := by
          unfold dlc iseq
          rw [dv_of h8]
          show (if (ys.map PyData.int).length ≤ 1000000 then (lcL (tg1 15) (tnot (tb (d1 (isiD .int) (dv 15)))) (dv 15) (ys.map PyData.int) (δ.set 15 none)).map PyData.list else none) = _
          rw [if_pos (by rw [List.length_map]; omega), lcL_filter (f := id) (p := fun _ => false) fun d hd => ⟨(δ.set 15 none).set 15 (some (.sh d)), rfl, ?_, fun z => by cases z⟩]
          · rw [List.filter_eq_nil_iff.mpr (by simp)]; rfl
          · obtain ⟨i, _, rfl⟩ := List.mem_map.mp hd
            rw [ev_tnot (v := true) (ev_tb (by rw [set3, ev_d1 (dv_of (d := .int i) (by rw [get_set (by omega), if_pos rfl]))]; rfl))]; rfl
        rw [ev_d2 (y := .list []) hlc rfl]; rfl
      generalize hδ1 : δ.set 12 (some (.sh (.bool true))) = δ1
      have F1 : PFin n pr kl goal start (f start) NI δ1 := by rw [← hδ1]; exact h.set (by omega)
      have a12 : δ1[12]? = some (some (.sh (.bool true))) := by rw [← hδ1, get_set (by omega), if_pos rfl]
      have a8 : δ1[8]? = some (some (.sh (.tuple (ys.map PyData.int)))) := by rw [← hδ1, get_set (by omega), if_neg (by decide)]; exact h8
      have e2 := pd2_ok P (by rw [List.length_map]; exact hy) F1 a8
      have l1 := F1.len
      generalize hδ2 : δ1.set 13 (some (.sh (.dict (told n (ys.map PyData.int))))) = δ2
      have F2 : PFin n pr kl goal start (f start) NI δ2 := by rw [← hδ2]; exact F1.set (by omega)
      have b13 : δ2[13]? = some (some (.sh (.dict (told n (ys.map PyData.int))))) := by rw [← hδ2, get_set (by omega), if_pos rfl]
      have b8 : δ2[8]? = some (some (.sh (.tuple (ys.map PyData.int)))) := by rw [← hδ2, get_set (by omega), if_neg (by decide)]; exact a8
      have l2 := F2.len
      let d0 : Bool := decide (yv goal = 0) && decide (yv start = (f start : Int))
      have e3 : pd3 δ2 = some (.bool d0) := by
        unfold pd3
        rw [ev_dand (v := decide (yv goal = 0)) (by
            rw [ev_d2 (x := .int (yv goal)) (y := .int 0) (by rw [ev_d2 (dv_of b13) (dv_of F2.h1), ixD_GR P.hn hgo]; exact hyv goal hgo) rfl, eqD_int]),
          ev_d2 (x := .int (yv start)) (by rw [ev_d2 (dv_of b13) (dv_of F2.h0), ixD_GR P.hn hst]; exact hyv start hst) (dv_of F2.h5), eqD_int]
        show _ = some (PyData.bool (decide (yv goal = 0) && decide (yv start = (f start : Int))))
        cases decide (yv goal = 0) <;> rfl
      generalize hδ3 : δ2.set 12 (some (.sh (.bool d0))) = δ3
      have F3 : PFin n pr kl goal start (f start) NI δ3 := by rw [← hδ3]; exact F2.set (by omega)
      have c13 : δ3[13]? = some (some (.sh (.dict (told n (ys.map PyData.int))))) := by rw [← hδ3, get_set (by omega), if_neg (by decide)]; exact b13
      have c8 : δ3[8]? = some (some (.sh (.tuple (ys.map PyData.int)))) := by rw [← hδ3, get_set (by omega), if_neg (by decide)]; exact b8
      have c12 : δ3[12]? = some (some (.sh (.bool d0))) := by rw [← hδ3, get_set (by omega), if_pos rfl]
      obtain ⟨δ4, e4, F4, d13, d8, pre, hp, d12⟩ := forL_inv (t := tg1 14) (b := sset 12 pd4) (fun rest δ => PFin n pr kl goal start (f start) NI δ ∧ δ[13]? = some (some (.sh (.dict (told n (ys.map PyData.int))))) ∧ δ[8]? = some (some (.sh (.tuple (ys.map PyData.int)))) ∧
          ∃ pre, pre ++ rest = GR n ∧ δ[12]? = some (some (.sh (.bool (d0 && pre.all (okAt n c yv)))))) (by
        rintro g rest δ ⟨F, q13, q8, pre, hp, q12⟩
        have hg : g ∈ GR n := by rw [← hp]; simp
        have l := F.len
        refine ⟨δ.set 14 (some (.sh g)), rfl, ?_⟩
        generalize hδ' : δ.set 14 (some (.sh g)) = δ'
        have F' : PFin n pr kl goal start (f start) NI δ' := by rw [← hδ']; exact F.set (by omega)
        have l' := F'.len
        have r13 : δ'[13]? = some (some (.sh (.dict (told n (ys.map PyData.int))))) := by rw [← hδ', get_set (by omega), if_neg (by decide)]; exact q13
        have r8 : δ'[8]? = some (some (.sh (.tuple (ys.map PyData.int)))) := by rw [← hδ', get_set (by omega), if_neg (by decide)]; exact q8
        have r12 : δ'[12]? = some (some (.sh (.bool (d0 && pre.all (okAt n c yv))))) := by rw [← hδ', get_set (by omega), if_neg (by decide)]; exact q12
        have r14 : δ'[14]? = some (some (.sh g)) := by rw [← hδ', get_set (by omega), if_pos rfl]
        have ev : pd4 δ' = some (.bool ((d0 && pre.all (okAt n c yv)) && okAt n c yv g)) := by
          unfold pd4
          rw [ev_dand (dv_of r12)]
          have hlc : dlc [11] (iseq (dv 10)) (tg1 11) (tb (d2 gtD (d2 subD (d2 ixD (dv 13) (dv 14)) (d2 ixD (dv 13) (dfn 2 A_law_step (ac (dv 14) (ac (dv 11) (an)))))) (d2 ixD (dv 3) (dv 11)))) (dv 11) δ' = some (.list ((ST n).filter fun s => decide ((c s : Int) < yv g - yv (tr g s)))) := by
            unfold dlc iseq
            rw [dv_of F'.h10]
            have hS := (f_len P.hn).2
            show (if (ST n).length ≤ 1000000 then (lcL (tg1 11) (tb (d2 gtD (d2 subD (d2 ixD (dv 13) (dv 14)) (d2 ixD (dv 13) (dfn 2 A_law_step (ac (dv 14) (ac (dv 11) (an)))))) (d2 ixD (dv 3) (dv 11)))) (dv 11) (ST n) (δ'.set 11 none)).map PyData.list else none) = _
            rw [if_pos (by omega), lcL_filter (f := id) (p := fun s => decide ((c s : Int) < yv g - yv (tr g s))) fun s hs => ⟨(δ'.set 11 none).set 11 (some (.sh s)), rfl, ?_, fun _ => dv_of (by rw [set3, get_set (by omega), if_pos rfl]; rfl)⟩]
            · rw [List.map_id]; rfl
            · rw [set3]
              have s11 : dv 11 (δ'.set 11 (some (.sh s))) = some s := dv_of (by rw [get_set (by omega), if_pos rfl])
              have s13 : dv 13 (δ'.set 11 (some (.sh s))) = some (.dict (told n (ys.map PyData.int))) := dv_of (by rw [get_set (by omega), if_neg (by decide)]; exact r13)
              have s14 : dv 14 (δ'.set 11 (some (.sh s))) = some g := dv_of (by rw [get_set (by omega), if_neg (by decide)]; exact r14)
              have s3 : dv 3 (δ'.set 11 (some (.sh s))) = some (.dict kl) := dv_of (by rw [get_set (by omega), if_neg (by decide)]; exact F'.h3)
              obtain ⟨t1, t2, t3⟩ := f_tr P.hn hg hs
              refine ev_tb ?_
              rw [ev_d2 (x := .int (yv g - yv (tr g s))) (y := .int (c s)) ?_ ?_]
              · rfl
              · rw [ev_d2 (x := .int (yv g)) (y := .int (yv (tr g s))) (by rw [ev_d2 s13 s14, ixD_GR P.hn hg]; exact hyv g hg) (by rw [ev_d2 s13 (ev_fn2 s14 s11 t1), ixD_GR P.hn t3]; exact hyv _ t3)]
                rfl
              · rw [ev_d2 s3 s11, ixD_ST P.hn hs]; exact (P.cl s hs).2
          rw [ev_d2 (y := .list []) hlc rfl]
          unfold eqD
          rw [okd_list (fun d hd => (EL_ok P.hn (ST_EL (List.mem_filter.mp hd).1)).2.2), eqv_nil]
          have hz : ((ST n).filter fun s => decide ((c s : Int) < yv g - yv (tr g s))).isEmpty = okAt n c yv g := by
            unfold okAt
            rw [Bool.eq_iff_iff, List.isEmpty_iff, List.filter_eq_nil_iff, List.all_eq_true]
            simp only [decide_eq_true_eq]
            exact ⟨fun q s hs => by have := q s hs; omega, fun q s hs => by have := q s hs; omega⟩
          rw [hz]
          cases d0 && pre.all (okAt n c yv) <;> rfl
        refine ⟨δ'.set 12 (some (.sh (.bool ((d0 && pre.all (okAt n c yv)) && okAt n c yv g)))), ev_set ev, F'.set (by omega), by rw [get_set (by omega), if_neg (by decide)]; exact r13, by rw [get_set (by omega), if_neg (by decide)]; exact r8, pre ++ [g], by rw [List.append_assoc]; exact hp, ?_⟩
        rw [get_set (by omega), if_pos rfl, List.all_append, Bool.and_assoc]
        simp) (ds := GR n) (δ := δ3) ⟨F3, c13, c8, [], rfl, by rw [c12]; simp⟩
      rw [List.append_nil] at hp
      subst hp
      refine ⟨δ4, ?_, F4⟩
      unfold paperBody
      rw [ev_and (ev_set e1), hδ1]
      have es : sif (tb (dv 12)) (andT (sset 13 pd2) (andT (sset 12 pd3) (sfor (iseq (dv 9)) (tg1 14) (sset 12 pd4)))) (snil) δ1 = some (.nx δ4) := by
        rw [ev_if (v := true) (ev_tb (dv_of a12)), if_pos rfl, ev_and (ev_set e2), hδ2, ev_and (ev_set e3), hδ3]
        exact ev_for (ds := GR n) (by unfold iseq; rw [dv_of F3.h9]; rfl) e4
      rw [ev_and es]
      exact ptest_ok F4 d8 d12 (paper_ok P hgo hst hf hy hyv)
    · refine paper_no h h8 ?_ (paper_short P hgo hst (by rw [List.length_map]; exact hy))
      unfold pd1
      rw [ev_dand (v := true) (by rw [ev_d1 (dv_of h8)]; rfl), if_pos rfl, ev_dand (pd1_len h h8), List.length_map, decide_eq_false hy]; rfl
  · have hpos : 0 < (GR n).length := of_decide_eq_true (List.all_eq_true.mp ck_ne n P.hn)
    refine paper_no h h8 ?_ (paper_nones P hgo hst rfl hpos)
    unfold pd1
    rw [ev_dand (v := true) (by rw [ev_d1 (dv_of h8)]; rfl), if_pos rfl, ev_dand (pd1_len h h8), List.length_replicate, decide_eq_true rfl, if_pos rfl]
    have hlc : dlc [15] (iseq (dv 8)) (tg1 15) (tnot (tb (d1 (isiD .int) (dv 15)))) (dv 15) δ = some (.list (List.replicate (GR n).length .none)) := by
      unfold dlc iseq
      rw [dv_of h8]
      show (if (List.replicate (GR n).length PyData.none).length ≤ 1000000 then (lcL (tg1 15) (tnot (tb (d1 (isiD .int) (dv 15)))) (dv 15) (List.replicate (GR n).length .none) (δ.set 15 none)).map PyData.list else none) = _
      rw [if_pos (by rw [List.length_replicate]; omega), lcL_filter (f := id) (p := fun _ => true) fun d hd => ⟨(δ.set 15 none).set 15 (some (.sh d)), rfl, ?_, fun _ => dv_of (by rw [set3, get_set (by omega), if_pos rfl]; rfl)⟩]
      · rw [List.filter_eq_self.mpr (by simp), List.map_id]; rfl
      · rw [(List.mem_replicate.mp hd).2, ev_tnot (v := false) (ev_tb (by rw [set3, ev_d1 (dv_of (d := .none) (by rw [get_set (by omega), if_pos rfl]))]; rfl))]; rfl
    rw [ev_d2 (y := .list []) hlc rfl]
    unfold eqD
    rw [okd_list (fun d hd => by rw [(List.mem_replicate.mp hd).2]; rfl), eqv_nil]
    have : (List.replicate (GR n).length PyData.none).isEmpty = false := by
      cases hm : (GR n).length with
      | zero => omega
      | succ m => rfl
    rw [this]; rfl
end
end Gd

set_option maxHeartbeats 2000000
/-! GmN: law's papers, all. -/
namespace Gd
open PySem PySem.Spec PyProof.Rows L2
theorem ev_ac {δ : Sl} {a : Sl → Option D} {r : Sl → Option (List D)} {x : D} {xs : List D} (h : a δ = some x) (h2 : r δ = some xs) : ac a r δ = some (x :: xs) := by unfold ac; rw [h, h2]; rfl
theorem cut_ints (NI : List Int) (lo hi : Option Int) : ∃ ys : List Int, cutD (NI.map PyData.int) lo hi = ys.map PyData.int ∧ ys.length ≤ NI.length := by
  unfold cutD
  refine ⟨(NI.drop (HT.sIx (NI.map PyData.int).length 0 lo)).take (HT.sIx (NI.map PyData.int).length (NI.map PyData.int).length hi - HT.sIx (NI.map PyData.int).length 0 lo), by rw [List.map_take, List.map_drop], ?_⟩
  rw [List.length_take, List.length_drop]; omega
theorem ck_lab : all1 (fun n g => match A_law_labels [g] with
  | some (.owl l) => decide (l.length = n)
  | _ => false) GR = true := by decide +kernel
theorem lab_ok {n : Nat} (hn : n ∈ ns) {g : D} (hg : g ∈ GR n) : ∃ l : List D, A_law_labels [g] = some (.owl l) ∧ l.length = n := by
  have q := all1_get ck_lab hn hg
  split at q
  · rename_i l e
    exact ⟨l, e, of_decide_eq_true q⟩
  · cases q
theorem addT (xs ys : List Int) (h : xs.length + ys.length ≤ 1000) : addD (.tuple (xs.map PyData.int)) (.tuple (ys.map PyData.int)) = some (.tuple ((xs ++ ys).map PyData.int)) := by
  show (if (xs.map PyData.int).length + (ys.map PyData.int).length ≤ 1000000 then some (PyData.tuple (xs.map PyData.int ++ ys.map PyData.int)) else none) = _
  rw [if_pos (by rw [List.length_map, List.length_map]; omega), List.map_append]
section
variable {n : Nat} {pr : D} {c : D → Nat} {kl kp : List (D × D)} {goal start : D} {f : D → Nat} {NI : List Int} {δ : Sl} {v : D} (P : Pr n pr c kl kp) (hgo : goal ∈ GR n) (hst : start ∈ GR n) (hf : Lst n c goal f)
def plist : Sl → Option (List D) := ac (dv 4) (ac (dl listD (ac (dv 4) (an))) (ac (dsl (dv 4) (ps1 (dc (.int 1))) (pn)) (ac (d1 revD (dv 4)) (ac (d2 addD (dv 4) (dl mkT (ac (dc (.int 0)) (an)))) (ac (dc .none) (ac (dc (.int 3)) (ac (dl tupleD (ac (dlc [15] (iseq (dv 4)) (tg1 15) (tyes) (d2 addD (dv 15) (dc (.int 1)))) (an))) (ac (d2 mulD (dl mkT (ac (dc .none) (an))) (dl lenD (ac (dv 9) (an)))) (an)))))))))
include P
theorem plist_ok (hNI : NI.length ≤ 15) (h : PFin n pr kl goal start (f start) NI δ) : ∃ l, plist δ = some l ∧ (∀ v ∈ l, Pap n v) ∧ l.length = 9 := by
  have hlen := h.len
  have hN := (f_len P.hn).1
  have hpos : 0 < (GR n).length := of_decide_eq_true (List.all_eq_true.mp ck_ne n P.hn)
  obtain ⟨y1, c1, _⟩ := cut_ints NI (some 1) none
  have h4 := dv_of h.h4
  have e3 : dsl (dv 4) (ps1 (dc (.int 1))) (pn) δ = some (.tuple (y1.map PyData.int)) := by
    unfold dsl
    rw [h4]
    show some (PyData.tuple (cutD (NI.map PyData.int) (some 1) none)) = _
    rw [c1]
  have e4 : d1 revD (dv 4) δ = some (.tuple (NI.reverse.map PyData.int)) := by
    rw [ev_d1 h4]
    show some (PyData.tuple (NI.map PyData.int).reverse) = _
    rw [List.map_reverse]
  have e5 : d2 addD (dv 4) (dl mkT (ac (dc (.int 0)) (an))) δ = some (.tuple ((NI ++ [0]).map PyData.int)) := by
    rw [ev_d2 (y := .tuple ([0].map PyData.int)) h4 rfl, addT NI [0] (by simp; omega)]
  have e8 : dl tupleD (ac (dlc [15] (iseq (dv 4)) (tg1 15) (tyes) (d2 addD (dv 15) (dc (.int 1)))) (an)) δ = some (.tuple ((NI.map (· + 1)).map PyData.int)) := by
    have hlc : dlc [15] (iseq (dv 4)) (tg1 15) (tyes) (d2 addD (dv 15) (dc (.int 1))) δ = some (.list ((NI.map (· + 1)).map PyData.int)) := by
      refine dlc_of (ds := NI.map PyData.int) (by unfold iseq; rw [h4]; rfl) (by rw [List.length_map]; omega) ?_
      rw [lcL_map (f := fun d => match d with
        | .int i => .int (i + 1)
        | _ => .none) fun d hd => ⟨(δ.set 15 none).set 15 (some (.sh d)), rfl, ?_⟩]
      · rw [List.map_map, List.map_map]; rfl
      · obtain ⟨i, _, rfl⟩ := List.mem_map.mp hd
        rw [set3, ev_d2 (y := .int 1) (dv_of (d := .int i) (by rw [get_set (by omega), if_pos rfl])) rfl]; rfl
    rw [ev_dl1 hlc]; rfl
  have e9 : d2 mulD (dl mkT (ac (dc .none) (an))) (dl lenD (ac (dv 9) (an))) δ = some (.tuple (List.replicate (GR n).length .none)) := by
    rw [ev_d2 (x := .tuple [.none]) (y := .int (GR n).length) rfl (ev_dl1 (dv_of h.h9))]
    generalize hk : (((GR n).length : Nat) : Int) = k
    show (if 1 ≤ k ∧ k ≤ 1000 then some (PyData.tuple (List.replicate k.toNat .none)) else none) = _
    rw [if_pos (by omega), ← hk, Int.toNat_natCast]
  refine ⟨_, ev_ac h4 (ev_ac (ev_dl1 h4) (ev_ac e3 (ev_ac e4 (ev_ac e5 (ev_ac (x := .none) rfl (ev_ac (x := .int 3) rfl (ev_ac e8 (ev_ac e9 rfl)))))))), fun v hv => ?_, rfl⟩
  simp only [List.mem_cons, List.not_mem_nil, or_false] at hv
  rcases hv with rfl | rfl | rfl | rfl | rfl | rfl | rfl | rfl | rfl
  · exact .inr (.inl ⟨_, rfl⟩)
  · exact .inl rfl
  · exact .inr (.inl ⟨_, rfl⟩)
  · exact .inr (.inl ⟨_, rfl⟩)
  · exact .inr (.inl ⟨_, rfl⟩)
  · exact .inl rfl
  · exact .inl rfl
  · exact .inr (.inl ⟨_, rfl⟩)
  · exact .inr (.inr rfl)
def padd : Sl → Option D := d2 addD (d2 addD (dsl (dv 4) (pn) (ps1 (dv 7))) (dl mkT (ac (d2 addD (d2 ixD (dv 4) (dv 7)) (dv 11)) (an)))) (dsl (dv 4) (ps1 (d2 addD (dv 7) (dc (.int 1)))) (pn))
theorem padd_ok {k : Nat} {i : Int} (hNI : NI.length ≤ 15) (hk : k < NI.length) (h : PFin n pr kl goal start (f start) NI δ) (h7 : δ[7]? = some (some (.sh (.int ((0 : Int) + (k : Nat)))))) (h11 : δ[11]? = some (some (.sh (.int i)))) : ∃ ys : List Int, padd δ = some (.tuple (ys.map PyData.int)) := by
  have h4 := dv_of h.h4
  obtain ⟨y1, c1, l1⟩ := cut_ints NI none (some ((0 : Int) + (k : Nat)))
  obtain ⟨y2, c2, l2⟩ := cut_ints NI (some ((0 : Int) + (k : Nat) + 1)) none
  have e1 : dsl (dv 4) (pn) (ps1 (dv 7)) δ = some (.tuple (y1.map PyData.int)) := by
    unfold dsl ps1
    rw [h4, dv_of h7]
    show some (PyData.tuple (cutD (NI.map PyData.int) none (some ((0 : Int) + (k : Nat))))) = _
    rw [c1]
  have e2 : dsl (dv 4) (ps1 (d2 addD (dv 7) (dc (.int 1)))) (pn) δ = some (.tuple (y2.map PyData.int)) := by
    unfold dsl ps1
    rw [h4, ev_d2 (y := .int 1) (dv_of h7) rfl]
    show some (PyData.tuple (cutD (NI.map PyData.int) (some ((0 : Int) + (k : Nat) + 1)) none)) = _
    rw [c2]
  have e3 : dl mkT (ac (d2 addD (d2 ixD (dv 4) (dv 7)) (dv 11)) (an)) δ = some (.tuple ([NI[k] + i].map PyData.int)) := by
    rw [ev_dl1 (x := .int (NI[k] + i))]
    · rfl
    · rw [ev_d2 (x := .int NI[k]) (by
        rw [ev_d2 h4 (dv_of h7)]
        exact at_nat (by rw [List.getElem?_map, List.getElem?_eq_getElem hk]; rfl)) (dv_of h11)]
      rfl
  refine ⟨(y1 ++ [NI[k] + i]) ++ y2, ?_⟩
  unfold padd
  rw [ev_d2 (x := .tuple ((y1 ++ [NI[k] + i]).map PyData.int)) (by rw [ev_d2 e1 e3, addT _ _ (by simp; omega)]) e2, addT _ _ (by simp; omega)]
include hgo hst hf
theorem papers_ok (hNI : NI = (GR n).map fun g => (f g : Int)) : A_law_papers [start, goal, pr, .dict kl, .tuple (NI.map PyData.int), .int (f start)] = some (.bool true) := by
  have hN := (f_len P.hn).1
  have hl : NI.length = (GR n).length := by rw [hNI, List.length_map]
  let δ1 : Sl := [some (.sh start), some (.sh goal), some (.sh pr), some (.sh (.dict kl)), some (.sh (.tuple (NI.map PyData.int))), some (.sh (.int (f start))), none, none, none, some (.sh (.list (GR n))), some (.sh (.list (ST n))), none, none, none, none, none]
  have F1 : PFin n pr kl goal start (f start) NI δ1 := ⟨rfl, rfl, rfl, rfl, rfl, rfl, rfl, rfl, rfl⟩
  obtain ⟨lab, el, ell⟩ := lab_ok P.hn hst
  have e1 : spar [9, 10] (aoc (dfn 1 A_law_groupings (ac (dl lenD (ac (own_val (ffn 1 A_law_labels (ac (dv 0) (an)))) (an))) (an))) (aoc (dl listN (ac (dv 3) (an))) (aon))) (startD 16 [start, goal, pr, .dict kl, .tuple (NI.map PyData.int), .int (f start)]) = some (.nx δ1) := by
    have a1 : own_val (ffn 1 A_law_labels (ac (dv 0) (an))) (startD 16 [start, goal, pr, .dict kl, .tuple (NI.map PyData.int), .int (f start)]) = some (.list lab) := by
      show ((A_law_labels [start]).map SD.val) = _
      rw [el]; rfl
    have a2 : dl listN (ac (dv 3) (an)) (startD 16 [start, goal, pr, .dict kl, .tuple (NI.map PyData.int), .int (f start)]) = some (.list (ST n)) := by
      show (if tupKeys kl = true then some (PyData.list (keysD kl)) else none) = _
      rw [if_pos P.klt, P.klk]
    unfold spar aoc aon
    rw [ev_fn1 (x := .int n) (by rw [ev_dl1 a1]; show some (PyData.int lab.length) = _; rw [ell]) (f_lists P.hn).1, a2]
    rfl
  obtain ⟨l0, el0, hl0, ll0⟩ := plist_ok P (f := f) (by omega) F1
  have e2 : sown 6 (fl plist) δ1 = some (.nx (δ1.set 6 (some (.owl l0)))) := by
    unfold sown fl
    rw [el0]
    show ((if l0.length ≤ 1000000 then some (SD.owl l0) else none).bind fun sd => if sd.mine = true then some (Out.nx (δ1.set 6 (some sd))) else none) = _
    rw [if_pos (by omega)]; rfl
  -- the papers that differ at one place
  obtain ⟨δ2, e3, F2, l2, h62, hl2, _⟩ := forL_inv (t := tg1 7) (b := sfor (iseq (dl mkL (ac (dc (.int 1)) (ac (d1 negD (dc (.int 1))) (an))))) (tg1 11) (sapp 6 padd)) (fun rest δ => PFin n pr kl goal start (f start) NI δ ∧ ∃ l, δ[6]? = some (some (.owl l)) ∧ (∀ v ∈ l, Pap n v) ∧ l.length + 2 * rest.length ≤ 1000 ∧ ∀ d ∈ rest, ∃ k, k < NI.length ∧ d = .int ((0 : Int) + (k : Nat))) (by
    rintro d rest δ ⟨F, l, h6, hP, hll, hd⟩
    obtain ⟨k, hk, rfl⟩ := hd d List.mem_cons_self
    have hlen := F.len
    refine ⟨δ.set 7 (some (.sh (.int ((0 : Int) + (k : Nat))))), rfl, ?_⟩
    obtain ⟨δ3, e, F3, l3, h63, hP3, hl3, _⟩ := forL_inv (t := tg1 11) (b := sapp 6 padd) (fun rest2 δ => PFin n pr kl goal start (f start) NI δ ∧ ∃ l, δ[6]? = some (some (.owl l)) ∧ (∀ v ∈ l, Pap n v) ∧ l.length + rest2.length + 2 * rest.length ≤ 1000 ∧ δ[7]? = some (some (.sh (.int ((0 : Int) + (k : Nat))))) ∧ ∀ d ∈ rest2, ∃ i : Int, d = .int i) (by
      rintro d rest2 δ ⟨F, l, h6, hP, hll, h7, hd⟩
      obtain ⟨i, rfl⟩ := hd d List.mem_cons_self
      have hlen := F.len
      refine ⟨δ.set 11 (some (.sh (.int i))), rfl, ?_⟩
      have F' : PFin n pr kl goal start (f start) NI (δ.set 11 (some (.sh (.int i)))) := F.set (by omega)
      have hlen' := F'.len
      obtain ⟨ys, ey⟩ := padd_ok P (k := k) (i := i) (by omega) hk F' (by rw [get_set (by omega), if_neg (by decide)]; exact h7) (by rw [get_set (by omega), if_pos rfl])
      have h6' : (δ.set 11 (some (.sh (.int i))))[6]? = some (some (.owl l)) := by rw [get_set (by omega), if_neg (by decide)]; exact h6
      rw [List.length_cons] at hll
      refine ⟨(δ.set 11 (some (.sh (.int i)))).set 6 (some (.owl (l ++ [.tuple (ys.map PyData.int)]))), ?_, F'.set (by omega), l ++ [.tuple (ys.map PyData.int)], by rw [get_set (by omega), if_pos rfl], fun v hv => ?_, by rw [List.length_append, List.length_singleton]; omega, ?_, fun d hd' => hd d (List.mem_cons_of_mem _ hd')⟩
      · unfold sapp
        rw [h6']
        show ((padd (δ.set 11 (some (.sh (.int i))))).bind fun x => if l.length < 1000000 then some (Out.nx ((δ.set 11 (some (.sh (.int i)))).set 6 (some (.owl (l ++ [x]))))) else none) = _
        rw [ey]
        show (if l.length < 1000000 then _ else _) = _
        rw [if_pos (by omega)]
      · rcases List.mem_append.mp hv with hv | hv
        · exact hP v hv
        · have : v = .tuple (ys.map PyData.int) := by simpa using hv
          rw [this]; exact .inr (.inl ⟨_, rfl⟩)
      · rw [get_set (by omega), if_neg (by decide), get_set (by omega), if_neg (by decide)]; exact h7) (ds := [.int 1, .int (-1)]) (δ := δ.set 7 (some (.sh (.int ((0 : Int) + (k : Nat)))))) ⟨F.set (by omega), l, by rw [get_set (by omega), if_neg (by decide)]; exact h6, hP, by rw [List.length_cons] at hll; show l.length + 2 + _ ≤ _; omega, by rw [get_set (by omega), if_pos rfl], fun d hd' => by
        simp only [List.mem_cons, List.not_mem_nil, or_false] at hd'
        rcases hd' with rfl | rfl
        · exact ⟨1, rfl⟩
        · exact ⟨-1, rfl⟩⟩
    exact ⟨δ3, ev_for (ds := [.int 1, .int (-1)]) rfl e, F3, l3, h63, hP3, by simpa using hl3, fun d hd' => hd d (List.mem_cons_of_mem _ hd')⟩)
    (ds := rgL 0 (GR n).length) (δ := δ1.set 6 (some (.owl l0))) ⟨F1.set (by omega), l0, rfl, hl0, by rw [rgL_len]; omega, fun d hd => by
      obtain ⟨i, hi⟩ := List.mem_iff_getElem?.mp hd
      obtain ⟨hi', rfl⟩ := rgL_get hi
      exact ⟨i, by omega, rfl⟩⟩
  have l2' := F2.len
  -- each paper
  obtain ⟨δ4, e4, F4, _⟩ := forL_inv (t := tg1 8) (b := paperBody) (fun rest δ => PFin n pr kl goal start (f start) NI δ ∧ ∀ v ∈ rest, Pap n v) (by
    rintro v rest δ ⟨F, hP⟩
    have hlen := F.len
    obtain ⟨δ', e, F'⟩ := paper_body P hgo hst hf (δ := δ.set 8 (some (.sh v))) (v := v) (F.set (by omega)) (by rw [get_set (by omega), if_pos rfl]) (hP v List.mem_cons_self)
    exact ⟨_, rfl, δ', e, F', fun w hw => hP w (List.mem_cons_of_mem _ hw)⟩) (ds := l2) (δ := δ2.set 6 (some (.sh (.list l2)))) ⟨F2.set (by omega), hl2⟩
  have ef : F_law_papers (startD 16 [start, goal, pr, .dict kl, .tuple (NI.map PyData.int), .int (f start)]) = some (.rt (.bool true)) := by
    unfold F_law_papers
    rw [ev_and e1]
    show andT (sown 6 (fl plist)) (andT (sfor (irg1 (dl lenD (ac (dv 9) (an)))) (tg1 7) (sfor (iseq (dl mkL (ac (dc (.int 1)) (ac (d1 negD (dc (.int 1))) (an))))) (tg1 11) (sapp 6 padd))) (andT (sfrz 6 (sfor (iseq (dv 6)) (tg1 8) paperBody)) (sret (dc (.bool true))))) δ1 = _
    rw [ev_and e2, ev_and (ev_for (irg1_ok (m := (GR n).length) (ev_dl1 (dv_of (d := .list (GR n)) rfl)) (by omega)) e3)]
    have e5 : sfrz 6 (sfor (iseq (dv 6)) (tg1 8) paperBody) δ2 = some (.nx δ4) := by
      unfold sfrz
      rw [h62]
      show sfor (iseq (dv 6)) (tg1 8) paperBody (δ2.set 6 (some (.sh (.list l2)))) = _
      exact ev_for (by unfold iseq; rw [dv_of (d := .list l2) (by rw [get_set (by omega), if_pos rfl])]; rfl) e4
    rw [ev_and e5]; rfl
  unfold A_law_papers ansD
  rw [ef]; rfl
end
end Gd

set_option maxHeartbeats 2000000
/-! GmO: tables of prices (the end printed by genp.py). -/
namespace Gd
open PySem PySem.Spec PyProof.Rows L2
def cOf (kl : List (D × D)) (s : D) : Nat := match dget kl s with
  | some (.int x) => x.toNat
  | _ => 0
theorem cOf_eq {kl : List (D × D)} {s : D} {x : Nat} (h : dget kl s = some (.int (x : Nat))) : cOf kl s = x := by
  unfold cOf
  rw [h]
  show ((x : Int)).toNat = x
  omega
theorem cOf_ok {kl : List (D × D)} {s : D} {x : Nat} (h : dget kl s = some (.int (x : Nat))) (hx : x ≤ 7) : cOf kl s ≤ 7 ∧ dget kl s = some (.int (cOf kl s)) := by
  rw [cOf_eq h]; exact ⟨hx, h⟩
def isOne : D → Bool
  | .tuple [_] => true
  | _ => false
def KP (n : Nat) : List D := (ST n).filter isOne ++ (ST n).filter fun s => !isOne s
theorem ck_KP : (ns.all fun n => (KP n).all (mem (ST n)) && (ST n).all (mem (KP n))) = true := by decide +kernel
theorem kp_mem {n : Nat} {kp : List (D × D)} {s : D} (hn : n ∈ ns) (h : keysD kp = KP n) : s ∈ keysD kp ↔ s ∈ ST n := by
  have q := List.all_eq_true.mp ck_KP n hn
  rw [Bool.and_eq_true] at q
  rw [h]
  exact ⟨fun hs => mem_of (List.all_eq_true.mp q.1 s hs), fun hs => mem_of (List.all_eq_true.mp q.2 s hs)⟩
theorem is_in_pr {p : Nat} (h : p ≤ 7) : A_is_in [.int p, .int 0, .int 1000] = some (.bool true) := by
  have e : dch leD leD (dv 1) (dv 0) (dv 2) (startD 3 [.int p, .int 0, .int 1000]) = some (.bool true) := by
    show (match PyData.bool (decide ((0 : Int) ≤ (p : Int))) with
      | .bool true => some (PyData.bool (decide ((p : Int) ≤ 1000)))
      | .bool false => some (.bool false)
      | _ => none) = _
    rw [decide_eq_true (by omega)]
    show some (PyData.bool (decide ((p : Int) ≤ 1000))) = _
    rw [decide_eq_true (by omega)]
  unfold A_is_in ansD F_is_in sret
  rw [ev_dand (v := true) rfl, if_pos rfl, ev_dand (v := true) rfl, if_pos rfl, e]; rfl
theorem are_ok (n : Nat) (ps qs : List Nat) (hn : n ∈ ns) (h1 : ps.length = n) (h2 : qs.length = n * (n - 1) / 2) (hp : ∀ p ∈ ps, p ≤ 7) (hq : ∀ p ∈ qs, p ≤ 7) :
    A_are_prices [.int n, .tuple [.tuple (ps.map fun (p : Nat) => .int p), .tuple (qs.map fun (p : Nat) => .int p)]] = some (.bool true) := by
  have hn4 : n = 1 ∨ n = 2 ∨ n = 3 ∨ n = 4 := by simpa [ns] using hn
  let A : D := .tuple (ps.map fun (p : Nat) => .int p)
  let B : D := .tuple (qs.map fun (p : Nat) => .int p)
  let δ : Sl := startD 4 [.int n, .tuple [A, B]]
  have e1 : tor (tnot (tb (d1 (isiD .tuple) (dv 1)))) (tor (tb (d2 neD (dl lenD (ac (dv 1) (an))) (dc (.int 2)))) (tnot (tb (dall [3] (iseq (dv 1)) (tg1 3) (d1 (isiD .tuple) (dv 3)))))) δ = some false := rfl
  have neI : ∀ i j : Int, neD (.int i) (.int j) = some (.bool (!decide (i = j))) := fun i j => rfl
  have e2 : tb (d2 neD (dl lenD (ac (d2 ixD (dv 1) (dc (.int 0))) (an))) (dv 0)) δ = some false := by
    refine ev_tb ?_
    rw [ev_d2 (x := .int (ps.map fun (p : Nat) => PyData.int p).length) (y := .int n) rfl rfl, neI, List.length_map, h1]
    simp
  have e3 : d2 fdivD (d2 mulD (dv 0) (d2 subD (dv 0) (dc (.int 1)))) (dc (.int 2)) δ = some (.int ((n * (n - 1) / 2 : Nat) : Int)) := by
    clear e1 e2
    rcases hn4 with rfl | rfl | rfl | rfl <;> rfl
  have e4 : tb (d2 neD (dl lenD (ac (d2 ixD (dv 1) (dc (.int 1))) (an))) (d2 fdivD (d2 mulD (dv 0) (d2 subD (dv 0) (dc (.int 1)))) (dc (.int 2)))) δ = some false := by
    refine ev_tb ?_
    rw [ev_d2 (x := .int (qs.map fun (p : Nat) => PyData.int p).length) rfl e3, neI, List.length_map, h2]
    simp
  have h6 : n * (n - 1) / 2 ≤ 6 ∧ n ≤ 4 := by
    clear e1 e2 e3 e4
    clear_value δ A B
    rcases hn4 with rfl | rfl | rfl | rfl <;> decide
  rw [← h2] at h6
  have hl : ps.length + qs.length ≤ 1000 := by omega
  have e5 : dall [2] (iseq (dl mkT (as (d2 ixD (dv 1) (dc (.int 0))) (as (d2 ixD (dv 1) (dc (.int 1))) (an))))) (tg1 2) (dfn 3 A_is_in (ac (dv 2) (ac (dc (.int 0)) (ac (dc (.int 1000)) (an))))) δ = some (.bool true) := by
    have it : iseq (dl mkT (as (d2 ixD (dv 1) (dc (.int 0))) (as (d2 ixD (dv 1) (dc (.int 1))) (an)))) δ = some ((ps ++ qs).map fun (p : Nat) => .int p) := by
      unfold iseq
      show ((mkT ((ps.map fun (p : Nat) => PyData.int p) ++ ((qs.map fun (p : Nat) => PyData.int p) ++ []))).bind seqOf) = _
      unfold mkT
      rw [if_pos (by simp; omega)]
      show some _ = some _
      rw [List.append_nil, List.map_append]
    unfold dall gvals
    rw [it]
    show ((lcL (tg1 2) tyes (dfn 3 A_is_in (ac (dv 2) (ac (dc (.int 0)) (ac (dc (.int 1000)) (an))))) ((ps ++ qs).map fun (p : Nat) => .int p) (δ.set 2 none)).bind fun ys => (boolsOf ys).map fun bs => PyData.bool (bs.all id)) = _
    rw [lcL_map (f := fun _ => .bool true) fun d hd => ⟨(δ.set 2 none).set 2 (some (.sh d)), rfl, ?_⟩]
    · rw [List.map_map, show ((ps ++ qs).map ((fun _ => PyData.bool true) ∘ fun (p : Nat) => PyData.int p)) = ((ps ++ qs).map fun _ => true).map PyData.bool by rw [List.map_map]; rfl]
      show ((boolsOf (((ps ++ qs).map fun _ => true).map PyData.bool)).map fun bs => PyData.bool (bs.all id)) = _
      rw [boolsOf_of]
      show some (PyData.bool (((ps ++ qs).map fun _ => true).all id)) = _
      rw [List.all_map, show (ps ++ qs).all (id ∘ fun _ => true) = true from List.all_eq_true.mpr fun _ _ => rfl]
    · obtain ⟨p, hpm, rfl⟩ := List.mem_map.mp hd
      have hp7 : p ≤ 7 := by
        rcases List.mem_append.mp hpm with z | z
        · exact hp p z
        · exact hq p z
      exact ev_fn3 (x := .int p) (y := .int 0) (v := .int 1000) rfl rfl rfl (is_in_pr hp7)
  have ef : F_are_prices δ = some (.rt (.bool true)) := by
    unfold F_are_prices
    rw [ev_and (δ1 := δ) (by rw [ev_if e1]; rfl), ev_and (δ1 := δ) (by rw [ev_if (v := false) (by rw [ev_tor e2, if_neg (by decide), e4])]; rfl)]
    unfold sret
    rw [e5]; rfl
  unfold A_are_prices ansD
  rw [show F_are_prices (startD 4 [.int n, .tuple [.tuple (ps.map fun (p : Nat) => .int p), .tuple (qs.map fun (p : Nat) => .int p)]]) = some (.rt (.bool true)) from ef]; rfl
/-- law's slots ahead of the table, and behind it -/
def δ2 (a r : Addr) (n : Nat) (pr start goal : D) : Sl := [some (.sh (rawD a)), some (.sh (rawD r)), some (.sh (.int n)), some (.sh pr), some (.own []), none, none, none, none, none, none, some (.sh start), some (.sh goal), some (.sh (.list (ST n))), none, none, none, none, none, none, none, none, none, none, none]
def δ3 (a r : Addr) (n : Nat) (pr start goal : D) (kl : List (D × D)) (x5 x14 : D) : Sl := [some (.sh (rawD a)), some (.sh (rawD r)), some (.sh (.int n)), some (.sh pr), some (.own kl), some (.sh x5), none, none, none, none, none, some (.sh start), some (.sh goal), some (.sh (.list (ST n))), some (.sh x14), none, none, none, none, none, none, none, none, none, none]
def pr1 (p0 : Nat) : D := .tuple [.tuple [.int (p0 : Nat)], .tuple []]
def kl1 (p0 : Nat) : List (D × D) := [(dT [0], .int (p0 : Nat))]
def kp1 (p0 : Nat) : List (D × D) := [(dT [0], .int (p0 : Nat))]
theorem Pr1 {p0 : Nat} (hp0 : p0 ≤ 7) : Pr 1 (pr1 p0) (cOf (kl1 p0)) (kl1 p0) (kp1 p0) := by
  have hl : ∀ s ∈ ST 1, cOf (kl1 p0) s ≤ 7 ∧ dget (kl1 p0) s = some (.int (cOf (kl1 p0) s)) := by
    intro s hs
    simp only [ST, List.mem_cons, List.not_mem_nil, or_false] at hs
    subst hs
    · exact cOf_ok (by kernel_rfl) hp0
  refine ⟨by decide, by kernel_rfl, are_ok 1 [p0] [] (by decide) rfl rfl ?_ ?_, hl, fun s hs => ⟨(hl s hs).1, ?_⟩, rfl, fun s => kp_mem (n := 1) (by decide) (by kernel_rfl), rfl, rfl⟩
  · intro p hp
    simp only [List.mem_cons, List.not_mem_nil, or_false] at hp
    subst hp; assumption
  · intro p hp
    cases hp
  · simp only [ST, List.mem_cons, List.not_mem_nil, or_false] at hs
    subst hs
    · exact (by kernel_rfl : dget (kp1 p0) (dT [0]) = some (.int (p0 : Nat))).trans (by rw [cOf_eq (x := p0) (by kernel_rfl)])
theorem tab1 (a r : Addr) (start goal : D) (p0 : Nat) : P_law2 (δ2 a r 1 (pr1 p0) start goal) = some (.nx (δ3 a r 1 (pr1 p0) start goal (kl1 p0) (dT [0]) (PyData.list []))) := by kernel_rfl
def pr2 (p0 p1 q0 : Nat) : D := .tuple [.tuple [.int (p0 : Nat), .int (p1 : Nat)], .tuple [.int (q0 : Nat)]]
def kl2 (p0 p1 q0 : Nat) : List (D × D) := [(dT [0], .int (p0 : Nat)), (dT [0, 1], .int (q0 : Nat)), (dT [1], .int (p1 : Nat))]
def kp2 (p0 p1 q0 : Nat) : List (D × D) := [(dT [0], .int (p0 : Nat)), (dT [1], .int (p1 : Nat)), (dT [0, 1], .int (q0 : Nat))]
theorem Pr2 {p0 p1 q0 : Nat} (hp0 : p0 ≤ 7) (hp1 : p1 ≤ 7) (hq0 : q0 ≤ 7) : Pr 2 (pr2 p0 p1 q0) (cOf (kl2 p0 p1 q0)) (kl2 p0 p1 q0) (kp2 p0 p1 q0) := by
  have hl : ∀ s ∈ ST 2, cOf (kl2 p0 p1 q0) s ≤ 7 ∧ dget (kl2 p0 p1 q0) s = some (.int (cOf (kl2 p0 p1 q0) s)) := by
    intro s hs
    simp only [ST, List.mem_cons, List.not_mem_nil, or_false] at hs
    rcases hs with rfl | rfl | rfl
    · exact cOf_ok (by kernel_rfl) hp0
    · exact cOf_ok (by kernel_rfl) hq0
    · exact cOf_ok (by kernel_rfl) hp1
  refine ⟨by decide, by kernel_rfl, are_ok 2 [p0, p1] [q0] (by decide) rfl rfl ?_ ?_, hl, fun s hs => ⟨(hl s hs).1, ?_⟩, rfl, fun s => kp_mem (n := 2) (by decide) (by kernel_rfl), rfl, rfl⟩
  · intro p hp
    simp only [List.mem_cons, List.not_mem_nil, or_false] at hp
    rcases hp with rfl | rfl <;> assumption
  · intro p hp
    simp only [List.mem_cons, List.not_mem_nil, or_false] at hp
    subst hp; assumption
  · simp only [ST, List.mem_cons, List.not_mem_nil, or_false] at hs
    rcases hs with rfl | rfl | rfl
    · exact (by kernel_rfl : dget (kp2 p0 p1 q0) (dT [0]) = some (.int (p0 : Nat))).trans (by rw [cOf_eq (x := p0) (by kernel_rfl)])
    · exact (by kernel_rfl : dget (kp2 p0 p1 q0) (dT [0, 1]) = some (.int (q0 : Nat))).trans (by rw [cOf_eq (x := q0) (by kernel_rfl)])
    · exact (by kernel_rfl : dget (kp2 p0 p1 q0) (dT [1]) = some (.int (p1 : Nat))).trans (by rw [cOf_eq (x := p1) (by kernel_rfl)])
theorem tab2 (a r : Addr) (start goal : D) (p0 p1 q0 : Nat) : P_law2 (δ2 a r 2 (pr2 p0 p1 q0) start goal) = some (.nx (δ3 a r 2 (pr2 p0 p1 q0) start goal (kl2 p0 p1 q0) (dT [1]) (PyData.list [dT [0, 1]]))) := by kernel_rfl
def pr3 (p0 p1 p2 q0 q1 q2 : Nat) : D := .tuple [.tuple [.int (p0 : Nat), .int (p1 : Nat), .int (p2 : Nat)], .tuple [.int (q0 : Nat), .int (q1 : Nat), .int (q2 : Nat)]]
def kl3 (p0 p1 p2 q0 q1 q2 : Nat) : List (D × D) := [(dT [0], .int (p0 : Nat)), (dT [0, 1], .int (q0 : Nat)), (dT [0, 2], .int (q1 : Nat)), (dT [1], .int (p1 : Nat)), (dT [1, 2], .int (q2 : Nat)), (dT [2], .int (p2 : Nat))]
def kp3 (p0 p1 p2 q0 q1 q2 : Nat) : List (D × D) := [(dT [0], .int (p0 : Nat)), (dT [1], .int (p1 : Nat)), (dT [2], .int (p2 : Nat)), (dT [0, 1], .int (q0 : Nat)), (dT [0, 2], .int (q1 : Nat)), (dT [1, 2], .int (q2 : Nat))]
theorem Pr3 {p0 p1 p2 q0 q1 q2 : Nat} (hp0 : p0 ≤ 7) (hp1 : p1 ≤ 7) (hp2 : p2 ≤ 7) (hq0 : q0 ≤ 7) (hq1 : q1 ≤ 7) (hq2 : q2 ≤ 7) : Pr 3 (pr3 p0 p1 p2 q0 q1 q2) (cOf (kl3 p0 p1 p2 q0 q1 q2)) (kl3 p0 p1 p2 q0 q1 q2) (kp3 p0 p1 p2 q0 q1 q2) := by
  have hl : ∀ s ∈ ST 3, cOf (kl3 p0 p1 p2 q0 q1 q2) s ≤ 7 ∧ dget (kl3 p0 p1 p2 q0 q1 q2) s = some (.int (cOf (kl3 p0 p1 p2 q0 q1 q2) s)) := by
    intro s hs
    simp only [ST, List.mem_cons, List.not_mem_nil, or_false] at hs
    rcases hs with rfl | rfl | rfl | rfl | rfl | rfl
    · exact cOf_ok (by kernel_rfl) hp0
    · exact cOf_ok (by kernel_rfl) hq0
    · exact cOf_ok (by kernel_rfl) hq1
    · exact cOf_ok (by kernel_rfl) hp1
    · exact cOf_ok (by kernel_rfl) hq2
    · exact cOf_ok (by kernel_rfl) hp2
  refine ⟨by decide, by kernel_rfl, are_ok 3 [p0, p1, p2] [q0, q1, q2] (by decide) rfl rfl ?_ ?_, hl, fun s hs => ⟨(hl s hs).1, ?_⟩, rfl, fun s => kp_mem (n := 3) (by decide) (by kernel_rfl), rfl, rfl⟩
  · intro p hp
    simp only [List.mem_cons, List.not_mem_nil, or_false] at hp
    rcases hp with rfl | rfl | rfl <;> assumption
  · intro p hp
    simp only [List.mem_cons, List.not_mem_nil, or_false] at hp
    rcases hp with rfl | rfl | rfl <;> assumption
  · simp only [ST, List.mem_cons, List.not_mem_nil, or_false] at hs
    rcases hs with rfl | rfl | rfl | rfl | rfl | rfl
    · exact (by kernel_rfl : dget (kp3 p0 p1 p2 q0 q1 q2) (dT [0]) = some (.int (p0 : Nat))).trans (by rw [cOf_eq (x := p0) (by kernel_rfl)])
    · exact (by kernel_rfl : dget (kp3 p0 p1 p2 q0 q1 q2) (dT [0, 1]) = some (.int (q0 : Nat))).trans (by rw [cOf_eq (x := q0) (by kernel_rfl)])
    · exact (by kernel_rfl : dget (kp3 p0 p1 p2 q0 q1 q2) (dT [0, 2]) = some (.int (q1 : Nat))).trans (by rw [cOf_eq (x := q1) (by kernel_rfl)])
    · exact (by kernel_rfl : dget (kp3 p0 p1 p2 q0 q1 q2) (dT [1]) = some (.int (p1 : Nat))).trans (by rw [cOf_eq (x := p1) (by kernel_rfl)])
    · exact (by kernel_rfl : dget (kp3 p0 p1 p2 q0 q1 q2) (dT [1, 2]) = some (.int (q2 : Nat))).trans (by rw [cOf_eq (x := q2) (by kernel_rfl)])
    · exact (by kernel_rfl : dget (kp3 p0 p1 p2 q0 q1 q2) (dT [2]) = some (.int (p2 : Nat))).trans (by rw [cOf_eq (x := p2) (by kernel_rfl)])
theorem tab3 (a r : Addr) (start goal : D) (p0 p1 p2 q0 q1 q2 : Nat) : P_law2 (δ2 a r 3 (pr3 p0 p1 p2 q0 q1 q2) start goal) = some (.nx (δ3 a r 3 (pr3 p0 p1 p2 q0 q1 q2) start goal (kl3 p0 p1 p2 q0 q1 q2) (dT [2]) (PyData.list [dT [0, 1], dT [0, 2], dT [1, 2]]))) := by kernel_rfl
def pr4 (p0 p1 p2 p3 q0 q1 q2 q3 q4 q5 : Nat) : D := .tuple [.tuple [.int (p0 : Nat), .int (p1 : Nat), .int (p2 : Nat), .int (p3 : Nat)], .tuple [.int (q0 : Nat), .int (q1 : Nat), .int (q2 : Nat), .int (q3 : Nat), .int (q4 : Nat), .int (q5 : Nat)]]
def kl4 (p0 p1 p2 p3 q0 q1 q2 q3 q4 q5 : Nat) : List (D × D) := [(dT [0], .int (p0 : Nat)), (dT [0, 1], .int (q0 : Nat)), (dT [0, 2], .int (q1 : Nat)), (dT [0, 3], .int (q2 : Nat)), (dT [1], .int (p1 : Nat)), (dT [1, 2], .int (q3 : Nat)), (dT [1, 3], .int (q4 : Nat)), (dT [2], .int (p2 : Nat)), (dT [2, 3], .int (q5 : Nat)), (dT [3], .int (p3 : Nat))]
def kp4 (p0 p1 p2 p3 q0 q1 q2 q3 q4 q5 : Nat) : List (D × D) := [(dT [0], .int (p0 : Nat)), (dT [1], .int (p1 : Nat)), (dT [2], .int (p2 : Nat)), (dT [3], .int (p3 : Nat)), (dT [0, 1], .int (q0 : Nat)), (dT [0, 2], .int (q1 : Nat)), (dT [0, 3], .int (q2 : Nat)), (dT [1, 2], .int (q3 : Nat)), (dT [1, 3], .int (q4 : Nat)), (dT [2, 3], .int (q5 : Nat))]
theorem Pr4 {p0 p1 p2 p3 q0 q1 q2 q3 q4 q5 : Nat} (hp0 : p0 ≤ 7) (hp1 : p1 ≤ 7) (hp2 : p2 ≤ 7) (hp3 : p3 ≤ 7) (hq0 : q0 ≤ 7) (hq1 : q1 ≤ 7) (hq2 : q2 ≤ 7) (hq3 : q3 ≤ 7) (hq4 : q4 ≤ 7) (hq5 : q5 ≤ 7) : Pr 4 (pr4 p0 p1 p2 p3 q0 q1 q2 q3 q4 q5) (cOf (kl4 p0 p1 p2 p3 q0 q1 q2 q3 q4 q5)) (kl4 p0 p1 p2 p3 q0 q1 q2 q3 q4 q5) (kp4 p0 p1 p2 p3 q0 q1 q2 q3 q4 q5) := by
  have hl : ∀ s ∈ ST 4, cOf (kl4 p0 p1 p2 p3 q0 q1 q2 q3 q4 q5) s ≤ 7 ∧ dget (kl4 p0 p1 p2 p3 q0 q1 q2 q3 q4 q5) s = some (.int (cOf (kl4 p0 p1 p2 p3 q0 q1 q2 q3 q4 q5) s)) := by
    intro s hs
    simp only [ST, List.mem_cons, List.not_mem_nil, or_false] at hs
    rcases hs with rfl | rfl | rfl | rfl | rfl | rfl | rfl | rfl | rfl | rfl
    · exact cOf_ok (by kernel_rfl) hp0
    · exact cOf_ok (by kernel_rfl) hq0
    · exact cOf_ok (by kernel_rfl) hq1
    · exact cOf_ok (by kernel_rfl) hq2
    · exact cOf_ok (by kernel_rfl) hp1
    · exact cOf_ok (by kernel_rfl) hq3
    · exact cOf_ok (by kernel_rfl) hq4
    · exact cOf_ok (by kernel_rfl) hp2
    · exact cOf_ok (by kernel_rfl) hq5
    · exact cOf_ok (by kernel_rfl) hp3
  refine ⟨by decide, by kernel_rfl, are_ok 4 [p0, p1, p2, p3] [q0, q1, q2, q3, q4, q5] (by decide) rfl rfl ?_ ?_, hl, fun s hs => ⟨(hl s hs).1, ?_⟩, rfl, fun s => kp_mem (n := 4) (by decide) (by kernel_rfl), rfl, rfl⟩
  · intro p hp
    simp only [List.mem_cons, List.not_mem_nil, or_false] at hp
    rcases hp with rfl | rfl | rfl | rfl <;> assumption
  · intro p hp
    simp only [List.mem_cons, List.not_mem_nil, or_false] at hp
    rcases hp with rfl | rfl | rfl | rfl | rfl | rfl <;> assumption
  · simp only [ST, List.mem_cons, List.not_mem_nil, or_false] at hs
    rcases hs with rfl | rfl | rfl | rfl | rfl | rfl | rfl | rfl | rfl | rfl
    · exact (by kernel_rfl : dget (kp4 p0 p1 p2 p3 q0 q1 q2 q3 q4 q5) (dT [0]) = some (.int (p0 : Nat))).trans (by rw [cOf_eq (x := p0) (by kernel_rfl)])
    · exact (by kernel_rfl : dget (kp4 p0 p1 p2 p3 q0 q1 q2 q3 q4 q5) (dT [0, 1]) = some (.int (q0 : Nat))).trans (by rw [cOf_eq (x := q0) (by kernel_rfl)])
    · exact (by kernel_rfl : dget (kp4 p0 p1 p2 p3 q0 q1 q2 q3 q4 q5) (dT [0, 2]) = some (.int (q1 : Nat))).trans (by rw [cOf_eq (x := q1) (by kernel_rfl)])
    · exact (by kernel_rfl : dget (kp4 p0 p1 p2 p3 q0 q1 q2 q3 q4 q5) (dT [0, 3]) = some (.int (q2 : Nat))).trans (by rw [cOf_eq (x := q2) (by kernel_rfl)])
    · exact (by kernel_rfl : dget (kp4 p0 p1 p2 p3 q0 q1 q2 q3 q4 q5) (dT [1]) = some (.int (p1 : Nat))).trans (by rw [cOf_eq (x := p1) (by kernel_rfl)])
    · exact (by kernel_rfl : dget (kp4 p0 p1 p2 p3 q0 q1 q2 q3 q4 q5) (dT [1, 2]) = some (.int (q3 : Nat))).trans (by rw [cOf_eq (x := q3) (by kernel_rfl)])
    · exact (by kernel_rfl : dget (kp4 p0 p1 p2 p3 q0 q1 q2 q3 q4 q5) (dT [1, 3]) = some (.int (q4 : Nat))).trans (by rw [cOf_eq (x := q4) (by kernel_rfl)])
    · exact (by kernel_rfl : dget (kp4 p0 p1 p2 p3 q0 q1 q2 q3 q4 q5) (dT [2]) = some (.int (p2 : Nat))).trans (by rw [cOf_eq (x := p2) (by kernel_rfl)])
    · exact (by kernel_rfl : dget (kp4 p0 p1 p2 p3 q0 q1 q2 q3 q4 q5) (dT [2, 3]) = some (.int (q5 : Nat))).trans (by rw [cOf_eq (x := q5) (by kernel_rfl)])
    · exact (by kernel_rfl : dget (kp4 p0 p1 p2 p3 q0 q1 q2 q3 q4 q5) (dT [3]) = some (.int (p3 : Nat))).trans (by rw [cOf_eq (x := p3) (by kernel_rfl)])
theorem tab4 (a r : Addr) (start goal : D) (p0 p1 p2 p3 q0 q1 q2 q3 q4 q5 : Nat) : P_law2 (δ2 a r 4 (pr4 p0 p1 p2 p3 q0 q1 q2 q3 q4 q5) start goal) = some (.nx (δ3 a r 4 (pr4 p0 p1 p2 p3 q0 q1 q2 q3 q4 q5) start goal (kl4 p0 p1 p2 p3 q0 q1 q2 q3 q4 q5) (dT [3]) (PyData.list [dT [0, 1], dT [0, 2], dT [0, 3], dT [1, 2], dT [1, 3], dT [2, 3]]))) := by kernel_rfl
end Gd

set_option maxHeartbeats 2000000
/-! GmP: what is drawn. -/
namespace Gd
open PySem PySem.Spec PyProof.Rows L2
/-- all rows of k labels below m -/
def rows (m : Nat) : Nat → List (List D)
  | 0 => [[]]
  | k + 1 => (List.range m).flatMap fun (i : Nat) => (rows m k).map fun l => PyData.int i :: l
theorem rows_mem {m : Nat} : ∀ {k : Nat} {l : List D}, l.length = k → (∀ d ∈ l, ∃ i : Int, 0 ≤ i ∧ i < m ∧ d = .int i) → l ∈ rows m k
  | 0, [], _, _ => List.mem_singleton.mpr rfl
  | 0, _ :: _, h, _ => by simp at h
  | k + 1, [], h, _ => by simp at h
  | k + 1, d :: l, h, hd => by
    obtain ⟨i, h0, h1, rfl⟩ := hd d List.mem_cons_self
    refine List.mem_flatMap.mpr ⟨i.toNat, List.mem_range.mpr (by omega), List.mem_map.mpr ⟨l, rows_mem (by simpa using h) fun x hx => hd x (List.mem_cons_of_mem _ hx), ?_⟩⟩
    rw [show ((i.toNat : Nat) : Int) = i by omega]
theorem ck_lots : (ns.all fun n => (rows n n).all fun l => match A_law_lots [.list l] with
  | some g => mem (GR n) g
  | none => false) = true := by decide +kernel
theorem lots_ok {n : Nat} (hn : n ∈ ns) {l : List D} (hl : l.length = n) (hd : ∀ d ∈ l, ∃ i : Int, 0 ≤ i ∧ i < n ∧ d = .int i) : ∃ g, A_law_lots [.list l] = some g ∧ g ∈ GR n := by
  have q := List.all_eq_true.mp (List.all_eq_true.mp ck_lots n hn) l (rows_mem hl hd)
  split at q
  · rename_i g e
    exact ⟨g, e, mem_of q⟩
  · cases q
theorem ns_cases {n : Nat} (hn : n ∈ ns) : 1 ≤ n ∧ n ≤ 4 := by
  have : n = 1 ∨ n = 2 ∨ n = 3 ∨ n = 4 := by simpa [ns] using hn
  omega
theorem grouping_ok {n : Nat} (hn : n ∈ ns) {r : Addr} {post : D → Prop} (h : ∀ g ∈ GR n, post g) : A_law_grouping r [rawD r, .int n] post := by
  have h4 := ns_cases hn
  show W_law_grouping r (startD 4 [rawD r, .int n]) post
  unfold W_law_grouping
  refine ⟨.int 1, rfl, rfl, n, rfl, by omega, by omega, fun j h0 h1 => ⟨.int (1 + j), rfl, ?_⟩⟩
  refine ⟨rgL 0 n, irg1_ok (m := n) rfl (by omega), by rw [rgL_len]; omega, fun d => ∃ i : Int, 0 ≤ i ∧ i < n ∧ d = .int i, fun d _ => ⟨[some (.sh (rawD r)), some (.sh (.int n)), some (.sh (.int (1 + j))), some (.sh d)], rfl, rfl, 1 + j, rfl, by omega, by omega, fun i hi0 hi1 => ⟨i, hi0, by omega, rfl⟩⟩, fun ys hl hy => ?_⟩
  obtain ⟨g, e, hg⟩ := lots_ok hn (hl.trans (rgL_len 0 n)) hy
  exact ⟨rfl, g, e, h g hg⟩
theorem row_ok {n : Nat} (hn : n ∈ ns) {r : Addr} {post : D → Prop} (h : ∀ ws : List D, ws.length ≤ 4 → (∀ s ∈ ws, s ∈ ST n) → post (.tuple ws)) : A_law_row r [rawD r, .int n, .int 4] post := by
  have h4 := ns_cases hn
  have hS := (f_len hn).2
  have hne : 1 ≤ (ST n).length := by
    have : n = 1 ∨ n = 2 ∨ n = 3 ∨ n = 4 := by simpa [ns] using hn
    rcases this with rfl | rfl | rfl | rfl <;> decide
  show W_law_row r (startD 5 [rawD r, .int n, .int 4]) post
  unfold W_law_row
  refine ⟨.nx [some (.sh (rawD r)), some (.sh (.int n)), some (.sh (.int 4)), some (.sh (.list (ST n))), none], ev_set (ev_fn1 (x := .int n) rfl (f_lists hn).2.2.1), ?_⟩
  refine ⟨rfl, 5, rfl, by omega, by omega, fun j h0 h1 => ⟨j, rfl, by omega, by rw [rgL_len]; omega, fun d => d ∈ ST n, fun d _ => ⟨[some (.sh (rawD r)), some (.sh (.int n)), some (.sh (.int 4)), some (.sh (.list (ST n))), some (.sh d)], rfl, [rawD r, .list (ST n)], rfl, rfl, ?_⟩, fun ys hl hy => ?_⟩⟩
  · show W_law_pick r (startD 2 [rawD r, .list (ST n)]) _
    refine ⟨.list (ST n), rfl, rfl, (ST n).length, rfl, by omega, by omega, fun i hi0 hi1 => ?_⟩
    have hi : i.toNat < (ST n).length := by omega
    refine ⟨(ST n)[i.toNat], ?_, List.getElem_mem hi⟩
    have ha : atI (ST n) ((0 : Int) + (i.toNat : Nat)) = some (ST n)[i.toNat] := at_nat (List.getElem?_eq_getElem hi)
    rw [show (0 : Int) + (i.toNat : Nat) = i by omega] at ha
    exact ha
  · rw [rgL_len] at hl
    exact ⟨.tuple ys, rfl, h ys (by omega) hy⟩
/-- some numbers below eight -/
theorem eights {m : Nat} {ys : List D} (hl : ys.length = m) (hy : ∀ y ∈ ys, ∃ i : Int, 0 ≤ i ∧ i < 8 ∧ y = .int i) : ∃ ps : List Nat, ys = ps.map (fun (p : Nat) => .int p) ∧ ps.length = m ∧ ∀ p ∈ ps, p ≤ 7 := by
  induction ys generalizing m with
  | nil => exact ⟨[], rfl, hl, fun p hp => by cases hp⟩
  | cons y ys ih =>
    obtain ⟨i, h0, h1, rfl⟩ := hy y List.mem_cons_self
    obtain ⟨ps, e, hps, h7⟩ := ih rfl fun x hx => hy x (List.mem_cons_of_mem _ hx)
    refine ⟨i.toNat :: ps, ?_, by rw [List.length_cons, hps]; exact hl, fun p hp => ?_⟩
    · rw [List.map_cons, e, show ((i.toNat : Nat) : Int) = i by omega]
    · rcases List.mem_cons.mp hp with z | z
      · omega
      · exact h7 p z
end Gd

set_option maxHeartbeats 2000000
/-! GmQ: law answers True. -/
namespace Gd
open PySem PySem.Spec PyProof.Rows L2
theorem npu_nx {F : Sl → Option Out} {g : NF} {r : Addr} {δ δ' : Sl} {post : D → Prop} (e : F δ = some (.nx δ')) (h : g r δ' post) : npu F g r δ post := ⟨.nx δ', e, h⟩
/-- the last loop and what follows -/
def Wlast : NF := nfor (nsq (n2 addD (nd (dv 9)) (nl mkL (nac (nl mkT (nac (nd (dv 19)) (nac (ncl 3 A_law_row (ac (dv 1) (ac (dv 2) (ac (dc (.int 4)) (an))))) (nan)))) (nac (nd (dl mkT (ac (dv 19) (ac (d1 revD (dv 8)) (an))))) (nan)))))) (tg1 10) (P_law12) (P_law13)
def Wtail : NF := npu (P_law3) (npu (P_law4) (npu (P_law5) (npu (P_law6) (npu (P_law7) (npu (P_law8) (npu (P_law9) (npu (P_law10) (npu (P_law11) Wlast))))))))
/-- a value shown in the last loop -/
def Val (n : Nat) (v : D) : Prop := isiD .tuple v = some (.bool false) ∨ (∃ (x : Int) (ws : List D), v = .tuple [.int x, .list ws]) ∨ ∃ (x : Int) (ws : List D), v = .tuple [.int x, .tuple ws] ∧ (∀ s ∈ ws, s ∈ EL n) ∧ ws.length ≤ 1000
theorem ck_bad : (ns.all fun n => mem (EL n) (.tuple [.int n]) && mem (EL n) (.tuple [.int 0])) = true := by decide +kernel
theorem isnt_true : isntD (.bool true) (.bool true) = some (.bool false) := rfl
theorem alike_int (a : Int) (G : List D → Option D) : A_law_alike G [.int a, .int a] = some (.bool true) := by
  show (ansD 3 (F_law_alike G)) [.int a, .int a] = _
  unfold ansD F_law_alike
  rw [ev_and (δ1 := startD 3 [.int a, .int a]) rfl, ev_and (δ1 := startD 3 [.int a, .int a]) rfl]
  unfold sret
  rw [ev_dand (v := true) rfl, if_pos rfl, ev_dand (v := true) rfl, if_pos rfl, ev_d2 (x := .int a) (y := .int a) rfl rfl, eqD_int, decide_eq_true rfl]; rfl
theorem alike_ints (NI : List Int) (h : NI.length ≤ 1000) : A2_law_alike [.tuple (NI.map PyData.int), .tuple (NI.map PyData.int)] = some (.bool true) := by
  let A : D := .tuple (NI.map PyData.int)
  let δ : Sl := startD 3 [A, A]
  let G : List D → Option D := A_law_alike fun _ => none
  have e1 : tb (d1 isiTL (dv 1)) δ = some true := rfl
  have e2 : tor (tnot (tb (d1 isiTL (dv 0)))) (tb (d2 neD (d1 (isiD .list) (dv 0)) (d1 (isiD .list) (dv 1)))) δ = some false := rfl
  have neI : ∀ i j : Int, neD (.int i) (.int j) = some (.bool (!decide (i = j))) := fun i j => rfl
  have e3 : tb (d2 neD (dl lenD (ac (dv 0) (an))) (dl lenD (ac (dv 1) (an)))) δ = some false := by
    refine ev_tb ?_
    rw [ev_d2 (x := .int (NI.map PyData.int).length) (y := .int (NI.map PyData.int).length) rfl rfl, neI, decide_eq_true rfl]; rfl
  have e4 : dlc [2] (irg1 (dl lenD (ac (dv 1) (an)))) (tg1 2) (tnot (tb (dfn 2 G (ac (d2 ixD (dv 0) (dv 2)) (ac (d2 ixD (dv 1) (dv 2)) (an)))))) (dv 2) δ = some (.list []) := by
    refine dlc_of (irg1_ok (m := (NI.map PyData.int).length) rfl (by rw [List.length_map]; exact h)) (by rw [rgL_len, List.length_map]; omega) ?_
    rw [lcL_filter (f := id) (p := fun _ => false) fun d hd => ⟨(δ.set 2 none).set 2 (some (.sh d)), rfl, ?_, fun z => by cases z⟩]
    · rw [List.filter_eq_nil_iff.mpr (by simp)]; rfl
    · obtain ⟨i, hi⟩ := List.mem_iff_getElem?.mp hd
      obtain ⟨hi', rfl⟩ := rgL_get hi
      rw [List.length_map] at hi'
      have hx : ∀ k, k = 0 ∨ k = 1 → d2 ixD (dv k) (dv 2) ((δ.set 2 none).set 2 (some (.sh (.int ((0 : Int) + (i : Nat)))))) = some (.int NI[i]) := fun k hk => by
        have : dv k ((δ.set 2 none).set 2 (some (.sh (.int ((0 : Int) + (i : Nat)))))) = some A := by
          rcases hk with rfl | rfl <;> rfl
        rw [ev_d2 (y := .int ((0 : Int) + (i : Nat))) this rfl]
        exact at_nat (by rw [List.getElem?_map, List.getElem?_eq_getElem hi']; rfl)
      rw [ev_tnot (v := true) (ev_tb (ev_fn2 (hx 0 (.inl rfl)) (hx 1 (.inr rfl)) (alike_int _ _)))]; rfl
  have ef : F_law_alike G δ = some (.rt (.bool true)) := by
    unfold F_law_alike
    have ei : sif (tb (d1 isiTL (dv 1))) (andT (sif (tor (tnot (tb (d1 isiTL (dv 0)))) (tb (d2 neD (d1 (isiD .list) (dv 0)) (d1 (isiD .list) (dv 1))))) (sret (dc (.bool false))) (snil)) (andT (sif (tb (d2 neD (dl lenD (ac (dv 0) (an))) (dl lenD (ac (dv 1) (an))))) (sret (dc (.bool false))) (snil)) (sret (d2 eqD (dlc [2] (irg1 (dl lenD (ac (dv 1) (an)))) (tg1 2) (tnot (tb (dfn 2 G (ac (d2 ixD (dv 0) (dv 2)) (ac (d2 ixD (dv 1) (dv 2)) (an)))))) (dv 2)) (dl mkL (an)))))) (snil) δ = some (.rt (.bool true)) := by
      rw [ev_if e1, if_pos rfl, ev_and (δ1 := δ) (by rw [ev_if e2]; rfl), ev_and (δ1 := δ) (by rw [ev_if e3]; rfl)]
      unfold sret
      rw [ev_d2 (y := .list []) e4 rfl]; rfl
    unfold andT
    unfold andT at ei
    rw [ei]; rfl
  show ansD 3 (F_law_alike G) [A, A] = _
  unfold ansD
  rw [show F_law_alike G (startD 3 [A, A]) = some (.rt (.bool true)) from ef]; rfl
end Gd

set_option maxHeartbeats 2000000
/-! GmR: behind the table. -/
namespace Gd
open PySem PySem.Spec PyProof.Rows L2
structure LS (r : Addr) (n : Nat) (pr : D) (kl : List (D × D)) (goal start : D) (kvs : List (D × D)) (δ : Sl) : Prop where
  len : δ.length = 25
  h1 : δ[1]? = some (some (.sh (rawD r)))
  h2 : δ[2]? = some (some (.sh (.int n)))
  h3 : δ[3]? = some (some (.sh pr))
  h4 : δ[4]? = some (some (.own kl))
  h11 : δ[11]? = some (some (.sh start))
  h12 : δ[12]? = some (some (.sh goal))
  h13 : δ[13]? = some (some (.sh (.list (ST n))))
  h15 : δ[15]? = some (some (.sh (.list (GR n))))
  h16 : δ[16]? = some (some (.own kvs))
theorem LS.set {r : Addr} {n : Nat} {pr : D} {kl : List (D × D)} {goal start : D} {kvs : List (D × D)} {δ : Sl} (h : LS r n pr kl goal start kvs δ) {i : Nat} {x : Option SD} (hi : i = 7 ∨ i = 8 ∨ i = 9 ∨ i = 10 ∨ i = 18 ∨ i = 19 ∨ i = 20) : LS r n pr kl goal start kvs (δ.set i x) := by
  have hl := h.len
  have key : ∀ j, (j < 5 ∨ j = 11 ∨ j = 12 ∨ j = 13 ∨ j = 15 ∨ j = 16) → (δ.set i x)[j]? = δ[j]? := fun j h1 => by rw [get_set (by omega), if_neg (by omega)]
  exact ⟨by rw [List.length_set]; exact h.len, by rw [key _ (by decide)]; exact h.h1, by rw [key _ (by decide)]; exact h.h2, by rw [key _ (by decide)]; exact h.h3, by rw [key _ (by decide)]; exact h.h4, by rw [key _ (by decide)]; exact h.h11,
    by rw [key _ (by decide)]; exact h.h12, by rw [key _ (by decide)]; exact h.h13, by rw [key _ (by decide)]; exact h.h15, by rw [key _ (by decide)]; exact h.h16⟩
theorem cut_sub (ws : List D) (lo hi : Option Int) : (∀ s ∈ cutD ws lo hi, s ∈ ws) ∧ (cutD ws lo hi).length ≤ ws.length := by
  unfold cutD
  exact ⟨fun s hs => List.mem_of_mem_drop (List.mem_of_mem_take hs), by rw [List.length_take, List.length_drop]; omega⟩
theorem ev_fn6 {δ : Sl} {a b e f g h : Sl → Option D} {x1 x2 x3 x4 x5 x6 z : D} {F : List D → Option D} (h1 : a δ = some x1) (h2 : b δ = some x2) (h3 : e δ = some x3) (h4 : f δ = some x4) (h5 : g δ = some x5) (h6 : h δ = some x6) (hF : F [x1, x2, x3, x4, x5, x6] = some z) :
    dfn 6 F (ac a (ac b (ac e (ac f (ac g (ac h an)))))) δ = some z := by
  unfold dfn ac an; rw [h1, h2, h3, h4, h5, h6]; exact hF
theorem mkT2 {δ : Sl} {a b : Sl → Option D} {x y : D} (h1 : a δ = some x) (h2 : b δ = some y) : dl mkT (ac a (ac b an)) δ = some (.tuple [x, y]) := by
  unfold dl ac an; rw [h1, h2]; rfl
section
variable {r : Addr} {n : Nat} {pr : D} {c : D → Nat} {kl kp : List (D × D)} {goal start : D} {f : D → Nat} {kvs : List (D × D)} {δ : Sl} {ws : List D}
  (P : Pr n pr c kl kp) (hgo : goal ∈ GR n) (hst : start ∈ GR n) (hf : Lst n c goal f)
include P hgo hst hf
/-- one value in the last loop -/
theorem one_val {v : D} (h : Fin' n pr kl goal start (f start) δ) (h10 : δ[10]? = some (some (.sh v))) (hv : Val n v) : ∃ b, P_law12 δ = some (.nx (δ.set 20 (some (.sh (.bool b))))) := by
  rcases hv with hv | ⟨x, w, rfl⟩ | ⟨x, w, rfl, hw, hl⟩
  · exact law12_not P hgo hst hf h h10 hv
  · exact law12_list P hgo hst hf h h10
  · exact law12_tup P hgo hst hf h h10 hw hl
theorem last_ok (L : LS r n pr kl goal start kvs δ) (hs : ∀ s ∈ ws, s ∈ ST n) (hl : ws.length ≤ 14) (hr : run start ws = goal) (hco : cost c ws = f start)
    (h7 : δ[7]? = some (some (.sh (.tuple (((GR n).map fun g => (f g : Int)).map PyData.int))))) (h8 : δ[8]? = some (some (.sh (.tuple ws)))) (h18 : δ[18]? = some (some (.sh (.tuple [.int (f start), .tuple ws])))) (h19 : δ[19]? = some (some (.sh (.int (f start)))))
    {vals : List D} (h9 : δ[9]? = some (some (.sh (.list vals)))) (hv : ∀ v ∈ vals, Val n v) (hvl : vals.length ≤ 1000) : Wlast r δ fun d => d = .bool true := by
  have hlen := L.len
  unfold Wlast
  have e8 : dl mkT (ac (dv 19) (ac (d1 revD (dv 8)) (an))) δ = some (.tuple [.int (f start), .tuple ws.reverse]) := mkT2 (dv_of h19) (by rw [ev_d1 (dv_of h8)]; rfl)
  refine ⟨.list vals, dv_of h9, .int (f start), dv_of h19, [rawD r, .int n, .int 4], ev_ac (dv_of L.h1) (ev_ac (dv_of L.h2) rfl), rfl, row_ok P.hn fun w hwl hwS => ?_⟩
  refine ⟨.tuple [.int (f start), .tuple w], rfl, .tuple [.int (f start), .tuple ws.reverse], e8, .list [.tuple [.int (f start), .tuple w], .tuple [.int (f start), .tuple ws.reverse]], rfl, .list (vals ++ [.tuple [.int (f start), .tuple w], .tuple [.int (f start), .tuple ws.reverse]]), ?_, _, rfl, .bool true, ?_, rfl⟩
  · show (if vals.length + 2 ≤ 1000000 then some _ else none) = _
    rw [if_pos (by omega)]
  -- the loop
  have hall : ∀ v ∈ vals ++ [.tuple [.int (f start), .tuple w], .tuple [.int (f start), .tuple ws.reverse]], Val n v := fun v hv' => by
    rcases List.mem_append.mp hv' with q | q
    · exact hv v q
    · simp only [List.mem_cons, List.not_mem_nil, or_false] at q
      rcases q with rfl | rfl
      · exact .inr (.inr ⟨_, _, rfl, fun s hs' => ST_EL (hwS s hs'), by omega⟩)
      · exact .inr (.inr ⟨_, _, rfl, fun s hs' => ST_EL (hs s (List.mem_reverse.mp hs')), by rw [List.length_reverse]; omega⟩)
  obtain ⟨δ', e, L', a7, a18, a19, _⟩ := forL_inv (t := tg1 10) (b := P_law12) (fun rest δ => LS r n pr kl goal start kvs δ ∧ δ[7]? = some (some (.sh (.tuple (((GR n).map fun g => (f g : Int)).map PyData.int)))) ∧ δ[18]? = some (some (.sh (.tuple [.int (f start), .tuple ws]))) ∧ δ[19]? = some (some (.sh (.int (f start)))) ∧ ∀ v ∈ rest, Val n v) (by
    rintro v rest δ ⟨L, b7, b18, b19, hv⟩
    have hlen := L.len
    have L1 : LS r n pr kl goal start kvs (δ.set 10 (some (.sh v))) := L.set (by omega)
    have b19' : (δ.set 10 (some (.sh v)))[19]? = some (some (.sh (.int (f start)))) := by rw [get_set (by omega), if_neg (by decide)]; exact b19
    obtain ⟨b, e⟩ := one_val P hgo hst hf (δ := δ.set 10 (some (.sh v))) ⟨L1.len, L1.h3, L1.h4, L1.h11, L1.h12, L1.h13, b19'⟩ (by rw [get_set (by omega), if_pos rfl]) (hv v List.mem_cons_self)
    refine ⟨_, rfl, _, e, L1.set (by omega), ?_, ?_, ?_, fun w hw => hv w (List.mem_cons_of_mem _ hw)⟩
    · rw [get_set (by rw [List.length_set]; omega), if_neg (by decide), get_set (by omega), if_neg (by decide)]; exact b7
    · rw [get_set (by rw [List.length_set]; omega), if_neg (by decide), get_set (by omega), if_neg (by decide)]; exact b18
    · rw [get_set (by rw [List.length_set]; omega), if_neg (by decide)]; exact b19') (δ := δ) ⟨L, h7, h18, h19, hall⟩
  rw [ev_and e]
  have hlen' := L'.len
  have hd : due n c goal start (f start) (f start : Int) ws = true := by
    unfold due
    rw [decide_eq_true rfl, decide_eq_true (by omega), decide_eq_true hr, decide_eq_true hco, List.all_eq_true.mpr fun s hs' => (mem_ST P.hn).mpr (hs s hs')]; rfl
  unfold P_law13
  have et : tb (d2 isntD (dfn 4 A_shows_cheap_row (ac (dv 11) (ac (dv 12) (ac (dv 3) (ac (dv 18) (an)))))) (dc (.bool true))) δ' = some false := by
    refine ev_tb ?_
    rw [ev_d2 (x := .bool true) (y := .bool true) (ev_fn4 (dv_of L'.h11) (dv_of L'.h12) (dv_of L'.h3) (dv_of a18) (by rw [shows_tup P hgo hst hf (fun s hs' => ST_EL (hs s hs')) (by omega), hd])) rfl]; rfl
  rw [ev_and (δ1 := δ') (by rw [ev_if et]; rfl)]
  unfold sfrz
  rw [L'.h4]
  show sret _ (δ'.set 4 (some (.sh (.dict kl)))) = _
  unfold sret
  have g : ∀ j, j ≠ 4 → (δ'.set 4 (some (.sh (.dict kl))))[j]? = δ'[j]? := fun j hj => by rw [get_set (by omega), if_neg (Ne.symm hj)]
  rw [ev_fn6 (dv_of (by rw [g _ (by decide)]; exact L'.h11)) (dv_of (by rw [g _ (by decide)]; exact L'.h12)) (dv_of (by rw [g _ (by decide)]; exact L'.h3)) (dv_of (d := .dict kl) (by rw [get_set (by omega), if_pos rfl])) (dv_of (by rw [g _ (by decide)]; exact a7)) (dv_of (by rw [g _ (by decide)]; exact a19)) (papers_ok P hgo hst hf rfl)]
  rfl
end
end Gd

set_option maxHeartbeats 2000000
/-! GmS: law, whole. -/
namespace Gd
open PySem PySem.Spec PyProof.Rows L2
theorem ev_dl {δ : Sl} {g : List D → Option D} {l : Sl → Option (List D)} {xs : List D} (h : l δ = some xs) : dl g l δ = g xs := by unfold dl; rw [h]; rfl
section
variable {a r : Addr} {n : Nat} {pr : D} {c : D → Nat} {kl kp : List (D × D)} {goal start x5 x14 : D} (P : Pr n pr c kl kp) (hgo : goal ∈ GR n) (hst : start ∈ GR n)
include P hgo hst
theorem vals_ok {δ : Sl} {b : Nat} {ws : List D} (hs : ∀ s ∈ ws, s ∈ ST n) (hl : ws.length ≤ 14) (h2 : δ[2]? = some (some (.sh (.int n)))) (h8 : δ[8]? = some (some (.sh (.tuple ws)))) (h18 : δ[18]? = some (some (.sh (.tuple [.int b, .tuple ws])))) (h19 : δ[19]? = some (some (.sh (.int b)))) :
    ∃ vals : List D, P_law11 δ = some (.nx (δ.set 9 (some (.sh (.list vals))))) ∧ (∀ v ∈ vals, Val n v) ∧ vals.length ≤ 1000 := by
  have q := List.all_eq_true.mp ck_bad n P.hn
  rw [Bool.and_eq_true] at q
  have e18 := dv_of h18
  have e19 := dv_of h19
  have e8 := dv_of h8
  have t3 : dl mkT (ac (dv 19) (ac (dl listD (ac (dv 8) (an))) (an))) δ = some (.tuple [.int b, .list ws]) := mkT2 e19 (ev_dl1 e8)
  have t4 : dl mkT (ac (d2 addD (dv 19) (dc (.int 1))) (ac (dv 8) (an))) δ = some (.tuple [.int (b + 1), .tuple ws]) := mkT2 (by rw [ev_d2 (y := .int 1) e19 rfl]; rfl) e8
  have t5 : dl mkT (ac (dv 19) (ac (dsl (dv 8) (ps1 (dc (.int 1))) (pn)) (an))) δ = some (.tuple [.int b, .tuple (cutD ws (some 1) none)]) := mkT2 e19 (by unfold dsl; rw [e8]; rfl)
  have t6 : dl mkT (ac (dv 19) (ac (d2 addD (dv 8) (dl mkT (ac (dl mkT (ac (dc (.int 0)) (an))) (an)))) (an))) δ = some (.tuple [.int b, .tuple (ws ++ [.tuple [.int 0]])]) := mkT2 e19 (by
    rw [ev_d2 (y := .tuple [.tuple [.int 0]]) e8 rfl]
    show (if ws.length + 1 ≤ 1000000 then some _ else none) = _
    rw [if_pos (by omega)])
  have t7 : dl mkT (ac (dv 19) (ac (dl mkT (an)) (an))) δ = some (.tuple [.int b, .tuple []]) := mkT2 e19 rfl
  have t10 : dl mkT (ac (dv 19) (ac (dl mkT (ac (dl mkT (ac (dv 2) (an))) (an))) (an))) δ = some (.tuple [.int b, .tuple [.tuple [.int n]]]) := mkT2 e19 (ev_dl1 (g := mkT) (x := .tuple [.int n]) (by rw [ev_dl1 (dv_of h2)]; rfl))
  have hE : ∀ s ∈ ws, s ∈ EL n := fun s h => ST_EL (hs s h)
  obtain ⟨c1, c2⟩ := cut_sub ws (some 1) none
  refine ⟨[.tuple [.int b, .tuple ws], .list [.int b, .tuple ws], .tuple [.int b, .list ws], .tuple [.int (b + 1), .tuple ws], .tuple [.int b, .tuple (cutD ws (some 1) none)], .tuple [.int b, .tuple (ws ++ [.tuple [.int 0]])], .tuple [.int b, .tuple []], .none, .int 3, .tuple [.int b, .tuple [.tuple [.int n]]]],
    ev_set ((ev_dl (g := mkL) (ev_ac e18 (ev_ac (ev_dl1 (g := listD) e18) (ev_ac t3 (ev_ac t4 (ev_ac t5 (ev_ac t6 (ev_ac t7 (ev_ac (x := .none) rfl (ev_ac (x := .int 3) rfl (ev_ac t10 rfl))))))))))).trans rfl), fun v hv => ?_, by simp⟩
  simp only [List.mem_cons, List.not_mem_nil, or_false] at hv
  rcases hv with rfl | rfl | rfl | rfl | rfl | rfl | rfl | rfl | rfl | rfl
  · exact .inr (.inr ⟨_, _, rfl, hE, by omega⟩)
  · exact .inl rfl
  · exact .inr (.inl ⟨_, _, rfl⟩)
  · exact .inr (.inr ⟨_, _, rfl, hE, by omega⟩)
  · exact .inr (.inr ⟨_, _, rfl, fun s h => hE s (c1 s h), by omega⟩)
  · refine .inr (.inr ⟨_, _, rfl, fun s h => ?_, by rw [List.length_append, List.length_singleton]; omega⟩)
    rcases List.mem_append.mp h with h | h
    · exact hE s h
    · have : s = .tuple [.int 0] := by simpa using h
      rw [this]; exact mem_of q.2
  · exact .inr (.inr ⟨_, _, rfl, (fun s h => by cases h), by simp⟩)
  · exact .inl rfl
  · exact .inl rfl
  · refine .inr (.inr ⟨_, _, rfl, fun s h => ?_, by simp⟩)
    have : s = .tuple [.int n] := by simpa using h
    rw [this]; exact mem_of q.1
theorem tail_ok : Wtail r (δ3 a r n pr start goal kl x5 x14) fun d => d = .bool true := by
  have hN := (f_len P.hn).1
  obtain ⟨kg, hkg⟩ := ((f_GR P.hn).2 _ hgo).1
  obtain ⟨ks, hks⟩ := ((f_GR P.hn).2 _ hst).1
  let δ4 : Sl := ((δ3 a r n pr start goal kl x5 x14).set 15 (some (.sh (.list (GR n))))).set 16 (some (.own [(goal, .int 0)]))
  have e3 : P_law3 (δ3 a r n pr start goal kl x5 x14) = some (.nx δ4) := by
    have h1 : dfn 1 A_law_groupings (ac (dv 2) (an)) (δ3 a r n pr start goal kl x5 x14) = some (.list (GR n)) := ev_fn1 (x := .int n) rfl (f_lists P.hn).1
    have h2 : fd1 (dv 12) (dc (.int 0)) (δ3 a r n pr start goal kl x5 x14) = some (.own [(goal, .int 0)]) := by
      show ((tkey goal).map fun _ => SD.own (dput [] goal (.int 0))) = _
      rw [hkg]; rfl
    unfold P_law3 spar aoc aof aon
    rw [h1, h2]; rfl
  let δ5 : Sl := δ4.set 6 (some (.sh (.bool true)))
  have e4 : P_law4 δ4 = some (.nx δ5) := rfl
  obtain ⟨δ6, kvs, e5, F6, k16, hG, hu⟩ := law_loop (n := n) (c := c) (goal := goal) (kl := kl) (δ0 := δ5) P.hn hgo P.cl rfl rfl rfl (δ := δ5) (kvs := [(goal, .int 0)]) ⟨rfl, fun _ _ _ _ _ _ => rfl⟩ rfl rfl (lgood0 P hgo)
  obtain ⟨f, hf, hk⟩ := law_final P hgo hG hu
  have fr : ∀ i, i ≠ 5 → i ≠ 6 → i ≠ 16 → i ≠ 17 → i ≠ 22 → δ6[i]? = δ5[i]? := F6.2
  have L6 : LS r n pr kl goal start kvs δ6 := ⟨F6.1, fr 1 (by decide) (by decide) (by decide) (by decide) (by decide), fr 2 (by decide) (by decide) (by decide) (by decide) (by decide), fr 3 (by decide) (by decide) (by decide) (by decide) (by decide), fr 4 (by decide) (by decide) (by decide) (by decide) (by decide),
    fr 11 (by decide) (by decide) (by decide) (by decide) (by decide), fr 12 (by decide) (by decide) (by decide) (by decide) (by decide), fr 13 (by decide) (by decide) (by decide) (by decide) (by decide), fr 15 (by decide) (by decide) (by decide) (by decide) (by decide), k16⟩
  have l6 := L6.len
  let NI : List Int := (GR n).map fun g => (f g : Int)
  have e6 : P_law6 δ6 = some (.nx (δ6.set 7 (some (.sh (.tuple (NI.map PyData.int)))))) := by
    have hlc : dlc [23] (iseq (dv 15)) (tg1 23) (tyes) (dixO 16 (dv 23)) δ6 = some (.list (NI.map PyData.int)) := by
      refine dlc_of (ds := GR n) (by unfold iseq; rw [dv_of L6.h15]; rfl) (by omega) ?_
      rw [lcL_map (f := fun g => .int (f g)) fun g hg => ⟨(δ6.set 23 none).set 23 (some (.sh g)), rfl, ?_⟩]
      · show some _ = some (((GR n).map fun g => (f g : Int)).map PyData.int)
        rw [List.map_map]; rfl
      · obtain ⟨k, hkk⟩ := ((f_GR P.hn).2 _ hg).1
        rw [set3, ev_dix (kvs := kvs) (by rw [get_set (by omega), if_neg (by decide)]; exact L6.h16) (dv_of (d := g) (by rw [get_set (by omega), if_pos rfl])) hkk]
        exact hk g hg
    refine ev_set ?_
    rw [ev_dl1 hlc]; rfl
  generalize hδ7 : δ6.set 7 (some (.sh (.tuple (NI.map PyData.int)))) = δ7
  have L7 : LS r n pr kl goal start kvs δ7 := by rw [← hδ7]; exact L6.set (by omega)
  have l7 := L7.len
  have a7 : δ7[7]? = some (some (.sh (.tuple (NI.map PyData.int)))) := by rw [← hδ7, get_set (by omega), if_pos rfl]
  have e7 : P_law7 δ7 = some (.nx δ7) := by
    unfold P_law7
    have hw : dfn 2 A_worths (ac (dv 12) (ac (dv 3) (an))) δ7 = some (.tuple (NI.map PyData.int)) := ev_fn2 (dv_of L7.h12) (dv_of L7.h3) (by
      rw [worths_ok P hgo hf]
      show _ = some (PyData.tuple (((GR n).map fun g => (f g : Int)).map PyData.int))
      rw [List.map_map]; rfl)
    rw [ev_if (v := false) (by rw [ev_tnot (v := true) (ev_tb (ev_fn2 hw (dv_of a7) (alike_ints NI (by show ((GR n).map fun g => (f g : Int)).length ≤ 1000; rw [List.length_map]; omega))))]; rfl)]
    rfl
  obtain ⟨ws, hc, hs, hl, hr, hco⟩ := cheap_ok P hgo hst hf
  have e8 : P_law8 δ7 = some (.nx ((δ7.set 18 (some (.sh (.tuple [.int (f start), .tuple ws])))).set 19 (some (.sh (.int (f start)))))) := by
    have h1 : dfn 3 A_cheap_row (ac (dv 11) (ac (dv 12) (ac (dv 3) (an)))) δ7 = some (.tuple [.int (f start), .tuple ws]) := ev_fn3 (dv_of L7.h11) (dv_of L7.h12) (dv_of L7.h3) hc
    have h2 : dixO 16 (dv 11) δ7 = some (.int (f start)) := (ev_dix L7.h16 (dv_of L7.h11) hks).trans (hk start hst)
    unfold P_law8 spar aoc aon
    rw [h1, h2]; rfl
  generalize hδ8 : (δ7.set 18 (some (.sh (.tuple [.int (f start), .tuple ws])))).set 19 (some (.sh (.int (f start)))) = δ8
  have L8 : LS r n pr kl goal start kvs δ8 := by rw [← hδ8]; exact (L7.set (by omega)).set (by omega)
  have l8 := L8.len
  have b7 : δ8[7]? = some (some (.sh (.tuple (NI.map PyData.int)))) := by rw [← hδ8, get_set (by rw [List.length_set]; omega), if_neg (by decide), get_set (by omega), if_neg (by decide)]; exact a7
  have b18 : δ8[18]? = some (some (.sh (.tuple [.int (f start), .tuple ws]))) := by rw [← hδ8, get_set (by rw [List.length_set]; omega), if_neg (by decide), get_set (by omega), if_pos rfl]
  have b19 : δ8[19]? = some (some (.sh (.int (f start)))) := by rw [← hδ8, get_set (by rw [List.length_set]; omega), if_pos rfl]
  have neI : ∀ i j : Int, neD (.int i) (.int j) = some (.bool (!decide (i = j))) := fun i j => rfl
  have e9 : P_law9 δ8 = some (.nx δ8) := by
    unfold P_law9
    have ix1 : d2 ixD (dv 18) (dc (.int 1)) δ8 = some (.tuple ws) := ev_ixi (dv_of b18) rfl
    rw [ev_if (v := false) (by
      rw [ev_tor (ev_tnot (v := true) (ev_tb (by rw [ev_d1 (dv_of b18)]; rfl))), if_neg (by decide), ev_tor (v := false) (ev_tb (by rw [ev_d2 (y := .int 2) (ev_dl1 (dv_of b18)) rfl]; rfl)), if_neg (by decide),
        ev_tor (v := false) (ev_tb (by rw [ev_d2 (ev_ixi (z := .int (f start)) (dv_of b18) rfl) (dv_of b19), neI, decide_eq_true rfl]; rfl)), if_neg (by decide), ev_tor (ev_tnot (v := true) (ev_tb (by rw [ev_d1 ix1]; rfl))), if_neg (by decide)]
      refine ev_tb ?_
      rw [ev_d2 (x := .int ws.length) (y := .int 300) (by rw [ev_dl1 ix1]; rfl) rfl]
      show some (PyData.bool (decide ((300 : Int) < (ws.length : Int)))) = _
      rw [decide_eq_false (by omega)])]
    rfl
  have e10 : P_law10 δ8 = some (.nx (δ8.set 8 (some (.sh (.tuple ws))))) := ev_set (ev_ixi (dv_of b18) rfl)
  generalize hδ9 : δ8.set 8 (some (.sh (.tuple ws))) = δ9
  have L9 : LS r n pr kl goal start kvs δ9 := by rw [← hδ9]; exact L8.set (by omega)
  have l9 := L9.len
  have c7 : δ9[7]? = some (some (.sh (.tuple (NI.map PyData.int)))) := by rw [← hδ9, get_set (by omega), if_neg (by decide)]; exact b7
  have c18 : δ9[18]? = some (some (.sh (.tuple [.int (f start), .tuple ws]))) := by rw [← hδ9, get_set (by omega), if_neg (by decide)]; exact b18
  have c19 : δ9[19]? = some (some (.sh (.int (f start)))) := by rw [← hδ9, get_set (by omega), if_neg (by decide)]; exact b19
  have c8 : δ9[8]? = some (some (.sh (.tuple ws))) := by rw [← hδ9, get_set (by omega), if_pos rfl]
  obtain ⟨vals, e11, hv, hvl⟩ := vals_ok P hgo hst hs hl L9.h2 c8 c18 c19
  refine npu_nx e3 (npu_nx e4 (npu_nx e5 (npu_nx e6 ?_)))
  rw [hδ7]
  refine npu_nx e7 (npu_nx e8 ?_)
  rw [hδ8]
  refine npu_nx e9 (npu_nx e10 ?_)
  rw [hδ9]
  refine npu_nx e11 ?_
  refine last_ok P hgo hst hf (L9.set (by omega)) hs hl hr hco ?_ ?_ ?_ ?_ (vals := vals) ?_ hv hvl
  · rw [get_set (by omega), if_neg (by decide)]; exact c7
  · rw [get_set (by omega), if_neg (by decide)]; exact c8
  · rw [get_set (by omega), if_neg (by decide)]; exact c18
  · rw [get_set (by omega), if_neg (by decide)]; exact c19
  · rw [get_set (by omega), if_pos rfl]
end
end Gd

set_option maxHeartbeats 2000000
/-! GmT: law answers True, whatever is drawn. -/
namespace Gd
open PySem PySem.Spec PyProof.Rows L2
theorem list1 {l : List Nat} (h : l.length = 1) : ∃ a, l = [a] := by
  match l, h with
  | [a], _ => exact ⟨a, rfl⟩
theorem list3 {l : List Nat} (h : l.length = 3) : ∃ a b c, l = [a, b, c] := by
  match l, h with
  | [a, b, c], _ => exact ⟨a, b, c, rfl⟩
/-- the pieces behind the draws -/
theorem behind {a r : Addr} {n : Nat} (hn : n ∈ ns) {goal start : D} (hgo : goal ∈ GR n) (hst : start ∈ GR n) {ps qs : List Nat} (h1 : ps.length = n) (h2 : qs.length = n * (n - 1) / 2) (hp : ∀ p ∈ ps, p ≤ 7) (hq : ∀ p ∈ qs, p ≤ 7) :
    npu P_law2 Wtail r (δ2 a r n (.tuple [.tuple (ps.map fun (p : Nat) => .int p), .tuple (qs.map fun (p : Nat) => .int p)]) start goal) fun d => d = .bool true := by
  have hn4 : n = 1 ∨ n = 2 ∨ n = 3 ∨ n = 4 := by simpa [ns] using hn
  rcases hn4 with rfl | rfl | rfl | rfl
  · match ps, qs, h1, h2 with
    | [p0], [], _, _ => exact npu_nx (tab1 a r start goal p0) (tail_ok (Pr1 (hp _ (by simp))) hgo hst)
  · match ps, qs, h1, h2 with
    | [p0, p1], [q0], _, _ => exact npu_nx (tab2 a r start goal p0 p1 q0) (tail_ok (Pr2 (hp _ (by simp)) (hp _ (by simp)) (hq _ (by simp))) hgo hst)
  · match ps, qs, h1, h2 with
    | [p0, p1, p2], [q0, q1, q2], _, _ => exact npu_nx (tab3 a r start goal p0 p1 p2 q0 q1 q2) (tail_ok (Pr3 (hp _ (by simp)) (hp _ (by simp)) (hp _ (by simp)) (hq _ (by simp)) (hq _ (by simp)) (hq _ (by simp))) hgo hst)
  · match ps, qs, h1, h2 with
    | [p0, p1, p2, p3], [q0, q1, q2, q3, q4, q5], _, _ => exact npu_nx (tab4 a r start goal p0 p1 p2 p3 q0 q1 q2 q3 q4 q5) (tail_ok (Pr4 (hp _ (by simp)) (hp _ (by simp)) (hp _ (by simp)) (hp _ (by simp)) (hq _ (by simp)) (hq _ (by simp)) (hq _ (by simp)) (hq _ (by simp)) (hq _ (by simp)) (hq _ (by simp))) hgo hst)
/-- numbers below eight are drawn -/
theorem eights_ok {r : Addr} {δ : Sl} {it : Sl → Option (List D)} {m : Nat} {post : D → Prop} (h1 : δ[1]? = some (some (.sh (rawD r)))) (hl : δ.length = 25) (hi : it δ = some (rgL 0 m)) (hm : m ≤ 1000) (h : ∀ ps : List Nat, ps.length = m → (∀ p ∈ ps, p ≤ 7) → post (.tuple (ps.map fun (p : Nat) => .int p))) :
    nl tupleD (nac (nlc [24] (nit it) (tg1 24) (ntk (dv 1) (dc (.int 8)))) nan) r δ post := by
  refine ⟨rgL 0 m, hi, by rw [rgL_len]; omega, fun d => ∃ i : Int, 0 ≤ i ∧ i < 8 ∧ d = .int i, fun d _ => ⟨(δ.set 24 none).set 24 (some (.sh d)), rfl, dv_of ?_, 8, rfl, by omega, by omega, fun j h0 h8 => ⟨j, h0, h8, rfl⟩⟩, fun ys hys hy => ?_⟩
  · rw [set3, get_set (by omega), if_neg (by decide)]; exact h1
  · rw [rgL_len] at hys
    obtain ⟨ps, rfl, hps, h7⟩ := eights hys hy
    exact ⟨_, rfl, h ps hps h7⟩
theorem half_ok {n : Nat} (hn : n = 1 ∨ n = 2 ∨ n = 3 ∨ n = 4) {δ : Sl} (h2 : dv 2 δ = some (.int n)) : d2 fdivD (d2 mulD (dv 2) (d2 subD (dv 2) (dc (.int 1)))) (dc (.int 2)) δ = some (.int ((n * (n - 1) / 2 : Nat) : Int)) := by
  have e1 : d2 subD (dv 2) (dc (.int 1)) δ = some (.int ((n : Int) - 1)) := by rw [ev_d2 (y := .int 1) h2 rfl]; rfl
  have e2 : d2 mulD (dv 2) (d2 subD (dv 2) (dc (.int 1))) δ = some (.int ((n : Int) * ((n : Int) - 1))) := by
    rw [ev_d2 h2 e1]
    rcases hn with rfl | rfl | rfl | rfl <;> rfl
  rw [ev_d2 (y := .int 2) e2 rfl]
  rcases hn with rfl | rfl | rfl | rfl <;> rfl
theorem W_law_ok (a r : Addr) : W_law r ((startD 25 [rawD a]).set 1 (some (.sh (rawD r)))) fun d => d = .bool true := by
  unfold W_law
  refine ⟨.int 1, rfl, rfl, 4, rfl, by omega, by omega, fun j h0 h4 => ?_⟩
  obtain ⟨n, hn, e⟩ : ∃ n, n ∈ ns ∧ (1 + j : Int) = (n : Nat) := by
    refine ⟨(1 + j).toNat, ?_, by omega⟩
    have : (1 + j).toNat = 1 ∨ (1 + j).toNat = 2 ∨ (1 + j).toNat = 3 ∨ (1 + j).toNat = 4 := by omega
    simpa [ns] using this
  have hn4 := ns_cases hn
  refine ⟨.int n, by show some (PyData.int (1 + j)) = _; rw [e], ?_⟩
  let δa : Sl := [some (.sh (rawD a)), some (.sh (rawD r)), some (.sh (.int n)), none, none, none, none, none, none, none, none, none, none, none, none, none, none, none, none, none, none, none, none, none, none]
  show npar3 11 12 13 _ _ r δa _
  refine ⟨[rawD r, .int n], rfl, rfl, grouping_ok hn fun start hst => ⟨[rawD r, .int n], rfl, rfl, grouping_ok hn fun goal hgo => ⟨.list (ST n), ev_fn1 (x := .int n) rfl (f_lists hn).2.2.1, start, goal, .list (ST n), rfl, ?_⟩⟩⟩
  let δb : Sl := ((δa.set 11 (some (.sh start))).set 12 (some (.sh goal))).set 13 (some (.sh (.list (ST n))))
  show nset 3 _ _ r δb _
  have i2 : irg1 (d2 fdivD (d2 mulD (dv 2) (d2 subD (dv 2) (dc (.int 1)))) (dc (.int 2))) δb = some (rgL 0 (n * (n - 1) / 2)) := by
    refine irg1_ok ?_ ?_
    · have hn5 : n = 1 ∨ n = 2 ∨ n = 3 ∨ n = 4 := by omega
      exact half_ok hn5 rfl
    · have hn5 : n = 1 ∨ n = 2 ∨ n = 3 ∨ n = 4 := by omega
      rcases hn5 with rfl | rfl | rfl | rfl <;> decide
  refine eights_ok (m := n) rfl rfl (irg1_ok (m := n) rfl (by omega)) (by omega) fun ps hps hp => ?_
  refine eights_ok (m := n * (n - 1) / 2) rfl rfl i2 (by
    have hn5 : n = 1 ∨ n = 2 ∨ n = 3 ∨ n = 4 := by omega
    rcases hn5 with rfl | rfl | rfl | rfl <;> decide) fun qs hqs hq => ?_
  refine ⟨_, rfl, ?_⟩
  refine npu_nx (δ' := δ2 a r n (.tuple [.tuple (ps.map fun (p : Nat) => .int p), .tuple (qs.map fun (p : Nat) => .int p)]) start goal) rfl ?_
  exact behind hn hgo hst hps hqs hp hq
end Gd

set_option maxHeartbeats 2000000
/-! GzA: printed by gen.py. -/
namespace Gd
open PySem PySem.Spec PyProof.Rows L2
theorem tr_nil : TriplesOk (#[] : Array Value).toList := by first | exact trivial | exact .nil | decide | simp [TriplesOk]
/-- a def as the top has written it -/
theorem df_mk {K : PySem.W.Frag} {h : Heap} {mg : Str → Option Value} {x : Str} {st : Stmt} {f : Addr} {oc kV dc pm cd ct : Value} {od an : Option Addr} {sl : Array (Option Value)} (X : K.In h) (N : h.Ns mainGlobals mg) (a : PySem.W.nsIn K mainGlobals x = some (some (.ref f)))
    (l : K.lookup f = some ⟨oc, od, .func (PySem.W.fnOf x x (defArgs st) (defBody st) (defScope st) .none kV dc pm an cd ct), sl⟩) (c : PySem.W.codeIn K cd x = true) (k : PySem.W.keepIn K (.ref f) = true) : Df K mg x st cd f (PySem.W.fnOf x x (defArgs st) (defBody st) (defScope st) .none kV dc pm an cd ct) :=
  ⟨⟨oc, od, kV, dc, pm, an, ct, sl, rfl, l, c⟩, PySem.W.mg_of X N a, k⟩
theorem law_at {l : PySem.W.OpenLaw} {w : World} {K : PySem.W.Frag} {h : Heap} {mg : Str → Option Value} {fa : Addr} (hfa : mg "law" = some (.ref fa)) (Mb : Bn mg) (Mc : Cn mg) {c_is_lot P_is_lot c_is_grouping P_is_grouping c_size_of P_size_of c_are_steps P_are_steps c_are_prices P_are_prices c_price_of P_price_of c_shows_price_paper P_shows_price_paper : Addr}
    (d_is_in : ∃ cdv f fd, Df K mg "is_in" s_is_in cdv f fd)
    (d_is_lot : ∃ f fd, Df K mg "is_lot" s_is_lot (.ref c_is_lot) f fd)
    (d_is_grouping : ∃ f fd, Df K mg "is_grouping" s_is_grouping (.ref c_is_grouping) f fd)
    (d_size_of : ∃ f fd, Df K mg "size_of" s_size_of (.ref c_size_of) f fd)
    (d_need_grouping : ∃ cdv f fd, Df K mg "need_grouping" s_need_grouping cdv f fd)
    (d_all_groupings : ∃ cdv f fd, Df K mg "all_groupings" s_all_groupings cdv f fd)
    (d_is_step : ∃ cdv f fd, Df K mg "is_step" s_is_step cdv f fd)
    (d_lot_with : ∃ cdv f fd, Df K mg "lot_with" s_lot_with cdv f fd)
    (d_joined : ∃ cdv f fd, Df K mg "joined" s_joined cdv f fd)
    (d_left : ∃ cdv f fd, Df K mg "left" s_left cdv f fd)
    (d_stepped : ∃ cdv f fd, Df K mg "stepped" s_stepped cdv f fd)
    (d_are_steps : ∃ f fd, Df K mg "are_steps" s_are_steps (.ref c_are_steps) f fd)
    (d_trace : ∃ cdv f fd, Df K mg "trace" s_trace cdv f fd)
    (d_all_steps : ∃ cdv f fd, Df K mg "all_steps" s_all_steps cdv f fd)
    (d_need_two : ∃ cdv f fd, Df K mg "need_two" s_need_two cdv f fd)
    (d_are_prices : ∃ f fd, Df K mg "are_prices" s_are_prices (.ref c_are_prices) f fd)
    (d_need_prices : ∃ cdv f fd, Df K mg "need_prices" s_need_prices cdv f fd)
    (d_price_table : ∃ cdv f fd, Df K mg "price_table" s_price_table cdv f fd)
    (d_least_rows : ∃ cdv f fd, Df K mg "least_rows" s_least_rows cdv f fd)
    (d_need_priced : ∃ cdv f fd, Df K mg "need_priced" s_need_priced cdv f fd)
    (d_cheap_row : ∃ cdv f fd, Df K mg "cheap_row" s_cheap_row cdv f fd)
    (d_price_of : ∃ f fd, Df K mg "price_of" s_price_of (.ref c_price_of) f fd)
    (d_shows_cheap_row : ∃ cdv f fd, Df K mg "shows_cheap_row" s_shows_cheap_row cdv f fd)
    (d_worths : ∃ cdv f fd, Df K mg "worths" s_worths cdv f fd)
    (d_shows_price_paper : ∃ f fd, Df K mg "shows_price_paper" s_shows_price_paper (.ref c_shows_price_paper) f fd)
    (d_law_taken : ∃ cdv f fd, Df K mg "_law_taken" s_law_taken cdv f fd)
    (d_law_pick : ∃ cdv f fd, Df K mg "_law_pick" s_law_pick cdv f fd)
    (d_law_alike : ∃ cdv f fd, Df K mg "_law_alike" s_law_alike cdv f fd)
    (d_law_lots : ∃ cdv f fd, Df K mg "_law_lots" s_law_lots cdv f fd)
    (d_law_labels : ∃ cdv f fd, Df K mg "_law_labels" s_law_labels cdv f fd)
    (d_law_grouping : ∃ cdv f fd, Df K mg "_law_grouping" s_law_grouping cdv f fd)
    (d_law_step : ∃ cdv f fd, Df K mg "_law_step" s_law_step cdv f fd)
    (d_law_done : ∃ cdv f fd, Df K mg "_law_done" s_law_done cdv f fd)
    (d_law_steps : ∃ cdv f fd, Df K mg "_law_steps" s_law_steps cdv f fd)
    (d_law_row : ∃ cdv f fd, Df K mg "_law_row" s_law_row cdv f fd)
    (d_law_groupings : ∃ cdv f fd, Df K mg "_law_groupings" s_law_groupings cdv f fd)
    (d_law_papers : ∃ cdv f fd, Df K mg "_law_papers" s_law_papers cdv f fd)
    (d_law : ∃ cdv f fd, Df K mg "law" s_law cdv f fd)
    (hT : ∀ p ∈ ([(c_is_lot, P_is_lot), (c_is_grouping, P_is_grouping), (c_size_of, P_size_of), (c_are_steps, P_are_steps), (c_are_prices, P_are_prices), (c_price_of, P_price_of), (c_shows_price_paper, P_shows_price_paper)] : List (Addr × Addr)), h.get? p.2 = some { cls := .none, data := .fields #[] }) (nT : ∀ p ∈ ([(c_is_lot, P_is_lot), (c_is_grouping, P_is_grouping), (c_size_of, P_size_of), (c_are_steps, P_are_steps), (c_are_prices, P_are_prices), (c_price_of, P_price_of), (c_shows_price_paper, P_shows_price_paper)] : List (Addr × Addr)), K.lookup p.2 = none) (hC : ∀ p ∈ ([(c_is_lot, P_is_lot), (c_is_grouping, P_is_grouping), (c_size_of, P_size_of), (c_are_steps, P_are_steps), (c_are_prices, P_are_prices), (c_price_of, P_price_of), (c_shows_price_paper, P_shows_price_paper)] : List (Addr × Addr)), PySem.W.CodeHd h p.1 p.2) :
    LamX.LawAtS l w K CX0 15 63 "_law_script" mg fa h := by
  obtain ⟨cd_is_in, f_is_in, fd_is_in, F_is_in⟩ := d_is_in
  obtain ⟨f_is_lot, fd_is_lot, F_is_lot⟩ := d_is_lot
  obtain ⟨f_is_grouping, fd_is_grouping, F_is_grouping⟩ := d_is_grouping
  obtain ⟨f_size_of, fd_size_of, F_size_of⟩ := d_size_of
  obtain ⟨cd_need_grouping, f_need_grouping, fd_need_grouping, F_need_grouping⟩ := d_need_grouping
  obtain ⟨cd_all_groupings, f_all_groupings, fd_all_groupings, F_all_groupings⟩ := d_all_groupings
  obtain ⟨cd_is_step, f_is_step, fd_is_step, F_is_step⟩ := d_is_step
  obtain ⟨cd_lot_with, f_lot_with, fd_lot_with, F_lot_with⟩ := d_lot_with
  obtain ⟨cd_joined, f_joined, fd_joined, F_joined⟩ := d_joined
  obtain ⟨cd_left, f_left, fd_left, F_left⟩ := d_left
  obtain ⟨cd_stepped, f_stepped, fd_stepped, F_stepped⟩ := d_stepped
  obtain ⟨f_are_steps, fd_are_steps, F_are_steps⟩ := d_are_steps
  obtain ⟨cd_trace, f_trace, fd_trace, F_trace⟩ := d_trace
  obtain ⟨cd_all_steps, f_all_steps, fd_all_steps, F_all_steps⟩ := d_all_steps
  obtain ⟨cd_need_two, f_need_two, fd_need_two, F_need_two⟩ := d_need_two
  obtain ⟨f_are_prices, fd_are_prices, F_are_prices⟩ := d_are_prices
  obtain ⟨cd_need_prices, f_need_prices, fd_need_prices, F_need_prices⟩ := d_need_prices
  obtain ⟨cd_price_table, f_price_table, fd_price_table, F_price_table⟩ := d_price_table
  obtain ⟨cd_least_rows, f_least_rows, fd_least_rows, F_least_rows⟩ := d_least_rows
  obtain ⟨cd_need_priced, f_need_priced, fd_need_priced, F_need_priced⟩ := d_need_priced
  obtain ⟨cd_cheap_row, f_cheap_row, fd_cheap_row, F_cheap_row⟩ := d_cheap_row
  obtain ⟨f_price_of, fd_price_of, F_price_of⟩ := d_price_of
  obtain ⟨cd_shows_cheap_row, f_shows_cheap_row, fd_shows_cheap_row, F_shows_cheap_row⟩ := d_shows_cheap_row
  obtain ⟨cd_worths, f_worths, fd_worths, F_worths⟩ := d_worths
  obtain ⟨f_shows_price_paper, fd_shows_price_paper, F_shows_price_paper⟩ := d_shows_price_paper
  obtain ⟨cd_law_taken, f_law_taken, fd_law_taken, F_law_taken⟩ := d_law_taken
  obtain ⟨cd_law_pick, f_law_pick, fd_law_pick, F_law_pick⟩ := d_law_pick
  obtain ⟨cd_law_alike, f_law_alike, fd_law_alike, F_law_alike⟩ := d_law_alike
  obtain ⟨cd_law_lots, f_law_lots, fd_law_lots, F_law_lots⟩ := d_law_lots
  obtain ⟨cd_law_labels, f_law_labels, fd_law_labels, F_law_labels⟩ := d_law_labels
  obtain ⟨cd_law_grouping, f_law_grouping, fd_law_grouping, F_law_grouping⟩ := d_law_grouping
  obtain ⟨cd_law_step, f_law_step, fd_law_step, F_law_step⟩ := d_law_step
  obtain ⟨cd_law_done, f_law_done, fd_law_done, F_law_done⟩ := d_law_done
  obtain ⟨cd_law_steps, f_law_steps, fd_law_steps, F_law_steps⟩ := d_law_steps
  obtain ⟨cd_law_row, f_law_row, fd_law_row, F_law_row⟩ := d_law_row
  obtain ⟨cd_law_groupings, f_law_groupings, fd_law_groupings, F_law_groupings⟩ := d_law_groupings
  obtain ⟨cd_law_papers, f_law_papers, fd_law_papers, F_law_papers⟩ := d_law_papers
  obtain ⟨cd_law, f_law, fd_law, F_law⟩ := d_law
  have e := hfa.symm.trans F_law.mgf
  cases e
  refine ⟨fd_law, [(c_is_lot, P_is_lot), (c_is_grouping, P_is_grouping), (c_size_of, P_size_of), (c_are_steps, P_are_steps), (c_are_prices, P_are_prices), (c_price_of, P_price_of), (c_shows_price_paper, P_shows_price_paper)], spLaw [P_is_lot, P_is_grouping, P_size_of, P_are_steps, P_are_prices, P_price_of, P_shows_price_paper] K, hT, nT, hC, fun s u => ?_, fun H a ns _ _ ht hs => ⟨a, ns, rfl, fun p hp => ?_, hs, fun _ => rfl⟩, fun base _ _ ht => ?_⟩
  · obtain ⟨oc, od, kV, doc, pm, an, ct, osl, rfl, lk, hcd⟩ := F_law.ex
    exact .of_eq rfl
  · obtain ⟨q, hq, rfl⟩ := List.mem_map.mp (show p ∈ ([(c_is_lot, P_is_lot), (c_is_grouping, P_is_grouping), (c_size_of, P_size_of), (c_are_steps, P_are_steps), (c_are_prices, P_are_prices), (c_price_of, P_price_of), (c_shows_price_paper, P_shows_price_paper)] : List (Addr × Addr)).map (·.2) from hp)
    exact ⟨#[], ht q hq, tr_nil⟩
  have TB_is_lot : GxR.TabB base mg c_is_lot P_is_lot := by have z := ht (c_is_lot, P_is_lot) (by simp); exact ⟨z.code, z.bm, z.gP⟩
  have TB_is_grouping : GxR.TabB base mg c_is_grouping P_is_grouping := by have z := ht (c_is_grouping, P_is_grouping) (by simp); exact ⟨z.code, z.bm, z.gP⟩
  have TB_size_of : GxR.TabB base mg c_size_of P_size_of := by have z := ht (c_size_of, P_size_of) (by simp); exact ⟨z.code, z.bm, z.gP⟩
  have TB_are_steps : GxR.TabB base mg c_are_steps P_are_steps := by have z := ht (c_are_steps, P_are_steps) (by simp); exact ⟨z.code, z.bm, z.gP⟩
  have TB_are_prices : GxR.TabB base mg c_are_prices P_are_prices := by have z := ht (c_are_prices, P_are_prices) (by simp); exact ⟨z.code, z.bm, z.gP⟩
  have TB_price_of : GxR.TabB base mg c_price_of P_price_of := by have z := ht (c_price_of, P_price_of) (by simp); exact ⟨z.code, z.bm, z.gP⟩
  have TB_shows_price_paper : GxR.TabB base mg c_shows_price_paper P_shows_price_paper := by have z := ht (c_shows_price_paper, P_shows_price_paper) (by simp); exact ⟨z.code, z.bm, z.gP⟩
  have k_is_in := ok_is_in (P := l.prog) (w := w) (base := base) (T := [P_is_lot, P_is_grouping, P_size_of, P_are_steps, P_are_prices, P_price_of, P_shows_price_paper]) Mb Mc  F_is_in
  have k_is_lot := ok_is_lot (P := l.prog) (w := w) (base := base) (T := [P_is_lot, P_is_grouping, P_size_of, P_are_steps, P_are_prices, P_price_of, P_shows_price_paper]) Mb Mc k_is_in TB_is_lot (by simp) F_is_lot
  have k_is_grouping := ok_is_grouping (P := l.prog) (w := w) (base := base) (T := [P_is_lot, P_is_grouping, P_size_of, P_are_steps, P_are_prices, P_price_of, P_shows_price_paper]) Mb Mc k_is_lot TB_is_grouping (by simp) F_is_grouping
  have k_size_of := ok_size_of (P := l.prog) (w := w) (base := base) (T := [P_is_lot, P_is_grouping, P_size_of, P_are_steps, P_are_prices, P_price_of, P_shows_price_paper]) Mb Mc  TB_size_of (by simp) F_size_of
  have k_need_grouping := ok_need_grouping (P := l.prog) (w := w) (base := base) (T := [P_is_lot, P_is_grouping, P_size_of, P_are_steps, P_are_prices, P_price_of, P_shows_price_paper]) Mb Mc k_is_grouping F_need_grouping
  have k_all_groupings := ok_all_groupings (P := l.prog) (w := w) (base := base) (T := [P_is_lot, P_is_grouping, P_size_of, P_are_steps, P_are_prices, P_price_of, P_shows_price_paper]) Mb Mc  F_all_groupings
  have k_is_step := ok_is_step (P := l.prog) (w := w) (base := base) (T := [P_is_lot, P_is_grouping, P_size_of, P_are_steps, P_are_prices, P_price_of, P_shows_price_paper]) Mb Mc k_is_lot F_is_step
  have k_lot_with := ok_lot_with (P := l.prog) (w := w) (base := base) (T := [P_is_lot, P_is_grouping, P_size_of, P_are_steps, P_are_prices, P_price_of, P_shows_price_paper]) Mb Mc  F_lot_with
  have k_joined := ok_joined (P := l.prog) (w := w) (base := base) (T := [P_is_lot, P_is_grouping, P_size_of, P_are_steps, P_are_prices, P_price_of, P_shows_price_paper]) Mb Mc k_lot_with F_joined
  have k_left := ok_left (P := l.prog) (w := w) (base := base) (T := [P_is_lot, P_is_grouping, P_size_of, P_are_steps, P_are_prices, P_price_of, P_shows_price_paper]) Mb Mc k_lot_with F_left
  have k_stepped := ok_stepped (P := l.prog) (w := w) (base := base) (T := [P_is_lot, P_is_grouping, P_size_of, P_are_steps, P_are_prices, P_price_of, P_shows_price_paper]) Mb Mc k_joined k_left F_stepped
  have k_are_steps := ok_are_steps (P := l.prog) (w := w) (base := base) (T := [P_is_lot, P_is_grouping, P_size_of, P_are_steps, P_are_prices, P_price_of, P_shows_price_paper]) Mb Mc k_is_step TB_are_steps (by simp) F_are_steps
  have k_trace := ok_trace (P := l.prog) (w := w) (base := base) (T := [P_is_lot, P_is_grouping, P_size_of, P_are_steps, P_are_prices, P_price_of, P_shows_price_paper]) Mb Mc k_stepped F_trace
  have k_all_steps := ok_all_steps (P := l.prog) (w := w) (base := base) (T := [P_is_lot, P_is_grouping, P_size_of, P_are_steps, P_are_prices, P_price_of, P_shows_price_paper]) Mb Mc  F_all_steps
  have k_need_two := ok_need_two (P := l.prog) (w := w) (base := base) (T := [P_is_lot, P_is_grouping, P_size_of, P_are_steps, P_are_prices, P_price_of, P_shows_price_paper]) Mb Mc k_is_grouping k_need_grouping k_size_of F_need_two
  have k_are_prices := ok_are_prices (P := l.prog) (w := w) (base := base) (T := [P_is_lot, P_is_grouping, P_size_of, P_are_steps, P_are_prices, P_price_of, P_shows_price_paper]) Mb Mc k_is_in TB_are_prices (by simp) F_are_prices
  have k_need_prices := ok_need_prices (P := l.prog) (w := w) (base := base) (T := [P_is_lot, P_is_grouping, P_size_of, P_are_steps, P_are_prices, P_price_of, P_shows_price_paper]) Mb Mc k_are_prices F_need_prices
  have k_price_table := ok_price_table (P := l.prog) (w := w) (base := base) (T := [P_is_lot, P_is_grouping, P_size_of, P_are_steps, P_are_prices, P_price_of, P_shows_price_paper]) Mb Mc  F_price_table
  have k_least_rows := ok_least_rows (P := l.prog) (w := w) (base := base) (T := [P_is_lot, P_is_grouping, P_size_of, P_are_steps, P_are_prices, P_price_of, P_shows_price_paper]) Mb Mc k_all_groupings k_all_steps k_price_table k_size_of k_stepped F_least_rows
  have k_need_priced := ok_need_priced (P := l.prog) (w := w) (base := base) (T := [P_is_lot, P_is_grouping, P_size_of, P_are_steps, P_are_prices, P_price_of, P_shows_price_paper]) Mb Mc k_need_prices k_need_two k_size_of F_need_priced
  have k_cheap_row := ok_cheap_row (P := l.prog) (w := w) (base := base) (T := [P_is_lot, P_is_grouping, P_size_of, P_are_steps, P_are_prices, P_price_of, P_shows_price_paper]) Mb Mc k_least_rows k_need_priced k_stepped F_cheap_row
  have k_price_of := ok_price_of (P := l.prog) (w := w) (base := base) (T := [P_is_lot, P_is_grouping, P_size_of, P_are_steps, P_are_prices, P_price_of, P_shows_price_paper]) Mb Mc k_price_table TB_price_of (by simp) F_price_of
  have k_shows_cheap_row := ok_shows_cheap_row (P := l.prog) (w := w) (base := base) (T := [P_is_lot, P_is_grouping, P_size_of, P_are_steps, P_are_prices, P_price_of, P_shows_price_paper]) Mb Mc k_are_steps k_is_in k_least_rows k_need_priced k_price_of k_size_of k_trace F_shows_cheap_row
  have k_worths := ok_worths (P := l.prog) (w := w) (base := base) (T := [P_is_lot, P_is_grouping, P_size_of, P_are_steps, P_are_prices, P_price_of, P_shows_price_paper]) Mb Mc k_least_rows k_need_grouping k_need_prices k_size_of F_worths
  have k_shows_price_paper := ok_shows_price_paper (P := l.prog) (w := w) (base := base) (T := [P_is_lot, P_is_grouping, P_size_of, P_are_steps, P_are_prices, P_price_of, P_shows_price_paper]) Mb Mc k_all_groupings k_least_rows k_need_priced k_price_table k_size_of k_stepped TB_shows_price_paper (by simp) F_shows_price_paper
  have k_law_taken := ok_law_taken (P := l.prog) (w := w) (base := base) Mb F_law_taken
  have k_law_pick := ok_law_pick (P := l.prog) (w := w) (base := base) (T := [P_is_lot, P_is_grouping, P_size_of, P_are_steps, P_are_prices, P_price_of, P_shows_price_paper]) Mb k_law_taken F_law_pick
  have k_law_alike := ok2_law_alike (P := l.prog) (w := w) (base := base) (T := [P_is_lot, P_is_grouping, P_size_of, P_are_steps, P_are_prices, P_price_of, P_shows_price_paper]) Mb Mc F_law_alike
  have k_law_lots := ok_law_lots (P := l.prog) (w := w) (base := base) (T := [P_is_lot, P_is_grouping, P_size_of, P_are_steps, P_are_prices, P_price_of, P_shows_price_paper]) Mb Mc  F_law_lots
  have k_law_labels := ok_law_labels (P := l.prog) (w := w) (base := base) (T := [P_is_lot, P_is_grouping, P_size_of, P_are_steps, P_are_prices, P_price_of, P_shows_price_paper]) Mb Mc  F_law_labels
  have k_law_grouping := ok_law_grouping (P := l.prog) (w := w) (base := base) (T := [P_is_lot, P_is_grouping, P_size_of, P_are_steps, P_are_prices, P_price_of, P_shows_price_paper]) Mb k_law_lots k_law_taken F_law_grouping
  have k_law_step := ok_law_step (P := l.prog) (w := w) (base := base) (T := [P_is_lot, P_is_grouping, P_size_of, P_are_steps, P_are_prices, P_price_of, P_shows_price_paper]) Mb Mc k_law_labels k_law_lots F_law_step
  have k_law_done := ok_law_done (P := l.prog) (w := w) (base := base) (T := [P_is_lot, P_is_grouping, P_size_of, P_are_steps, P_are_prices, P_price_of, P_shows_price_paper]) Mb Mc k_law_step F_law_done
  have k_law_steps := ok_law_steps (P := l.prog) (w := w) (base := base) (T := [P_is_lot, P_is_grouping, P_size_of, P_are_steps, P_are_prices, P_price_of, P_shows_price_paper]) Mb Mc  F_law_steps
  have k_law_row := ok_law_row (P := l.prog) (w := w) (base := base) (T := [P_is_lot, P_is_grouping, P_size_of, P_are_steps, P_are_prices, P_price_of, P_shows_price_paper]) Mb k_law_pick k_law_steps k_law_taken F_law_row
  have k_law_groupings := ok_law_groupings (P := l.prog) (w := w) (base := base) (T := [P_is_lot, P_is_grouping, P_size_of, P_are_steps, P_are_prices, P_price_of, P_shows_price_paper]) Mb Mc k_law_lots F_law_groupings
  have k_law_papers := ok_law_papers (P := l.prog) (w := w) (base := base) (T := [P_is_lot, P_is_grouping, P_size_of, P_are_steps, P_are_prices, P_price_of, P_shows_price_paper]) Mb Mc k_law_alike k_law_groupings k_law_labels k_law_step k_shows_price_paper F_law_papers
  exact ok_law (fun a r => W_law_ok a r) Mb Mc k_law_alike k_law_done k_law_grouping k_law_groupings k_law_papers k_law_row k_law_step k_law_steps k_law_taken k_cheap_row k_shows_cheap_row k_worths F_law
end Gd

set_option maxHeartbeats 2000000
/-! GzB: printed by gen.py. -/
namespace Gd
open PySem PySem.Spec PyProof.Rows L2
/-- what the head tells of a def -/
structure Dn (K : PySem.W.Frag) (x : Str) (st : Stmt) : Prop where
  ex : ∃ (f : Addr) (oc kV dc pm cd ct : Value) (od an : Option Addr) (sl : Array (Option Value)), PySem.W.nsIn K mainGlobals x = some (some (.ref f)) ∧
    K.lookup f = some ⟨oc, od, .func (PySem.W.fnOf x x (defArgs st) (defBody st) (defScope st) .none kV dc pm an cd ct), sl⟩ ∧ PySem.W.codeIn K cd x = true ∧ PySem.W.keepIn K (.ref f) = true
theorem dn_mk {K : PySem.W.Frag} {x : Str} {st : Stmt} {f : Addr} {oc kV dc pm cd ct : Value} {od an : Option Addr} {sl : Array (Option Value)} (a : PySem.W.nsIn K mainGlobals x = some (some (.ref f)))
    (l : K.lookup f = some ⟨oc, od, .func (PySem.W.fnOf x x (defArgs st) (defBody st) (defScope st) .none kV dc pm an cd ct), sl⟩) (c : PySem.W.codeIn K cd x = true) (k : PySem.W.keepIn K (.ref f) = true) : Dn K x st :=
  ⟨f, oc, kV, dc, pm, cd, ct, od, an, sl, a, l, c, k⟩
theorem Dn.df {K : PySem.W.Frag} {h : Heap} {mg : Str → Option Value} {x : Str} {st : Stmt} (X : K.In h) (N : h.Ns mainGlobals mg) (D : Dn K x st) : ∃ cdv f fd, Df K mg x st cdv f fd := by
  obtain ⟨f, oc, kV, dc, pm, cd, ct, od, an, sl, a, l, c, k⟩ := D.ex
  exact ⟨cd, f, _, df_mk X N a l c k⟩
/-- the table of a def that the top made -/
theorem tab_at {q : Program} {loose : List Str} {mean : ExcName → Option Value} {K : PySem.W.Frag} {h : Heap} {mg mb : Str → Option Value} {x : Str} {st : Stmt} (X : K.In h) (T : Top q loose mean mg mb h) (nt : PySem.W.noTabs K = true) (hr : (recsOf q).any (fun e => e.name == x) = true) (D : Dn K x st) :
    ∃ c P : Addr, (∃ f fd, Df K mg x st (.ref c) f fd) ∧ h.get? P = some { cls := .none, data := .fields #[] } ∧ K.lookup P = none ∧ PySem.W.CodeHd h c P := by
  obtain ⟨f, oc, kV, dc, pm, cd, ct, od, an, sl, a, l, c, k⟩ := D.ex
  obtain ⟨d, hd, hx⟩ := List.any_eq_true.mp hr
  have hn : d.name = x := beq_iff_eq.mp hx
  obtain ⟨g, o, fd, cc, P, h1, h2, h3, h4, h5, h6⟩ := T.tab d hd
  rw [hn, PySem.W.mg_of X T.g a] at h1
  cases h1
  have e2 := X _ _ l
  rw [h2] at e2
  cases e2
  cases h3
  have h4' : cd = .ref cc := h4
  subst h4'
  have hP : h.get? P = some { cls := .none, data := .fields #[] } := h6.2
  refine ⟨cc, P, ⟨f, _, df_mk X T.g a l c k⟩, hP, ?_, PySem.W.CodeHd.of h5 h6⟩
  cases hl : K.lookup P with
  | none => rfl
  | some u =>
    exfalso
    have e := X _ _ hl
    rw [hP] at e
    cases e
    exact absurd (List.all_eq_true.mp nt _ (PySem.W.mem_of_lookupK hl)) Bool.false_ne_true
theorem all_at {l : PySem.W.OpenLaw} {w : World} {K : PySem.W.Frag} {h : Heap} {mg mb : Str → Option Value} {fa : Addr} {q : Program} {loose : List Str} {mean : ExcName → Option Value} {t_MOST_PEOPLE t_MOST_PRICE t_MOST_CHEAP : _} (X : K.In h) (T : Top q loose mean mg mb h) (hfa : mg "law" = some (.ref fa)) (nt : PySem.W.noTabs K = true)
    (r_is_lot : (recsOf q).any (fun e => e.name == ("is_lot" : Str)) = true) (r_is_grouping : (recsOf q).any (fun e => e.name == ("is_grouping" : Str)) = true) (r_size_of : (recsOf q).any (fun e => e.name == ("size_of" : Str)) = true) (r_are_steps : (recsOf q).any (fun e => e.name == ("are_steps" : Str)) = true) (r_are_prices : (recsOf q).any (fun e => e.name == ("are_prices" : Str)) = true) (r_price_of : (recsOf q).any (fun e => e.name == ("price_of" : Str)) = true) (r_shows_price_paper : (recsOf q).any (fun e => e.name == ("shows_price_paper" : Str)) = true)
    (D_is_in : Dn K "is_in" s_is_in) (D_is_lot : Dn K "is_lot" s_is_lot) (D_is_grouping : Dn K "is_grouping" s_is_grouping) (D_size_of : Dn K "size_of" s_size_of) (D_need_grouping : Dn K "need_grouping" s_need_grouping) (D_all_groupings : Dn K "all_groupings" s_all_groupings) (D_is_step : Dn K "is_step" s_is_step) (D_lot_with : Dn K "lot_with" s_lot_with) (D_joined : Dn K "joined" s_joined) (D_left : Dn K "left" s_left) (D_stepped : Dn K "stepped" s_stepped) (D_are_steps : Dn K "are_steps" s_are_steps) (D_trace : Dn K "trace" s_trace) (D_all_steps : Dn K "all_steps" s_all_steps) (D_need_two : Dn K "need_two" s_need_two) (D_are_prices : Dn K "are_prices" s_are_prices) (D_need_prices : Dn K "need_prices" s_need_prices) (D_price_table : Dn K "price_table" s_price_table) (D_least_rows : Dn K "least_rows" s_least_rows) (D_need_priced : Dn K "need_priced" s_need_priced) (D_cheap_row : Dn K "cheap_row" s_cheap_row) (D_price_of : Dn K "price_of" s_price_of) (D_shows_cheap_row : Dn K "shows_cheap_row" s_shows_cheap_row) (D_worths : Dn K "worths" s_worths) (D_shows_price_paper : Dn K "shows_price_paper" s_shows_price_paper) (D_law_taken : Dn K "_law_taken" s_law_taken) (D_law_pick : Dn K "_law_pick" s_law_pick) (D_law_alike : Dn K "_law_alike" s_law_alike) (D_law_lots : Dn K "_law_lots" s_law_lots) (D_law_labels : Dn K "_law_labels" s_law_labels) (D_law_grouping : Dn K "_law_grouping" s_law_grouping) (D_law_step : Dn K "_law_step" s_law_step) (D_law_done : Dn K "_law_done" s_law_done) (D_law_steps : Dn K "_law_steps" s_law_steps) (D_law_row : Dn K "_law_row" s_law_row) (D_law_groupings : Dn K "_law_groupings" s_law_groupings) (D_law_papers : Dn K "_law_papers" s_law_papers) (D_law : Dn K "law" s_law)
    (z_len : PySem.W.nsIn K mainGlobals "len" = some none) (z_range : PySem.W.nsIn K mainGlobals "range" = some none) (z_isinstance : PySem.W.nsIn K mainGlobals "isinstance" = some none) (z_tuple : PySem.W.nsIn K mainGlobals "tuple" = some none) (z_list : PySem.W.nsIn K mainGlobals "list" = some none) (z_int : PySem.W.nsIn K mainGlobals "int" = some none) (z_bool : PySem.W.nsIn K mainGlobals "bool" = some none) (z_str : PySem.W.nsIn K mainGlobals "str" = some none) (z_sorted : PySem.W.nsIn K mainGlobals "sorted" = some none) (z_sum : PySem.W.nsIn K mainGlobals "sum" = some none) (z_all : PySem.W.nsIn K mainGlobals "all" = some none) (z_any : PySem.W.nsIn K mainGlobals "any" = some none) (z_enumerate : PySem.W.nsIn K mainGlobals "enumerate" = some none) (z_dict : PySem.W.nsIn K mainGlobals "dict" = some none) (z_zip : PySem.W.nsIn K mainGlobals "zip" = some none) (z_set : PySem.W.nsIn K mainGlobals "set" = some none) (z_max : PySem.W.nsIn K mainGlobals "max" = some none)
    (e_MOST_PEOPLE : PySem.W.nsIn K mainGlobals "MOST_PEOPLE" = some (some (.int 6 t_MOST_PEOPLE))) (e_MOST_PRICE : PySem.W.nsIn K mainGlobals "MOST_PRICE" = some (some (.int 1000 t_MOST_PRICE))) (e_MOST_CHEAP : PySem.W.nsIn K mainGlobals "MOST_CHEAP" = some (some (.int 300 t_MOST_CHEAP))) : LamX.LawAtS l w K CX0 15 63 "_law_script" mg fa h := by
  have N := T.g
  have Mb : Bn mg := ⟨PySem.W.mg_none_of X N z_len, PySem.W.mg_none_of X N z_range, PySem.W.mg_none_of X N z_isinstance, PySem.W.mg_none_of X N z_tuple, PySem.W.mg_none_of X N z_list, PySem.W.mg_none_of X N z_int, PySem.W.mg_none_of X N z_bool, PySem.W.mg_none_of X N z_str, PySem.W.mg_none_of X N z_sorted, PySem.W.mg_none_of X N z_sum, PySem.W.mg_none_of X N z_all, PySem.W.mg_none_of X N z_any, PySem.W.mg_none_of X N z_enumerate, PySem.W.mg_none_of X N z_dict, PySem.W.mg_none_of X N z_zip, PySem.W.mg_none_of X N z_set, PySem.W.mg_none_of X N z_max⟩
  have Mc : Cn mg := ⟨⟨_, PySem.W.mg_of X N e_MOST_PEOPLE⟩, ⟨_, PySem.W.mg_of X N e_MOST_PRICE⟩, ⟨_, PySem.W.mg_of X N e_MOST_CHEAP⟩⟩
  obtain ⟨c_is_lot, P_is_lot, F_is_lot, t1_is_lot, t2_is_lot, t3_is_lot⟩ := tab_at X T nt r_is_lot D_is_lot
  obtain ⟨c_is_grouping, P_is_grouping, F_is_grouping, t1_is_grouping, t2_is_grouping, t3_is_grouping⟩ := tab_at X T nt r_is_grouping D_is_grouping
  obtain ⟨c_size_of, P_size_of, F_size_of, t1_size_of, t2_size_of, t3_size_of⟩ := tab_at X T nt r_size_of D_size_of
  obtain ⟨c_are_steps, P_are_steps, F_are_steps, t1_are_steps, t2_are_steps, t3_are_steps⟩ := tab_at X T nt r_are_steps D_are_steps
  obtain ⟨c_are_prices, P_are_prices, F_are_prices, t1_are_prices, t2_are_prices, t3_are_prices⟩ := tab_at X T nt r_are_prices D_are_prices
  obtain ⟨c_price_of, P_price_of, F_price_of, t1_price_of, t2_price_of, t3_price_of⟩ := tab_at X T nt r_price_of D_price_of
  obtain ⟨c_shows_price_paper, P_shows_price_paper, F_shows_price_paper, t1_shows_price_paper, t2_shows_price_paper, t3_shows_price_paper⟩ := tab_at X T nt r_shows_price_paper D_shows_price_paper
  refine law_at hfa Mb Mc (D_is_in.df X N) F_is_lot F_is_grouping F_size_of (D_need_grouping.df X N) (D_all_groupings.df X N) (D_is_step.df X N) (D_lot_with.df X N) (D_joined.df X N) (D_left.df X N) (D_stepped.df X N) F_are_steps (D_trace.df X N) (D_all_steps.df X N) (D_need_two.df X N) F_are_prices (D_need_prices.df X N) (D_price_table.df X N) (D_least_rows.df X N) (D_need_priced.df X N) (D_cheap_row.df X N) F_price_of (D_shows_cheap_row.df X N) (D_worths.df X N) F_shows_price_paper (D_law_taken.df X N) (D_law_pick.df X N) (D_law_alike.df X N) (D_law_lots.df X N) (D_law_labels.df X N) (D_law_grouping.df X N) (D_law_step.df X N) (D_law_done.df X N) (D_law_steps.df X N) (D_law_row.df X N) (D_law_groupings.df X N) (D_law_papers.df X N) (D_law.df X N) (List.forall_mem_cons.mpr ⟨t1_is_lot, List.forall_mem_cons.mpr ⟨t1_is_grouping, List.forall_mem_cons.mpr ⟨t1_size_of, List.forall_mem_cons.mpr ⟨t1_are_steps, List.forall_mem_cons.mpr ⟨t1_are_prices, List.forall_mem_cons.mpr ⟨t1_price_of, List.forall_mem_cons.mpr ⟨t1_shows_price_paper, fun _ z => nomatch z⟩⟩⟩⟩⟩⟩⟩) (List.forall_mem_cons.mpr ⟨t2_is_lot, List.forall_mem_cons.mpr ⟨t2_is_grouping, List.forall_mem_cons.mpr ⟨t2_size_of, List.forall_mem_cons.mpr ⟨t2_are_steps, List.forall_mem_cons.mpr ⟨t2_are_prices, List.forall_mem_cons.mpr ⟨t2_price_of, List.forall_mem_cons.mpr ⟨t2_shows_price_paper, fun _ z => nomatch z⟩⟩⟩⟩⟩⟩⟩) (List.forall_mem_cons.mpr ⟨t3_is_lot, List.forall_mem_cons.mpr ⟨t3_is_grouping, List.forall_mem_cons.mpr ⟨t3_size_of, List.forall_mem_cons.mpr ⟨t3_are_steps, List.forall_mem_cons.mpr ⟨t3_are_prices, List.forall_mem_cons.mpr ⟨t3_price_of, List.forall_mem_cons.mpr ⟨t3_shows_price_paper, fun _ z => nomatch z⟩⟩⟩⟩⟩⟩⟩)
theorem walk_T {l : PySem.W.OpenLaw} {n k : Nat} {q : Program} {loose : List Str} {XP : (Str → Option Value) → Heap → Prop} {YP : World → Heap → Prop} {d : DefRec} {K : Params → PySem.W.Frag} {x : Str}
    (hn : l.most = some n) (hn2 : n ≤ sizeLine) (hdf : d.params.defaults = []) (hr : Room k callerA) (hY : ∀ (w : World) (h : Heap), YP w h → (K w.params).In h)
    (F : ∀ (w : World) (mg mb : Str → Option Value) (fa : Addr) (h : Heap) (mean : ExcName → Option Value), (K w.params).In h → Top q (PySem.W.looseW q loose) mean mg mb h → mg d.name = some (.ref fa) → LamX.LawAtS l w (K w.params) CX0 k n x mg fa h) :
    PySem.W.WalkO q loose XP YP l.row.toRowW d [] (fun f vs => PySem.call f vs) := by
  refine Att.attach_callB hn hdf fun w s₀ s₁ mg mb fa o pm cd doc a vs ns G Y ho hd hcd hmg hobj hints hlen hbits hg => ?_
  have KX := hY w _ Y
  obtain ⟨fd, cs, sp, hT, nT, C, hb, hsp, hF⟩ := F w mg mb fa _ _ KX G.T hmg
  exact LamX.law_callTs KX G.T.g G.T.b G.T.builtins G.T.nolimit hg hT nT C G.T.bmain hobj hints (Nat.le_trans hlen hn2) hr hF hb (fun H hH hS => hsp H a ns hlen hbits hH hS) fun H e s' z => z
end Gd

open PySem PySem.W PyProof.Rows
set_option maxRecDepth 100000 in
set_option maxHeartbeats 0 in
theorem PySem.Challenge.cw_groupdeeds_k10_whole_prices_holds : PySem.Challenge.rw_groupdeeds_k10_whole_prices.Holds := by
  w_on; o_law; k_head; (case hw => w_witness2)
  k_fill
  refine Gd.walk_T (l := PySem.Challenge.rw_groupdeeds_k10_whole_prices) (n := 63) (k := 15) (x := "_law_script") rfl (by decide) rfl ⟨rfl, by decide, by decide⟩ (fun w h Y => PySem.W.kIn_of Y) ?F
  intro w mg mb fa h mean KX T hmg
  refine' Gd.all_at KX T hmg ?nt ?r0 ?r1 ?r2 ?r3 ?r4 ?r5 ?r6 ?D0 ?D1 ?D2 ?D3 ?D4 ?D5 ?D6 ?D7 ?D8 ?D9 ?D10 ?D11 ?D12 ?D13 ?D14 ?D15 ?D16 ?D17 ?D18 ?D19 ?D20 ?D21 ?D22 ?D23 ?D24 ?D25 ?D26 ?D27 ?D28 ?D29 ?D30 ?D31 ?D32 ?D33 ?D34 ?D35 ?D36 ?D37 ?z0 ?z1 ?z2 ?z3 ?z4 ?z5 ?z6 ?z7 ?z8 ?z9 ?z10 ?z11 ?z12 ?z13 ?z14 ?z15 ?z16 ?e0 ?e1 ?e2
  (case nt => kernel_rfl)
  (case r0 => kernel_rfl)
  (case r1 => kernel_rfl)
  (case r2 => kernel_rfl)
  (case r3 => kernel_rfl)
  (case r4 => kernel_rfl)
  (case r5 => kernel_rfl)
  (case r6 => kernel_rfl)
  (case D0 => (refine' Gd.dn_mk ?a ?l ?c ?k; (case a => k_is); (case l => k_is); (case c => k_is); (case k => k_is)))
  (case D1 => (refine' Gd.dn_mk ?a ?l ?c ?k; (case a => k_is); (case l => k_is); (case c => k_is); (case k => k_is)))
  (case D2 => (refine' Gd.dn_mk ?a ?l ?c ?k; (case a => k_is); (case l => k_is); (case c => k_is); (case k => k_is)))
  (case D3 => (refine' Gd.dn_mk ?a ?l ?c ?k; (case a => k_is); (case l => k_is); (case c => k_is); (case k => k_is)))
  (case D4 => (refine' Gd.dn_mk ?a ?l ?c ?k; (case a => k_is); (case l => k_is); (case c => k_is); (case k => k_is)))
  (case D5 => (refine' Gd.dn_mk ?a ?l ?c ?k; (case a => k_is); (case l => k_is); (case c => k_is); (case k => k_is)))
  (case D6 => (refine' Gd.dn_mk ?a ?l ?c ?k; (case a => k_is); (case l => k_is); (case c => k_is); (case k => k_is)))
  (case D7 => (refine' Gd.dn_mk ?a ?l ?c ?k; (case a => k_is); (case l => k_is); (case c => k_is); (case k => k_is)))
  (case D8 => (refine' Gd.dn_mk ?a ?l ?c ?k; (case a => k_is); (case l => k_is); (case c => k_is); (case k => k_is)))
  (case D9 => (refine' Gd.dn_mk ?a ?l ?c ?k; (case a => k_is); (case l => k_is); (case c => k_is); (case k => k_is)))
  (case D10 => (refine' Gd.dn_mk ?a ?l ?c ?k; (case a => k_is); (case l => k_is); (case c => k_is); (case k => k_is)))
  (case D11 => (refine' Gd.dn_mk ?a ?l ?c ?k; (case a => k_is); (case l => k_is); (case c => k_is); (case k => k_is)))
  (case D12 => (refine' Gd.dn_mk ?a ?l ?c ?k; (case a => k_is); (case l => k_is); (case c => k_is); (case k => k_is)))
  (case D13 => (refine' Gd.dn_mk ?a ?l ?c ?k; (case a => k_is); (case l => k_is); (case c => k_is); (case k => k_is)))
  (case D14 => (refine' Gd.dn_mk ?a ?l ?c ?k; (case a => k_is); (case l => k_is); (case c => k_is); (case k => k_is)))
  (case D15 => (refine' Gd.dn_mk ?a ?l ?c ?k; (case a => k_is); (case l => k_is); (case c => k_is); (case k => k_is)))
  (case D16 => (refine' Gd.dn_mk ?a ?l ?c ?k; (case a => k_is); (case l => k_is); (case c => k_is); (case k => k_is)))
  (case D17 => (refine' Gd.dn_mk ?a ?l ?c ?k; (case a => k_is); (case l => k_is); (case c => k_is); (case k => k_is)))
  (case D18 => (refine' Gd.dn_mk ?a ?l ?c ?k; (case a => k_is); (case l => k_is); (case c => k_is); (case k => k_is)))
  (case D19 => (refine' Gd.dn_mk ?a ?l ?c ?k; (case a => k_is); (case l => k_is); (case c => k_is); (case k => k_is)))
  (case D20 => (refine' Gd.dn_mk ?a ?l ?c ?k; (case a => k_is); (case l => k_is); (case c => k_is); (case k => k_is)))
  (case D21 => (refine' Gd.dn_mk ?a ?l ?c ?k; (case a => k_is); (case l => k_is); (case c => k_is); (case k => k_is)))
  (case D22 => (refine' Gd.dn_mk ?a ?l ?c ?k; (case a => k_is); (case l => k_is); (case c => k_is); (case k => k_is)))
  (case D23 => (refine' Gd.dn_mk ?a ?l ?c ?k; (case a => k_is); (case l => k_is); (case c => k_is); (case k => k_is)))
  (case D24 => (refine' Gd.dn_mk ?a ?l ?c ?k; (case a => k_is); (case l => k_is); (case c => k_is); (case k => k_is)))
  (case D25 => (refine' Gd.dn_mk ?a ?l ?c ?k; (case a => k_is); (case l => k_is); (case c => k_is); (case k => k_is)))
  (case D26 => (refine' Gd.dn_mk ?a ?l ?c ?k; (case a => k_is); (case l => k_is); (case c => k_is); (case k => k_is)))
  (case D27 => (refine' Gd.dn_mk ?a ?l ?c ?k; (case a => k_is); (case l => k_is); (case c => k_is); (case k => k_is)))
  (case D28 => (refine' Gd.dn_mk ?a ?l ?c ?k; (case a => k_is); (case l => k_is); (case c => k_is); (case k => k_is)))
  (case D29 => (refine' Gd.dn_mk ?a ?l ?c ?k; (case a => k_is); (case l => k_is); (case c => k_is); (case k => k_is)))
  (case D30 => (refine' Gd.dn_mk ?a ?l ?c ?k; (case a => k_is); (case l => k_is); (case c => k_is); (case k => k_is)))
  (case D31 => (refine' Gd.dn_mk ?a ?l ?c ?k; (case a => k_is); (case l => k_is); (case c => k_is); (case k => k_is)))
  (case D32 => (refine' Gd.dn_mk ?a ?l ?c ?k; (case a => k_is); (case l => k_is); (case c => k_is); (case k => k_is)))
  (case D33 => (refine' Gd.dn_mk ?a ?l ?c ?k; (case a => k_is); (case l => k_is); (case c => k_is); (case k => k_is)))
  (case D34 => (refine' Gd.dn_mk ?a ?l ?c ?k; (case a => k_is); (case l => k_is); (case c => k_is); (case k => k_is)))
  (case D35 => (refine' Gd.dn_mk ?a ?l ?c ?k; (case a => k_is); (case l => k_is); (case c => k_is); (case k => k_is)))
  (case D36 => (refine' Gd.dn_mk ?a ?l ?c ?k; (case a => k_is); (case l => k_is); (case c => k_is); (case k => k_is)))
  (case D37 => (refine' Gd.dn_mk ?a ?l ?c ?k; (case a => k_is); (case l => k_is); (case c => k_is); (case k => k_is)))
  (case z0 => k_is)
  (case z1 => k_is)
  (case z2 => k_is)
  (case z3 => k_is)
  (case z4 => k_is)
  (case z5 => k_is)
  (case z6 => k_is)
  (case z7 => k_is)
  (case z8 => k_is)
  (case z9 => k_is)
  (case z10 => k_is)
  (case z11 => k_is)
  (case z12 => k_is)
  (case z13 => k_is)
  (case z14 => k_is)
  (case z15 => k_is)
  (case z16 => k_is)
  (case e0 => k_is)
  (case e1 => k_is)
  (case e2 => k_is)
