import PyProof.Rows.All
import Wide.All
import OpenK.AllK
import Wide.FinOn
import HandS.ForMost
import HandS.IsInst
import KE.KDictKeyed
import HandS.TupAny
import HandS.TupMul
import HandS.Style
import HandS.Sort
import HandS.Zip
import KE.GoesMore
import KE.GoesEnum
import KE.GoesZip
import HandS.Conv
import HandS.RepeatKit
import HandS.DictComp
import HandS.TupSets
import KE.KeyNested
import KE.SortData
import HandS.SortOrd
import HandS.SortKw
import KE.SortKeyHeap
import HandS.BoundList
import HandS.Codes
import KE.KStateDown
import HandS.Defaults
import HandS.Head0
import HandS.Head1
import HandS.Head2
import HandS.HeadEnd
import HandS.HeadHook1
import HandS.HeadHook2
import HandS.Head3
import PySem.Challenge.RW_patchrealm_k84_game_papers_bent
section
set_option Elab.async false
set_option linter.all false
set_option maxRecDepth 100000
set_option maxHeartbeats 4000000
namespace Mini
open PySem PySem.Spec PyProof.Rows L2

/-- values: what never changes stands within, what may change by its number in the store -/
inductive D where
  | non | bl (b : Bool) | int (i : Int) | str (x : Str) | tup (xs : List D) | rng (lo hi : Int) | obj (n : Nat) | rol (ns : List Int)
instance : Inhabited D := ⟨.non⟩

/-- what stands in the store -/
inductive O where
  | lst (xs : List D)
  | dct (kvs : List (D × D))
  | ins (c : Str) (fs : List (Str × D))
instance : Inhabited O := ⟨.lst []⟩

abbrev Sto := List O
inductive Res (α : Type) where
  | val (a : α) (S : Sto)
  | exc (c : Str) (fs : List (Str × D)) (S : Sto)
abbrev M (α : Type) := Sto → Option (Res α)
abbrev Env' := List (Option D)

def ret {α : Type} (a : α) : M α := fun S => some (.val a S)
def stuck {α : Type} : M α := fun _ => none
def bnd {α β : Type} (m : M α) (k : α → M β) : M β := fun S =>
  match m S with
  | none => none
  | some (.exc c fs S1) => some (.exc c fs S1)
  | some (.val a S1) => k a S1

/-- the classes of the text by their names -/
structure Gl where
  P : Program
  w : World
  K : PySem.W.Frag
  cls : Str → Option Addr
  att : Str → Str → Bool

def Imm : HO → Prop
  | .tup _ => True
  | .rng _ _ => True
  | .frz _ _ => True
  | _ => False

mutual
inductive RV (K : PySem.W.Frag) (ρ : List Addr) (H : Hp) : D → V → Prop where
  | non : RV K ρ H .non .non
  | bl (b : Bool) : RV K ρ H (.bl b) (.bl b)
  | int (i : Int) : RV K ρ H (.int i) (.int i)
  | str (x : Str) : RV K ρ H (.str x) (.str x)
  | tup {a : Addr} {xs : List D} {vs : List V} (h : H a = some (.tup vs)) (r : RVs K ρ H xs vs) : RV K ρ H (.tup xs) (.ref a)
  | rng {a : Addr} {lo hi : Int} (h : H a = some (.rng lo hi)) : RV K ρ H (.rng lo hi) (.ref a)
  | obj {a : Addr} {n : Nat} (h : ρ[n]? = some a) : RV K ρ H (.obj n) (.ref a)
  | rolF {a : Addr} {ns : List Int} {o : Obj} (h : H a = some (.frz o (.lst (ns.map V.int)))) : RV K ρ H (.rol ns) (.ref a)
  | rolK {a : Addr} {ns : List Int} (o : Obj) (its : Array Value) (n : Nat) (h : K.lookup a = some o ∧ o.cls = .type "list" ∧ o.dict = none ∧ o.data = .seq its n ∧ its.size ≤ sizeLine ∧ Vals (ns.map V.int) its.toList) : RV K ρ H (.rol ns) (.ref a)
inductive RVs (K : PySem.W.Frag) (ρ : List Addr) (H : Hp) : List D → List V → Prop where
  | nil : RVs K ρ H [] []
  | cons {d : D} {v : V} {ds : List D} {vs : List V} (h : RV K ρ H d v) (t : RVs K ρ H ds vs) : RVs K ρ H (d :: ds) (v :: vs)
end

/-- from one moment to a later one: the store grows, what is not of the store stays -/
structure Step (ρ : List Addr) (H : Hp) (ρ' : List Addr) (H' : Hp) : Prop where
  grow : ∃ t, ρ' = ρ ++ t ∧ ∀ a ∈ t, H a = none
  imm : ∀ a o, H a = some o → Imm o → H' a = some o
  out : ∀ a o, H a = some o → a ∉ ρ → H' a = some o
  trk : ∀ a, H' a = none → H a = none

section
variable {K : PySem.W.Frag} {ρ ρ1 ρ2 : List Addr} {H H1 H2 : Hp}
theorem Step.refl (ρ : List Addr) (H : Hp) : Step ρ H ρ H := ⟨⟨[], by simp, by simp⟩, fun _ _ h _ => h, fun _ _ h _ => h, fun _ h => h⟩
theorem Step.trans (a : Step ρ H ρ1 H1) (b : Step ρ1 H1 ρ2 H2) : Step ρ H ρ2 H2 := by
  obtain ⟨t, rfl, ht⟩ := a.grow
  obtain ⟨u, rfl, hu⟩ := b.grow
  refine ⟨⟨t ++ u, by simp, fun x hx => ?_⟩, fun x o h i => b.imm x o (a.imm x o h i) i, fun x o h n => ?_, fun x h => a.trk x (b.trk x h)⟩
  · rcases List.mem_append.mp hx with hx | hx
    · exact ht x hx
    · exact a.trk x (hu x hx)
  · refine b.out x o (a.out x o h n) fun hm => ?_
    rcases List.mem_append.mp hm with hm | hm
    · exact n hm
    · rw [ht x hm] at h; cases h
theorem Step.get (a : Step ρ H ρ1 H1) {n : Nat} {x : Addr} (h : ρ[n]? = some x) : ρ1[n]? = some x := by
  obtain ⟨t, rfl, _⟩ := a.grow
  obtain ⟨hl, e⟩ := List.getElem?_eq_some_iff.mp h
  rw [List.getElem?_append_left hl]; exact h
/-- what a value's standing leans on -/
structure Ext (ρ : List Addr) (H : Hp) (ρ' : List Addr) (H' : Hp) : Prop where
  get : ∀ (n : Nat) (x : Addr), ρ[n]? = some x → ρ'[n]? = some x
  imm : ∀ a o, H a = some o → Imm o → H' a = some o
theorem Step.ext (a : Step ρ H ρ1 H1) : Ext ρ H ρ1 H1 := ⟨fun _ _ h => a.get h, a.imm⟩
theorem Ext.trans {ρ' : List Addr} {H' : Hp} (a : Ext ρ H ρ1 H1) (b : Ext ρ1 H1 ρ' H') : Ext ρ H ρ' H' := ⟨fun n x h => b.get n x (a.get n x h), fun x o h i => b.imm x o (a.imm x o h i) i⟩
theorem Ext.refl (ρ : List Addr) (H : Hp) : Ext ρ H ρ H := ⟨fun _ _ h => h, fun _ _ h _ => h⟩
theorem Ext.push {p : Addr} : Ext ρ H (ρ ++ [p]) H := ⟨fun n x h => by
  obtain ⟨hl, e⟩ := List.getElem?_eq_some_iff.mp h
  rw [List.getElem?_append_left hl]; exact h, fun _ _ h _ => h⟩
mutual
theorem RV.ext {d : D} {v : V} (r : RV K ρ H d v) (a : Ext ρ H ρ1 H1) : RV K ρ1 H1 d v := match d, v, r with
  | _, _, .non => .non
  | _, _, .bl b => .bl b
  | _, _, .int i => .int i
  | _, _, .str x => .str x
  | _, _, .tup h r => .tup (a.imm _ _ h trivial) (RVs.ext r a)
  | _, _, .rng h => .rng (a.imm _ _ h trivial)
  | _, _, .obj h => .obj (a.get _ _ h)
  | _, _, .rolF h => .rolF (a.imm _ _ h trivial)
  | _, _, .rolK o its n h => .rolK o its n h
theorem RVs.ext {ds : List D} {vs : List V} (r : RVs K ρ H ds vs) (a : Ext ρ H ρ1 H1) : RVs K ρ1 H1 ds vs := match ds, vs, r with
  | _, _, .nil => .nil
  | _, _, .cons h t => .cons (RV.ext h a) (RVs.ext t a)
end
theorem RV.mono {d : D} {v : V} (r : RV K ρ H d v) (a : Step ρ H ρ1 H1) : RV K ρ1 H1 d v := r.ext a.ext
theorem RVs.mono {d : List D} {v : List V} (r : RVs K ρ H d v) (a : Step ρ H ρ1 H1) : RVs K ρ1 H1 d v := r.ext a.ext
theorem RVs.length : ∀ {ds : List D} {vs : List V}, RVs K ρ H ds vs → ds.length = vs.length
  | _, _, .nil => rfl
  | _, _, .cons _ t => by simp [RVs.length t]
theorem RVs.append : ∀ {ds es : List D} {vs ws : List V}, RVs K ρ H ds vs → RVs K ρ H es ws → RVs K ρ H (ds ++ es) (vs ++ ws)
  | _, _, _, _, .nil, s => s
  | _, _, _, _, .cons r t, s => .cons r (RVs.append t s)
theorem RVs.get : ∀ {ds : List D} {vs : List V} {i : Nat} {d : D}, RVs K ρ H ds vs → ds[i]? = some d → ∃ v, vs[i]? = some v ∧ RV K ρ H d v
  | _, _, _, _, .nil, e => by simp at e
  | _, _, 0, _, .cons r _, e => by simp at e; subst e; exact ⟨_, rfl, r⟩
  | _, _, i + 1, d, .cons _ t, e => by
    obtain ⟨v, h1, h2⟩ := RVs.get (i := i) (d := d) t (by simpa using e)
    exact ⟨v, by simpa using h1, h2⟩
theorem RVs.get2 : ∀ {ds : List D} {vs : List V} {i : Nat} {v : V}, RVs K ρ H ds vs → vs[i]? = some v → ∃ d, ds[i]? = some d ∧ RV K ρ H d v
  | _, _, _, _, .nil, e => by simp at e
  | _, _, 0, _, .cons r _, e => by simp at e; subst e; exact ⟨_, rfl, r⟩
  | _, _, i + 1, d, .cons _ t, e => by
    obtain ⟨v, h1, h2⟩ := RVs.get2 (i := i) (v := d) t (by simpa using e)
    exact ⟨v, by simpa using h1, h2⟩
theorem RVs.take : ∀ {ds : List D} {vs : List V} (n : Nat), RVs K ρ H ds vs → RVs K ρ H (ds.take n) (vs.take n)
  | _, _, 0, _ => .nil
  | _, _, _ + 1, .nil => .nil
  | _, _, n + 1, .cons r t => .cons r (RVs.take n t)
theorem RVs.drop : ∀ {ds : List D} {vs : List V} (n : Nat), RVs K ρ H ds vs → RVs K ρ H (ds.drop n) (vs.drop n)
  | _, _, 0, r => r
  | _, _, _ + 1, .nil => .nil
  | _, _, n + 1, .cons _ t => RVs.drop n t
theorem RVs.set {d : D} {v : V} (r : RV K ρ H d v) : ∀ {ds : List D} {vs : List V} (n : Nat), RVs K ρ H ds vs → RVs K ρ H (ds.set n d) (vs.set n v)
  | _, _, _, .nil => .nil
  | _, _, 0, .cons _ t => .cons r t
  | _, _, n + 1, .cons q t => .cons q (RVs.set r n t)
theorem RVs.ints : ∀ {ns : List Int} {vs : List V}, RVs K ρ H (ns.map D.int) vs → vs = ns.map V.int
  | [], _, .nil => rfl
  | _ :: _, _, .cons h t => by cases h; simp [RVs.ints t]
theorem RVs.of_ints : ∀ ns : List Int, RVs K ρ H (ns.map D.int) (ns.map V.int)
  | [] => .nil
  | n :: ns => .cons (.int n) (RVs.of_ints ns)


/-- attributes -/
def RF (K : PySem.W.Frag) (ρ : List Addr) (H : Hp) (fs : List (Str × D)) (vfs : List (Str × V)) : Prop := fs.map (·.1) = vfs.map (·.1) ∧ RVs K ρ H (fs.map (·.2)) (vfs.map (·.2))

/-! ### dicts -/
mutual
def toKey : D → Option NestedKey
  | .non => some .none
  | .bl b => some (.num (if b = true then 1 else 0))
  | .int i => some (.num i)
  | .str x => some (.text x)
  | .tup xs => (toKeys xs).map NestedKey.tup
  | .rng _ _ => none
  | .obj _ => none
  | .rol _ => none
def toKeys : List D → Option (List NestedKey)
  | [] => some []
  | d :: ds => match toKey d, toKeys ds with
    | some k, some ks => some (k :: ks)
    | _, _ => none
end
/-- a dict by its entries -/
abbrev dN (a : Addr) (es : Array DictEntry) (ep : Nat) : HO := .ext fun h => h.DictRaw a es ep
inductive ER (K : PySem.W.Frag) (ρ : List Addr) (H : Hp) : List (D × D) → List (NestedKey × Addr × Value) → Prop where
  | nil : ER K ρ H [] []
  | cons {d y : D} {k : NestedKey} {b : Addr} {u : Value} {z : V} {kvs : List (D × D)} {xs : List (NestedKey × Addr × Value)} (hk : toKey d = some k) (hd : k.depth ≤ 8) (rk : RV K ρ H d (.ref b)) (rz : RV K ρ H y z) (ru : RelV z u) (t : ER K ρ H kvs xs) : ER K ρ H ((d, y) :: kvs) ((k, b, u) :: xs)
theorem ER.ext {kvs : List (D × D)} {xs : List (NestedKey × Addr × Value)} (r : ER K ρ H kvs xs) (a : Ext ρ H ρ1 H1) : ER K ρ1 H1 kvs xs := by
  induction r with
  | nil => exact .nil
  | cons hk hd rk rz ru _ ih => exact .cons hk hd (rk.ext a) (rz.ext a) ru ih
theorem ER.len {kvs : List (D × D)} {xs : List (NestedKey × Addr × Value)} (r : ER K ρ H kvs xs) : kvs.length = xs.length := by
  induction r with
  | nil => rfl
  | cons _ _ _ _ _ _ ih => simp [ih]
structure RDct (G : Gl) (ρ : List Addr) (H : Hp) (a : Addr) (kvs : List (D × D)) (es : Array DictEntry) (xs : List (NestedKey × Addr × Value)) : Prop where
  sys : (a == sysModules) = false
  es : es.toList = xs.map (entryOfKey (nestedKind G.P G.w))
  nd : (xs.map (·.1)).Nodup
  er : ER G.K ρ H kvs xs

def RO (G : Gl) (ρ : List Addr) (H : Hp) (a : Addr) : O → Prop
  | .lst xs => ∃ vs, H a = some (.lst vs) ∧ RVs G.K ρ H xs vs
  | .dct kvs => ∃ es ep xs, H a = some (dN a es ep) ∧ RDct G ρ H a kvs es xs
  | .ins c fs => ∃ C dx vfs, G.cls c = some C ∧ H a = some (.ins C dx vfs) ∧ RF G.K ρ H fs vfs
theorem RO.tracked {G : Gl} {a : Addr} : ∀ {o : O}, RO G ρ H a o → ∃ u, H a = some u ∧ ¬ Imm u
  | .lst _, ⟨_, h, _⟩ => ⟨_, h, id⟩
  | .dct _, ⟨_, _, _, h, _⟩ => ⟨_, h, id⟩
  | .ins _ _, ⟨_, _, _, _, h, _⟩ => ⟨_, h, id⟩
theorem RO.ext {G : Gl} {a : Addr} (st : Ext ρ H ρ1 H1) (e : H1 a = H a) : ∀ {o : O}, RO G ρ H a o → RO G ρ1 H1 a o
  | .lst _, ⟨vs, h, r⟩ => ⟨vs, e.trans h, r.ext st⟩
  | .dct _, ⟨es, ep, xs, h, r⟩ => ⟨es, ep, xs, e.trans h, r.sys, r.es, r.nd, r.er.ext st⟩
  | .ins _ _, ⟨C, dx, vfs, h0, h, r⟩ => ⟨C, dx, vfs, h0, e.trans h, r.1, r.2.ext st⟩

structure Rep (G : Gl) (ρ : List Addr) (H : Hp) (S : Sto) : Prop where
  len : ρ.length = S.length
  nd : ρ.Nodup
  ob : ∀ (n : Nat) (o : O), S[n]? = some o → ∃ a, ρ[n]? = some a ∧ RO G ρ H a o
theorem Rep.at {G : Gl} {S : Sto} (R : Rep G ρ H S) {n : Nat} {a : Addr} (h : ρ[n]? = some a) : ∃ o, S[n]? = some o ∧ RO G ρ H a o := by
  obtain ⟨hl, e⟩ := List.getElem?_eq_some_iff.mp h
  have hl' : n < S.length := by rw [← R.len]; exact hl
  obtain ⟨b, hb, r⟩ := R.ob n S[n] (by simp [hl'])
  rw [h] at hb; cases hb
  exact ⟨_, by simp [hl'], r⟩
theorem Rep.mem {G : Gl} {S : Sto} (R : Rep G ρ H S) {a : Addr} (h : a ∈ ρ) : ∃ u, H a = some u ∧ ¬ Imm u := by
  obtain ⟨n, hn⟩ := List.mem_iff_getElem?.mp h
  obtain ⟨o, _, r⟩ := R.at hn
  exact r.tracked
/-- something new that is not of the store -/
theorem Step.new {p : Addr} {o : HO} (h : H p = none) : Step ρ H ρ (upd H p o) := by
  refine ⟨⟨[], by simp, by simp⟩, fun a u e _ => ?_, fun a u e _ => ?_, fun a e => ?_⟩
  · rw [upd_ne (ne_of_none e h)]; exact e
  · rw [upd_ne (ne_of_none e h)]; exact e
  · by_cases q : a = p
    · rw [q]; exact h
    · rw [upd_ne q] at e; exact e
theorem Rep.new {G : Gl} {S : Sto} (R : Rep G ρ H S) {p : Addr} {o : HO} (h : H p = none) : Rep G ρ (upd H p o) S := by
  refine ⟨R.len, R.nd, fun n u e => ?_⟩
  obtain ⟨a, ha, r⟩ := R.ob n u e
  obtain ⟨w, hw, _⟩ := r.tracked
  exact ⟨a, ha, r.ext (Step.new h).ext (upd_ne (ne_of_none hw h))⟩
/-- a new object of the store -/
theorem Step.push {p : Addr} (h : H p = none) : Step ρ H (ρ ++ [p]) H := by
  refine ⟨⟨[p], rfl, fun a ha => ?_⟩, fun _ _ e _ => e, fun _ _ e _ => e, fun _ e => e⟩
  rw [List.mem_singleton.mp ha]; exact h
/-- what stands at p (new since H0) goes into the store -/
theorem Rep.push {G : Gl} {S : Sto} (R : Rep G ρ H S) {p : Addr} {o : O} (hp : p ∉ ρ) (r : RO G (ρ ++ [p]) H p o) : Rep G (ρ ++ [p]) H (S ++ [o]) := by
  refine ⟨by simp [R.len], ?_, fun n u e => ?_⟩
  · rw [List.nodup_append]
    refine ⟨R.nd, by simp, fun a ha b hb => ?_⟩
    rw [List.mem_singleton.mp hb]
    intro q; rw [q] at ha; exact hp ha
  · by_cases hn : n < S.length
    · rw [List.getElem?_append_left hn] at e
      obtain ⟨a, ha, r⟩ := R.ob n u e
      refine ⟨a, ?_, r.ext .push rfl⟩
      rw [List.getElem?_append_left (by rw [R.len]; exact hn)]; exact ha
    · have hn' : n = S.length := by
        have := (List.getElem?_eq_some_iff.mp e).1
        simp at this; omega
      subst hn'
      rw [List.getElem?_append_right (Nat.le_refl _)] at e
      simp at e; subst e
      exact ⟨p, by rw [List.getElem?_append_right (by rw [R.len]; exact Nat.le_refl _)]; simp [R.len], r⟩

/-- an object of the store changes -/
theorem Step.write {n : Nat} {a : Addr} {u w : HO} (ha : ρ[n]? = some a) (h : H a = some w) (hi : ¬ Imm w) : Step ρ H ρ (upd H a u) := by
  refine ⟨⟨[], by simp, by simp⟩, fun b o e i => ?_, fun b o e nb => ?_, fun b e => ?_⟩
  · rw [upd_ne (fun q => by subst q; rw [h] at e; cases e; exact hi i)]; exact e
  · rw [upd_ne (fun q => by subst q; exact nb (List.mem_of_getElem? ha))]; exact e
  · by_cases q : b = a
    · rw [q, upd_same] at e; cases e
    · rw [upd_ne q] at e; exact e
theorem Rep.write {G : Gl} {S : Sto} (R : Rep G ρ H S) {n : Nat} {a : Addr} {u w : HO} {o : O} (ha : ρ[n]? = some a) (h : H a = some w) (hi : ¬ Imm w) (r : RO G ρ (upd H a u) a o) : Rep G ρ (upd H a u) (S.set n o) := by
  refine ⟨by simp [R.len], R.nd, fun m v e => ?_⟩
  by_cases q : m = n
  · subst q
    have hl : m < S.length := by rw [← R.len]; exact (List.getElem?_eq_some_iff.mp ha).1
    rw [List.getElem?_set_self hl] at e
    cases e
    exact ⟨a, ha, r⟩
  · rw [List.getElem?_set_ne (Ne.symm q)] at e
    obtain ⟨b, hb, rb⟩ := R.ob m v e
    refine ⟨b, hb, rb.ext (Step.write ha h hi).ext (upd_ne fun z => ?_)⟩
    subst z
    obtain ⟨h1, e1⟩ := List.getElem?_eq_some_iff.mp hb
    obtain ⟨h2, e2⟩ := List.getElem?_eq_some_iff.mp ha
    exact q ((List.getElem_inj R.nd).mp (e1.trans e2.symm))

/-! ### moments of a run -/
/-- the slots -/
def RE (K : PySem.W.Frag) (ρ : List Addr) (H : Hp) (e : Env') (σ : L2.St) : Prop := e.length = σ.length ∧ ∀ (i : Nat) (d : D), e[i]? = some (some d) → ∃ v, σ[i]? = some (some v) ∧ RV K ρ H d v
theorem RE.mono {e : Env'} {σ : L2.St} (r : RE K ρ H e σ) (a : Step ρ H ρ1 H1) : RE K ρ1 H1 e σ := ⟨r.1, fun i d h => let ⟨v, h1, h2⟩ := r.2 i d h; ⟨v, h1, h2.mono a⟩⟩
theorem RE.set {e : Env'} {σ : L2.St} {d : D} {v : V} {i : Nat} (r : RE K ρ H e σ) (h : RV K ρ H d v) : RE K ρ H (e.set i (some d)) (σ.set i (some v)) := by
  refine ⟨by simp [r.1], fun j c hj => ?_⟩
  by_cases q : j = i
  · subst q
    by_cases hl : j < e.length
    · rw [List.getElem?_set_self hl] at hj
      cases hj
      exact ⟨v, by rw [List.getElem?_set_self (by rw [← r.1]; exact hl)], h⟩
    · rw [List.getElem?_eq_none (by simpa using hl)] at hj
      cases hj
  · rw [List.getElem?_set_ne (Ne.symm q)] at hj
    obtain ⟨w, h1, h2⟩ := r.2 j c hj
    exact ⟨w, by rw [List.getElem?_set_ne (Ne.symm q)]; exact h1, h2⟩
end

/-- how results are told: H0 the heap ahead -/
abbrev Rl (α β : Type) := Hp → List Addr → Hp → α → β → Prop
def rD (K : PySem.W.Frag) : Rl D V := fun _ ρ H d v => RV K ρ H d v
def rDs (K : PySem.W.Frag) : Rl (List D) (List V) := fun _ ρ H d v => RVs K ρ H d v
def rB : Rl Bool Bool := fun _ _ _ a b => a = b
/-- a new list that is not of the store -/
def rL (K : PySem.W.Frag) : Rl (List D) V := fun H0 ρ H xs v => ∃ a vs, v = .ref a ∧ H0 a = none ∧ a ∉ ρ ∧ H a = some (.lst vs) ∧ RVs K ρ H xs vs

section
variable {G : Gl} {E : XK} {α β γ δ : Type} {ρ ρ1 : List Addr} {H H0 H1 : Hp} {S : Sto} {e : Env'} {σ : L2.St}
/-- what is wanted of an exception of this class with these attributes -/
def PostX (G : Gl) (E : XK) (ρ : List Addr) (H : Hp) (c : Str) (fs : List (Str × D)) (S : Sto) : Prop :=
  ∀ ρ' H' C dx vfs, Step ρ H ρ' H' → Rep G ρ' H' S → G.cls c = some C → H' dx = some (.xd vfs) → RF G.K ρ' H' fs vfs → E (.ref C) (some dx) H'
def Post (G : Gl) (R : Rl α β) (E : XK) (H0 : Hp) (ρ : List Addr) (H : Hp) (r : Res α) (Q : β → Hp → Prop) : Prop :=
  match r with
  | .val a S' => ∀ ρ' H' b, Step ρ H ρ' H' → Rep G ρ' H' S' → R H0 ρ' H' a b → Q b H'
  | .exc c fs S' => PostX G E ρ H c fs S'
theorem PostX.mono {c : Str} {fs : List (Str × D)} (p : PostX G E ρ H c fs S) (a : Step ρ H ρ1 H1) : PostX G E ρ1 H1 c fs S := fun ρ' H' C dx vfs st => p ρ' H' C dx vfs (a.trans st)
theorem Post.mono {R : Rl α β} {r : Res α} {Q : β → Hp → Prop} (p : Post G R E H0 ρ H r Q) (a : Step ρ H ρ1 H1) : Post G R E H0 ρ1 H1 r Q := by
  cases r with
  | val x S' => exact fun ρ' H' b st => p ρ' H' b (a.trans st)
  | exc c fs S' => exact PostX.mono p a
/-- the reading of a computation -/
def Lf (G : Gl) (R : Rl α β) (E : XK) (m : Env' → M α) : L2.St → Hp → (β → Hp → Prop) → Prop := fun σ H Q =>
  ∃ ρ S e r, Rep G ρ H S ∧ RE G.K ρ H e σ ∧ m e S = some r ∧ Post G R E H ρ H r Q
theorem lf_at {R : Rl α β} {m : Env' → M α} {r : Res α} {Q : β → Hp → Prop} (rep : Rep G ρ H S) (re : RE G.K ρ H e σ) (h : m e S = some r) (p : Post G R E H ρ H r Q) : Lf G R E m σ H Q := ⟨ρ, S, e, r, rep, re, h, p⟩
/-- one part runs, then the rest -/
theorem bind_at {RA : Rl α β} {RC : Rl γ δ} {m : Env' → M α} {k : α → M γ} {r : Res γ} {Q : δ → Hp → Prop} {P : β → Hp → Prop} (rep : Rep G ρ H S) (re : RE G.K ρ H e σ) (h : bnd (m e) k S = some r) (p : Post G RC E H0 ρ H r Q)
    (hk : ∀ ρ1 H1 S1 a x, Step ρ H ρ1 H1 → Rep G ρ1 H1 S1 → RE G.K ρ1 H1 e σ → RA H ρ1 H1 a x → k a S1 = some r → Post G RC E H0 ρ1 H1 r Q → P x H1) : Lf G RA E m σ H P := by
  unfold bnd at h
  cases hm : m e S with
  | none => rw [hm] at h; cases h
  | some q =>
    rw [hm] at h
    refine ⟨ρ, S, e, q, rep, re, hm, ?_⟩
    cases q with
    | exc c fs S1 =>
      simp only [Option.some.injEq] at h
      subst h
      exact p
    | val a S1 => exact fun ρ' H' b st rep' ra => hk ρ' H' S1 a b st rep' (re.mono st) ra h (p.mono st)
end

/-! ### judgements -/
theorem pe_imp {X : Cx} {ex : Expr} {t u : TE} (h : PE X ex t) (w : ∀ σ H Q, u σ H Q → t σ H Q) : PE X ex u := ⟨fun pins s σ H Q I q => h.run pins s σ H Q I (w σ H Q q)⟩
theorem pt_imp {X : Cx} {ex : Expr} {t u : TT} (h : PT X ex t) (w : ∀ σ H Q, u σ H Q → t σ H Q) : PT X ex u := ⟨fun pins s σ H Q I q => h.run pins s σ H Q I (w σ H Q q)⟩
theorem pw_imp {X : Cx} {ex : Expr} {t u : TT} (h : PW X ex t) (w : ∀ σ H Q, u σ H Q → t σ H Q) : PW X ex u := ⟨fun wh pins s σ H Q I q => h.run wh pins s σ H Q I (w σ H Q q)⟩
theorem pa_imp {X : Cx} {ex : List Expr} {t u : TA} (h : PA X ex t) (w : ∀ σ H Q, u σ H Q → t σ H Q) : PA X ex u := ⟨fun pos pins s σ H Q I q => h.run pos pins s σ H Q I (w σ H Q q)⟩
theorem ps_imp {X : Cx} {ex : Stmt} {t u : TS} (h : PS X ex t) (w : ∀ D σ H, u D σ H → t D σ H) : PS X ex u := ⟨fun pins s σ H D I q => h.run pins s σ H D I (w D σ H q)⟩
theorem pss_imp {X : Cx} {ex : List Stmt} {t u : TS} (h : PSs X ex t) (w : ∀ D σ H, u D σ H → t D σ H) : PSs X ex u := ⟨fun pins s σ H D I q => h.run pins s σ H D I (w D σ H q)⟩

abbrev FE := Env' → M D
abbrev FA := Env' → M (List D)
abbrev FB := Env' → M Bool
abbrev DE (G : Gl) (X : Cx) (E : XK) (ex : Expr) (f : FE) : Prop := PE X ex (Lf G (rD G.K) E f)
abbrev DL (G : Gl) (X : Cx) (E : XK) (ex : Expr) (f : FA) : Prop := PE X ex (Lf G (rL G.K) E f)
abbrev DT (G : Gl) (X : Cx) (E : XK) (ex : Expr) (f : FB) : Prop := PT X ex (Lf G rB E f)
abbrev DW (G : Gl) (X : Cx) (E : XK) (ex : Expr) (f : FB) : Prop := PW X ex (Lf G rB E f)
abbrev DA (G : Gl) (X : Cx) (E : XK) (ex : List Expr) (f : FA) : Prop := PA X ex (Lf G (rDs G.K) E f)

/-! ### names, constants, lists of arguments -/
def eVar (i : Nat) : FE := fun e S => match e[i]? with
  | some (some d) => some (.val d S)
  | _ => none
def eC (d : D) : FE := fun _ S => some (.val d S)
def aNil : FA := fun _ S => some (.val [] S)
def aCons (f : FE) (g : FA) : FA := fun e => bnd (f e) fun d => bnd (g e) fun ds => ret (d :: ds)
section
variable {G : Gl} {X : Cx} {E : XK} {a b : Expr} {fa fb : FE}
theorem de_var {i : Nat} {x : Str} {pos : Pos} (hN : X.N[i]? = some x) (hv : Vis X.env.scope x) (hd : (x == ("__debug__" : Str)) = false) (hcd : (x == ("__classdict__" : Str)) = false) : DE G X E (.Name x pos) (eVar i) :=
  pe_imp (pe_var hN hv hd hcd) fun σ H Q ⟨ρ, S, e, r, rep, re, h, p⟩ => by
    unfold eVar at h
    split at h
    · rename_i d hd
      cases h
      obtain ⟨v, h1, h2⟩ := re.2 i d hd
      exact ⟨v, h1, p ρ H v (.refl _ _) rep h2⟩
    · cases h
theorem de_c {ex : Expr} {d : D} {v : V} (h : PE X ex (tC v)) (hr : ∀ ρ H, RV G.K ρ H d v) : DE G X E ex (eC d) :=
  pe_imp h fun σ H Q ⟨ρ, S, e, r, rep, re, h, p⟩ => by
    cases h
    exact p ρ H v (.refl _ _) rep (hr ρ H)
theorem da_nil : DA G X E [] aNil := pa_imp pa_nil fun σ H Q ⟨ρ, S, e, r, rep, re, h, p⟩ => by
  cases h
  exact p ρ H [] (.refl _ _) rep .nil
theorem da_cons {es : List Expr} {g : FA} (ha : DE G X E a fa) (hr : DA G X E es g) (hs : starEach (a :: es) X.env = (false, eval a X.env) :: starEach es X.env) : DA G X E (a :: es) (aCons fa g) :=
  pa_imp (pa_cons ha hr hs) fun σ H Q ⟨ρ, S, e, r, rep, re, h, p⟩ =>
    bind_at rep re h p fun ρ1 H1 S1 d x st1 rep1 re1 rx h1 p1 => bind_at rep1 re1 h1 p1 fun ρ2 H2 S2 ds xs st2 rep2 re2 rxs h2 p2 => by
      cases h2
      exact p2 ρ2 H2 _ (.refl _ _) rep2 (.cons (rx.mono st2) rxs)
end
end Mini
end

section
set_option Elab.async false
set_option linter.all false
set_option maxRecDepth 100000
set_option maxHeartbeats 4000000
namespace Mini
open PySem PySem.Spec PyProof.Rows L2

def lim : Nat := 1000000
theorem lim_le {n : Nat} (h : n ≤ lim) : n ≤ sizeLine := Nat.le_trans h (by decide)

/-! ### operators by values -/
def Op2 (G : Gl) (rr : R2) (f : D → D → M D) : Prop := ∀ (E : XK) (H0 : Hp) (ρ : List Addr) (H : Hp) (S : Sto) (a b : D) (x y : V) (r : Res D) (Q : VK), Rep G ρ H S → RV G.K ρ H a x → RV G.K ρ H b y → f a b S = some r → Post G (rD G.K) E H0 ρ H r Q → rr x y H Q
def fOp2 (f : D → D → M D) (fa fb : FE) : FE := fun e => bnd (fa e) fun x => bnd (fb e) fun y => f x y
section
variable {G : Gl} {X : Cx} {E : XK} {a b c : Expr} {fa fb fc : FE} {f g : D → D → M D} {rr rr' : R2} {pos : Pos}
theorem de_of_op (hf : Op2 G rr f) : ∀ σ H Q, Lf G (rD G.K) E (fOp2 f fa fb) σ H Q → tOp rr (Lf G (rD G.K) E fa) (Lf G (rD G.K) E fb) σ H Q := fun σ H Q ⟨ρ, S, e, r, rep, re, h, p⟩ =>
  bind_at rep re h p fun ρ1 H1 S1 d x st1 rep1 re1 rx h1 p1 => bind_at rep1 re1 h1 p1 fun ρ2 H2 S2 d2 y st2 rep2 re2 ry h2 p2 =>
    hf E H ρ2 H2 S2 d d2 x y r Q rep2 (rx.mono st2) ry h2 p2
theorem de_op {op : Operator} (ho : OpR X (binaryOp op) rr) (hf : Op2 G rr f) (ha : DE G X E a fa) (hb : DE G X E b fb) : DE G X E (.BinOp a op b pos) (fOp2 f fa fb) :=
  pe_imp (pe_op ho ha hb) (de_of_op hf)
theorem de_cmp {op : CmpOp} (ho : OpR X (compareOp op) rr) (hf : Op2 G rr f) (ha : DE G X E a fa) (hb : DE G X E b fb) (hm : behindInMarks op b = false) : DE G X E (.Compare a [op] [b] pos) (fOp2 f fa fb) :=
  pe_imp (pe_cmpR ho ha hb hm) (de_of_op hf)
theorem Op2.ret1 {E : XK} {H0 : Hp} {ρ : List Addr} {H : Hp} {S : Sto} {d : D} {v : V} {r : Res D} {Q : VK} (rep : Rep G ρ H S) (h : some (Res.val d S) = some r) (p : Post G (rD G.K) E H0 ρ H r Q) (rv : RV G.K ρ H d v) : Q v H := by
  cases h
  exact p ρ H v (.refl _ _) rep rv
/-- a new object that is not of the store (a tuple) -/
theorem Op2.new1 {E : XK} {H0 : Hp} {ρ : List Addr} {H : Hp} {S : Sto} {d : D} {q : Addr} {o : HO} {r : Res D} {Q : VK} (rep : Rep G ρ H S) (h : some (Res.val d S) = some r) (p : Post G (rD G.K) E H0 ρ H r Q) (hq : H q = none) (rv : RV G.K ρ (upd H q o) d (.ref q)) : Q (.ref q) (upd H q o) := by
  cases h
  exact p ρ _ _ (Step.new hq) (rep.new hq) rv

def opAdd : D → D → M D
  | .int i, .int j => ret (.int (i + j))
  | .tup xs, .tup ys => if xs.length + ys.length ≤ lim then ret (.tup (xs ++ ys)) else stuck
  | _, _ => stuck
theorem RVs.len {K : PySem.W.Frag} {ρ : List Addr} {H : Hp} {ds : List D} {vs : List V} (h : RVs K ρ H ds vs) : vs.length = ds.length := h.length.symm
theorem RVs.nil_iff {K : PySem.W.Frag} {ρ : List Addr} {H : Hp} {ds : List D} {vs : List V} (h : RVs K ρ H ds vs) : vs = [] ↔ ds = [] := by
  cases h <;> simp
theorem op2_add : Op2 G (fun x y H Q => rI0 (fun i j => .int (i + j)) x y H Q ∨ rCatA X.K x y H Q) opAdd := by
  intro E H0 ρ H S a b x y r Q rep ra rb h p
  unfold opAdd at h
  split at h
  · cases ra; cases rb
    exact .inl ⟨_, _, rfl, rfl, Op2.ret1 rep h p (.int _)⟩
  · rename_i xs ys
    split at h
    · rename_i hl
      cases ra with | tup ha ra => cases rb with | tup hb rb =>
      refine .inr ⟨_, _, _, _, rfl, rfl, SqT.of ha, SqT.of hb, by rw [ra.len, rb.len]; exact lim_le hl, fun q => ?_, fun q q2 => ?_, fun q q2 z hz => ?_⟩
      · rw [ra.nil_iff] at q; subst q
        exact Op2.ret1 rep h p (.tup hb rb)
      · rw [rb.nil_iff] at q2; subst q2
        rw [List.append_nil] at h
        exact Op2.ret1 rep h p (.tup ha ra)
      · exact Op2.new1 rep h p hz (.tup upd_same ((ra.append rb).mono (Step.new hz)))
    · cases h
  · cases h
def opSub : D → D → M D
  | .int i, .int j => ret (.int (i - j))
  | _, _ => stuck
theorem op2_sub : Op2 G (rI0 fun i j => .int (i - j)) opSub := by
  intro E H0 ρ H S a b x y r Q rep ra rb h p
  unfold opSub at h
  split at h
  · cases ra; cases rb
    exact ⟨_, _, rfl, rfl, Op2.ret1 rep h p (.int _)⟩
  · cases h
def opMul : D → D → M D
  | .int i, .int j => if i.natAbs < 2 ^ 64 ∨ j.natAbs < 2 ^ 64 then ret (.int (i * j)) else stuck
  | _, _ => stuck
theorem op2_mul : Op2 G (rI CMul fun i j => .int (i * j)) opMul := by
  intro E H0 ρ H S a b x y r Q rep ra rb h p
  unfold opMul at h
  split at h
  · split at h
    · rename_i hc
      cases ra; cases rb
      exact ⟨_, _, rfl, rfl, by unfold CMul; omega, Op2.ret1 rep h p (.int _)⟩
    · cases h
  · cases h
def opMod : D → D → M D
  | .int i, .int j => if j ≠ 0 then ret (.int (i.fmod j)) else stuck
  | _, _ => stuck
theorem op2_mod : Op2 G (rI (fun _ j => j ≠ 0) fun i j => .int (i.fmod j)) opMod := by
  intro E H0 ρ H S a b x y r Q rep ra rb h p
  unfold opMod at h
  split at h
  · split at h
    · rename_i hc
      cases ra; cases rb
      exact ⟨_, _, rfl, rfl, hc, Op2.ret1 rep h p (.int _)⟩
    · cases h
  · cases h
def opDiv : D → D → M D
  | .int i, .int j => if j ≠ 0 ∧ j.natAbs < 1073741824 then ret (.int (i.fdiv j)) else stuck
  | _, _ => stuck
theorem op2_div : Op2 G (rI CDivN fun i j => .int (i.fdiv j)) opDiv := by
  intro E H0 ρ H S a b x y r Q rep ra rb h p
  unfold opDiv at h
  split at h
  · split at h
    · rename_i hc
      cases ra; cases rb
      exact ⟨_, _, rfl, rfl, hc, Op2.ret1 rep h p (.int _)⟩
    · cases h
  · cases h
def opPow : D → D → M D
  | .int i, .int j => if 0 ≤ j ∧ j ≤ 1000000 ∧ i.natAbs < 2 ^ 64 then ret (.int (i ^ j.toNat)) else stuck
  | _, _ => stuck
theorem op2_pow : Op2 G (rI CPow fun i j => .int (i ^ j.toNat)) opPow := by
  intro E H0 ρ H S a b x y r Q rep ra rb h p
  unfold opPow at h
  split at h
  · split at h
    · rename_i hc
      cases ra; cases rb
      exact ⟨_, _, rfl, rfl, hc, Op2.ret1 rep h p (.int _)⟩
    · cases h
  · cases h
/-- comparisons of ints -/
def opI (q : Int → Int → Bool) : D → D → M D
  | .int i, .int j => ret (.bl (q i j))
  | _, _ => stuck
theorem op2_i {q : Int → Int → Bool} : Op2 G (rI0 fun i j => .bl (q i j)) (opI q) := by
  intro E H0 ρ H S a b x y r Q rep ra rb h p
  unfold opI at h
  split at h
  · cases ra; cases rb
    exact ⟨_, _, rfl, rfl, Op2.ret1 rep h p (.bl _)⟩
  · cases h
/-- ints of a tuple -/
def asInts : List D → Option (List Int)
  | [] => some []
  | .int i :: r => (asInts r).map (i :: ·)
  | _ => none
theorem asInts_eq : ∀ {xs : List D} {ns : List Int}, asInts xs = some ns → xs = ns.map D.int
  | [], _, h => by cases h; rfl
  | .int i :: r, ns, h => by
    unfold asInts at h
    cases q : asInts r with
    | none => rw [q] at h; cases h
    | some ms =>
      rw [q] at h
      cases h
      simp [asInts_eq q]
  | .non :: _, _, h => by cases h
  | .bl _ :: _, _, h => by cases h
  | .str _ :: _, _, h => by cases h
  | .tup _ :: _, _, h => by cases h
  | .rng _ _ :: _, _, h => by cases h
  | .obj _ :: _, _, h => by cases h
  | .rol _ :: _, _, h => by cases h
theorem asInts_map : ∀ ns : List Int, asInts (ns.map D.int) = some ns
  | [] => rfl
  | n :: r => by simp [asInts, asInts_map r]
/-- <, of ints and of tuples of ints -/
def opLt : D → D → M D
  | .int i, .int j => ret (.bl (decide (i < j)))
  | .tup xs, .tup ys => fun S => match asInts xs, asInts ys with
    | some ns, some ms => some (.val (.bl (HT.lexLt ns ms)) S)
    | _, _ => none
  | _, _ => stuck
theorem op2_lt : Op2 G (fun x y H Q => rI0 (fun i j => .bl (decide (i < j))) x y H Q ∨ rLtT X.K x y H Q) opLt := by
  intro E H0 ρ H S a b x y r Q rep ra rb h p
  unfold opLt at h
  split at h
  · cases ra; cases rb
    exact .inl ⟨_, _, rfl, rfl, Op2.ret1 rep h p (.bl _)⟩
  · split at h
    · rename_i ns ms h1 h2
      cases ra with | tup ha ra => cases rb with | tup hb rb =>
      rw [asInts_eq h1] at ra
      rw [asInts_eq h2] at rb
      have e1 := ra.ints
      have e2 := rb.ints
      subst e1 e2
      exact .inr ⟨_, _, ns, ms, rfl, rfl, SqT.of ha, SqT.of hb, Op2.ret1 rep h p (.bl _)⟩
    · cases h
  · cases h

/-! ### data at any depth -/
mutual
def toPy (S : Sto) : Nat → D → Option PyData
  | 0, _ => none
  | _ + 1, .non => some .none
  | _ + 1, .bl b => some (.bool b)
  | _ + 1, .int i => some (.int i)
  | _ + 1, .str x => some (.str x)
  | n + 1, .tup xs => (toPys S n xs).map PyData.tuple
  | _ + 1, .rng _ _ => none
  | _ + 1, .rol _ => none
  | n + 1, .obj k => match S[k]? with
    | some (.lst xs) => (toPys S n xs).map PyData.list
    | _ => none
def toPys (S : Sto) : Nat → List D → Option (List PyData)
  | 0, _ => none
  | _ + 1, [] => some []
  | n + 1, d :: ds => match toPy S n d, toPys S n ds with
    | some p, some ps => some (p :: ps)
    | _, _ => none
end
mutual
theorem dp_of {K : PySem.W.Frag} {ρ : List Addr} {H : Hp} {S : Sto} {K' : PySem.W.Frag} (rep : ∀ (n : Nat) (a : Addr) xs, ρ[n]? = some a → S[n]? = some (.lst xs) → ∃ vs, H a = some (.lst vs) ∧ RVs K ρ H xs vs) : ∀ (n : Nat) (d : D) (v : V) (q : PyData), RV K ρ H d v → toPy S n d = some q → Dp K' H v q
  | 0, _, _, _, _, h => by cases h
  | _ + 1, .non, _, _, r, h => by cases r; cases h; exact .non
  | _ + 1, .bl b, _, _, r, h => by cases r; cases h; exact .bl b
  | _ + 1, .int i, _, _, r, h => by cases r; cases h; exact .int i
  | _ + 1, .str x, _, _, r, h => by cases r; cases h; exact .str x
  | _ + 1, .rng _ _, _, _, r, h => by cases h
  | _ + 1, .rol _, _, _, r, h => by cases h
  | n + 1, .tup xs, _, _, r, h => by
    cases r with | tup ha r =>
    simp only [toPy] at h
    cases q : toPys S n xs with
    | none => rw [q] at h; cases h
    | some ps =>
      rw [q] at h
      cases h
      exact .tup (SqT.of ha) (dps_of rep n xs _ ps r q)
  | n + 1, .obj k, _, _, r, h => by
    cases r with | obj hk =>
    simp only [toPy] at h
    split at h
    · rename_i xs hS
      obtain ⟨vs, hv, rv⟩ := rep k _ xs hk hS
      cases q : toPys S n xs with
      | none => rw [q] at h; cases h
      | some ps =>
        rw [q] at h
        cases h
        exact .lst (SqL.of hv) (dps_of rep n xs _ ps rv q)
    · cases h
theorem dps_of {K : PySem.W.Frag} {ρ : List Addr} {H : Hp} {S : Sto} {K' : PySem.W.Frag} (rep : ∀ (n : Nat) (a : Addr) xs, ρ[n]? = some a → S[n]? = some (.lst xs) → ∃ vs, H a = some (.lst vs) ∧ RVs K ρ H xs vs) : ∀ (n : Nat) (ds : List D) (vs : List V) (qs : List PyData), RVs K ρ H ds vs → toPys S n ds = some qs → DpAll K' H vs qs
  | 0, _, _, _, _, h => by cases h
  | _ + 1, [], _, _, r, h => by cases r; cases h; exact .nil
  | n + 1, d :: ds, _, _, r, h => by
    cases r with | cons r rs =>
    simp only [toPys] at h
    split at h
    · rename_i p ps h1 h2
      cases h
      exact .cons (dp_of rep n d _ p r h1) (dps_of rep n ds _ ps rs h2)
    · cases h
end
theorem Rep.lst {ρ : List Addr} {H : Hp} {S : Sto} (rep : Rep G ρ H S) (n : Nat) (a : Addr) (xs : List D) (h : ρ[n]? = some a) (hS : S[n]? = some (.lst xs)) : ∃ vs, H a = some (.lst vs) ∧ RVs G.K ρ H xs vs := by
  obtain ⟨b, hb, r⟩ := rep.ob n _ hS
  rw [h] at hb; cases hb
  exact r
def fuel : Nat := 200
def eqD (S : Sto) (a b : D) : Option Bool := match toPy S fuel a, toPy S fuel b with
  | some p, some q => if SeqAt.shaped p = true ∧ SeqAt.shaped q = true then some (PyData.eqv p q) else none
  | _, _ => none
def opEq (neg : Bool) : D → D → M D := fun a b S => match eqD S a b with
  | some k => some (.val (.bl (if neg then !k else k)) S)
  | none => none
theorem op2_eq : Op2 G (rEqD X.K) (opEq false) := by
  intro E H0 ρ H S a b x y r Q rep ra rb h p
  unfold opEq eqD at h
  split at h
  · rename_i k hk
    split at hk
    · rename_i u v h1 h2
      split at hk
      · rename_i hs
        cases hk
        exact ⟨u, v, dp_of rep.lst _ _ _ _ ra h1, dp_of rep.lst _ _ _ _ rb h2, hs.1, hs.2, Op2.ret1 rep h p (.bl _)⟩
      · cases hk
    · cases hk
  · cases h
theorem op2_ne : Op2 G (rNeD X.K) (opEq true) := by
  intro E H0 ρ H S a b x y r Q rep ra rb h p
  unfold opEq eqD at h
  split at h
  · rename_i k hk
    split at hk
    · rename_i u v h1 h2
      split at hk
      · rename_i hs
        cases hk
        exact ⟨u, v, dp_of rep.lst _ _ _ _ ra h1, dp_of rep.lst _ _ _ _ rb h2, hs.1, hs.2, Op2.ret1 rep h p (.bl _)⟩
      · cases hk
    · cases hk
  · cases h
/-- is, is not: None on the right, or bools -/
def isNone : D → Bool
  | .non => true
  | _ => false
def opIs (neg : Bool) : D → D → M D
  | a, .non => ret (.bl (if neg then !isNone a else isNone a))
  | .bl a, .bl b => ret (.bl (if neg then !decide (a = b) else decide (a = b)))
  | _, _ => stuck
theorem RV.isNone {K : PySem.W.Frag} {ρ : List Addr} {H : Hp} {d : D} {v : V} (r : RV K ρ H d v) : decide (v = V.non) = Mini.isNone d := by
  cases r <;> simp [Mini.isNone]
theorem op2_is : Op2 G (fun x y H Q => (y = .non ∧ Q (.bl (decide (x = .non))) H) ∨ rIsB x y H Q) (opIs false) := by
  intro E H0 ρ H S a b x y r Q rep ra rb h p
  unfold opIs at h
  split at h
  · cases rb
    refine .inl ⟨rfl, ?_⟩
    rw [ra.isNone]
    exact Op2.ret1 rep h p (.bl _)
  · cases ra; cases rb
    exact .inr ⟨_, _, rfl, rfl, Op2.ret1 rep h p (.bl _)⟩
  · cases h
theorem op2_isnot : Op2 G (fun x y H Q => (y = .non ∧ Q (.bl (!decide (x = .non))) H) ∨ rNotB x y H Q) (opIs true) := by
  intro E H0 ρ H S a b x y r Q rep ra rb h p
  unfold opIs at h
  split at h
  · cases rb
    refine .inl ⟨rfl, ?_⟩
    rw [ra.isNone]
    exact Op2.ret1 rep h p (.bl _)
  · cases ra; cases rb
    exact .inr ⟨_, _, rfl, rfl, Op2.ret1 rep h p (.bl _)⟩
  · cases h
/-- in, not in: flat things in a list or a tuple of such -/
def flatD : D → Option V
  | .non => some .non
  | .bl b => some (.bl b)
  | .int i => some (.int i)
  | .str x => some (.str x)
  | _ => none
def flatDs : List D → Option (List V)
  | [] => some []
  | d :: r => match flatD d, flatDs r with
    | some v, some vs => some (v :: vs)
    | _, _ => none
theorem flatD_eq {K : PySem.W.Frag} {ρ : List Addr} {H : Hp} {d : D} {v w : V} (h : flatD d = some w) (r : RV K ρ H d v) : v = w ∧ flatV w = true := by
  cases r <;> first | (cases h; exact ⟨rfl, rfl⟩) | cases h
theorem flatDs_eq {K : PySem.W.Frag} {ρ : List Addr} {H : Hp} : ∀ {ds : List D} {vs ws : List V}, flatDs ds = some ws → RVs K ρ H ds vs → vs = ws ∧ ws.all flatV = true
  | [], _, _, h, r => by cases r; cases h; exact ⟨rfl, rfl⟩
  | d :: ds, _, _, h, r => by
    cases r with | cons r rs =>
    simp only [flatDs] at h
    split at h
    · rename_i v vs h1 h2
      cases h
      obtain ⟨e1, e2⟩ := flatD_eq h1 r
      obtain ⟨e3, e4⟩ := flatDs_eq h2 rs
      subst e1 e3
      exact ⟨rfl, by simp [e2, e4]⟩
    · cases h
def lstOf (S : Sto) : D → Option (List D)
  | .obj n => match S[n]? with
    | some (.lst xs) => some xs
    | _ => none
  | .rol ns => some (ns.map D.int)
  | _ => none
def seqOf (S : Sto) : D → Option (List D)
  | .tup xs => some xs
  | d => lstOf S d
theorem lst_of {ρ : List Addr} {H : Hp} {S : Sto} {d : D} {v : V} {xs : List D} (rep : Rep G ρ H S) (hK : X.K = G.K) (r : RV G.K ρ H d v) (h : lstOf S d = some xs) : ∃ a vs, v = .ref a ∧ SqL X.K H a vs ∧ RVs G.K ρ H xs vs := by
  unfold lstOf at h
  split at h
  · split at h
    · rename_i xs' hS
      cases h
      cases r with | obj hn =>
      obtain ⟨vs, h1, h2⟩ := rep.lst _ _ _ hn hS
      exact ⟨_, _, rfl, SqL.of h1, h2⟩
    · cases h
  · cases h
    cases r with
    | rolF hf => exact ⟨_, _, rfl, .inl (.inr ⟨_, hf⟩), RVs.of_ints _⟩
    | rolK o its n hk => exact ⟨_, _, rfl, .inr ⟨o, its, n, by rw [hK]; exact hk⟩, RVs.of_ints _⟩
  · cases h
theorem seq_of {ρ : List Addr} {H : Hp} {S : Sto} {d : D} {v : V} {xs : List D} (rep : Rep G ρ H S) (hK : X.K = G.K) (r : RV G.K ρ H d v) (h : seqOf S d = some xs) : ∃ a vs, v = .ref a ∧ (SqL X.K H a vs ∨ SqT X.K H a vs) ∧ RVs G.K ρ H xs vs := by
  unfold seqOf at h
  split at h
  · cases h
    cases r with | tup ha r =>
    exact ⟨_, _, rfl, .inr (SqT.of ha), r⟩
  · obtain ⟨a, vs, e, h1, h2⟩ := lst_of rep hK r h
    exact ⟨a, vs, e, .inl h1, h2⟩
def opIn (neg : Bool) : D → D → M D := fun a b S => match seqOf S b with
  | some xs => match flatD a, flatDs xs with
    | some v, some vs => some (.val (.bl (if neg then !inV v vs else inV v vs)) S)
    | _, _ => none
  | none => none
theorem op2_in (hK : X.K = G.K) {neg : Bool} : Op2 G (rIn X.K neg) (opIn neg) := by
  intro E H0 ρ H S a b x y r Q rep ra rb h p
  unfold opIn at h
  split at h
  · rename_i xs hx
    split at h
    · rename_i v vs h1 h2
      obtain ⟨c, ws, rfl, hs, rs⟩ := seq_of rep hK rb hx
      obtain ⟨e1, e2⟩ := flatD_eq h1 ra
      obtain ⟨e3, e4⟩ := flatDs_eq h2 rs
      subst e1 e3
      exact ⟨c, _, rfl, hs, e2, e4, Op2.ret1 rep h p (.bl _)⟩
    · cases h
  · cases h
/-- a[i] -/
def opIx : D → D → M D := fun a b S => match seqOf S a, b with
  | some xs, .int i => match atI xs i with
    | some d => some (.val d S)
    | none => none
  | _, _ => none
theorem RVs.atI {K : PySem.W.Frag} {ρ : List Addr} {H : Hp} {ds : List D} {vs : List V} {i : Int} {d : D} (r : RVs K ρ H ds vs) (h : atI ds i = some d) : ∃ v, L2.atI vs i = some v ∧ RV K ρ H d v := by
  unfold L2.atI at *
  rw [r.len]
  cases q : ixN ds.length i with
  | none => rw [q] at h; cases h
  | some j =>
    rw [q] at h
    exact r.get h
theorem op2_ix (hK : X.K = G.K) : Op2 G (rIx X.K) opIx := by
  intro E H0 ρ H S a b x y r Q rep ra rb h p
  unfold opIx at h
  split at h
  · rename_i xs i hx
    split at h
    · rename_i d hd
      cases rb
      obtain ⟨c, ws, rfl, hs, rs⟩ := seq_of rep hK ra hx
      obtain ⟨v, h1, h2⟩ := rs.atI hd
      rcases hs with hs | hs
      · exact .inl ⟨c, _, i, v, rfl, rfl, hs, h1, Op2.ret1 rep h p h2⟩
      · exact .inr (.inl ⟨c, _, i, v, rfl, rfl, hs, h1, Op2.ret1 rep h p h2⟩)
    · cases h
  · cases h
theorem de_ix (hK : X.K = G.K) (ha : DE G X E a fa) (hb : DE G X E b fb) (hs : PlainIx b) : DE G X E (.Subscript a b pos) (fOp2 opIx fa fb) :=
  pe_imp (pe_ix ix_seq ha hb hs) (de_of_op (op2_ix hK))
end
end Mini
end

section
set_option Elab.async false
set_option linter.all false
set_option maxRecDepth 100000
set_option maxHeartbeats 4000000
namespace Mini
open PySem PySem.Spec PyProof.Rows L2

/-! ### tests -/
def asBl : D → M Bool
  | .bl b => ret b
  | _ => stuck
def bVal (f : FE) : FB := fun e => bnd (f e) asBl
def bTru (f : FE) : FB := fun e => bnd (f e) fun d S => match d with
  | .non => some (.val false S)
  | .bl b => some (.val b S)
  | .int i => some (.val (i != 0) S)
  | .str x => if x.length ≤ lim then some (.val ((x.length : Int) != 0) S) else none
  | d => match seqOf S d with
    | some xs => some (.val (!xs.isEmpty) S)
    | none => none
def bNot (f : FB) : FB := fun e => bnd (f e) fun b => ret (!b)
def bAnd (f g : FB) : FB := fun e => bnd (f e) fun b => if b = true then g e else ret false
def bOr (f g : FB) : FB := fun e => bnd (f e) fun b => if b = true then ret true else g e
def vAnd (f g : FE) : FE := fun e => bnd (f e) fun d => bnd (asBl d) fun b => if b = true then g e else ret (.bl false)
def vOr (f g : FE) : FE := fun e => bnd (f e) fun d => bnd (asBl d) fun b => if b = true then ret (.bl true) else g e
def vNot (f : FE) : FE := fun e => bnd (f e) fun d => bnd (asBl d) fun b => ret (.bl (!b))
def vIf (c : FB) (f g : FE) : FE := fun e => bnd (c e) fun b => if b = true then f e else g e

/-- a comparison operator that the layer knows -/
def CmpOk (G : Gl) (X : Cx) (op : CmpOp) (f : D → D → M D) : Prop := ∃ rr, OpR X (compareOp op) rr ∧ Op2 G rr f
def OprOk (G : Gl) (X : Cx) (op : Operator) (f : D → D → M D) : Prop := ∃ rr, OpR X (binaryOp op) rr ∧ Op2 G rr f
section
variable {G : Gl} {X : Cx} {E : XK} {a b c : Expr} {fa fb fc : FE} {ga gb gc : FB} {f g : D → D → M D} {pos : Pos} {ρ : List Addr} {H H0 : Hp} {S : Sto} {e : Env'} {σ : L2.St}
/-- an end that is a plain value -/
theorem fin_at {α β : Type} {R : Rl α β} {x : α} {y : β} {r : Res α} {Q : β → Hp → Prop} (rep : Rep G ρ H S) (h : ret x S = some r) (p : Post G R E H0 ρ H r Q) (rv : R H0 ρ H x y) : Q y H := by
  cases h
  exact p ρ H y (.refl _ _) rep rv
theorem dt_cmp {op : CmpOp} {rr : R2} (ho : OpR X (compareOp op) rr) (hf : Op2 G rr f) (ha : DE G X E a fa) (hb : DE G X E b fb) (hm : behindInMarks op b = false) : DT G X E (.Compare a [op] [b] pos) (bVal (fOp2 f fa fb)) :=
  pt_imp (pt_cmpR ho ha hb hm) fun σ H Q ⟨ρ, S, e, r, rep, re, h, p⟩ => by
    refine de_of_op hf σ H _ ?_
    refine bind_at rep re h p fun ρ1 H1 S1 d x st1 rep1 re1 rx h1 p1 => ?_
    cases d with
    | bl b => cases rx; exact ⟨b, rfl, fin_at rep1 h1 p1 rfl⟩
    | _ => cases h1
theorem dt_val (h : DE G X E a fa) (he : ∀ whole, isTrue a X.env whole = (do let v ← whole; standAt a.pos; holding [v] (truthy v))) : DT G X E a (bVal fa) :=
  pt_imp (pt_val h he) fun σ H Q ⟨ρ, S, e, r, rep, re, h, p⟩ => bind_at rep re h p fun ρ1 H1 S1 d x st1 rep1 re1 rx h1 p1 => by
    cases d with
    | bl b => cases rx; exact ⟨b, rfl, fin_at rep1 h1 p1 rfl⟩
    | _ => cases h1
theorem dt_tru (hK : X.K = G.K) (h : DE G X E a fa) (he : ∀ whole, isTrue a X.env whole = (do let v ← whole; standAt a.pos; holding [v] (truthy v))) : DT G X E a (bTru fa) :=
  pt_imp (pt_truth h he) fun σ H Q ⟨ρ, S, e, r, rep, re, h, p⟩ => bind_at rep re h p fun ρ1 H1 S1 d x st1 rep1 re1 rx h1 p1 => by
    have seq : ∀ {xs : List D}, seqOf S1 d = some xs → ret (!xs.isEmpty) S1 = some r → ∃ k, TruV X.K x H1 k ∧ Q k H1 := fun {xs} hs h2 => by
      obtain ⟨c, vs, rfl, hq, rv⟩ := seq_of rep1 hK rx hs
      have e1 : vs.isEmpty = xs.isEmpty := by cases rv <;> rfl
      refine ⟨!xs.isEmpty, ?_, fin_at rep1 h2 p1 rfl⟩
      rw [← e1]
      rcases hq with hq | hq
      · exact .inl ⟨vs, hq, rfl⟩
      · exact .inr (.inl ⟨vs, hq, rfl⟩)
    cases d with
    | non => cases rx; exact ⟨_, rfl, fin_at rep1 h1 p1 rfl⟩
    | bl b => cases rx; exact ⟨_, rfl, fin_at rep1 h1 p1 rfl⟩
    | int i => cases rx; exact ⟨_, rfl, fin_at rep1 h1 p1 rfl⟩
    | str z =>
      cases rx
      simp only at h1
      split at h1
      · rename_i hl
        exact ⟨_, ⟨lim_le hl, rfl⟩, fin_at rep1 h1 p1 rfl⟩
      · cases h1
    | tup xs => exact seq rfl h1
    | rng lo hi => cases h1
    | rol ns => exact seq rfl h1
    | obj n =>
      simp only at h1
      split at h1
      · rename_i xs hs
        exact seq hs h1
      · cases h1
theorem dt_not (h : DT G X E a ga) : DT G X E (.UnaryOp .Not a pos) (bNot ga) :=
  pt_imp (pt_not h) fun σ H Q ⟨ρ, S, e, r, rep, re, h, p⟩ => bind_at rep re h p fun ρ1 H1 S1 d x st1 rep1 re1 rx h1 p1 => by
    cases rx
    exact fin_at rep1 h1 p1 rfl
theorem dw_and1 (h : DT G X E a ga) : DW G X E (.BoolOp .And [a] pos) ga := pw_and1 h
theorem dw_or1 (h : DT G X E a ga) : DW G X E (.BoolOp .Or [a] pos) ga := pw_or1 h
theorem dw_and {rest : List Expr} (ha : DT G X E a ga) (hb : DW G X E (.BoolOp .And (b :: rest) pos) gb) : DW G X E (.BoolOp .And (a :: b :: rest) pos) (bAnd ga gb) :=
  pw_imp (pw_and ha hb) fun σ H Q ⟨ρ, S, e, r, rep, re, h, p⟩ => bind_at rep re h p fun ρ1 H1 S1 d x st1 rep1 re1 rx h1 p1 => by
    cases rx
    cases d with
    | true => exact lf_at rep1 re1 h1 (by cases r <;> exact p1)
    | false => exact fin_at rep1 h1 p1 rfl
theorem dw_or {rest : List Expr} (ha : DT G X E a ga) (hb : DW G X E (.BoolOp .Or (b :: rest) pos) gb) : DW G X E (.BoolOp .Or (a :: b :: rest) pos) (bOr ga gb) :=
  pw_imp (pw_or ha hb) fun σ H Q ⟨ρ, S, e, r, rep, re, h, p⟩ => bind_at rep re h p fun ρ1 H1 S1 d x st1 rep1 re1 rx h1 p1 => by
    cases rx
    cases d with
    | true => exact fin_at rep1 h1 p1 rfl
    | false => exact lf_at rep1 re1 h1 (by cases r <;> exact p1)
/-- the H0 of an end may be another for values (not for new lists) -/
theorem Post.rD {r : Res D} {Q : VK} {H0' : Hp} (p : Post G (rD G.K) E H0 ρ H r Q) : Post G (rD G.K) E H0' ρ H r Q := by cases r <;> exact p
theorem de_and1 {op : BoolOp} (h : DE G X E a fa) : DE G X E (.BoolOp op [a] pos) fa := pe_one h
theorem de_and {rest : List Expr} (ha : DE G X E a fa) (hb : DE G X E (.BoolOp .And (b :: rest) pos) fb) : DE G X E (.BoolOp .And (a :: b :: rest) pos) (vAnd fa fb) :=
  pe_imp (pe_and ha hb) fun σ H Q ⟨ρ, S, e, r, rep, re, h, p⟩ => bind_at rep re h p fun ρ1 H1 S1 d x st1 rep1 re1 rx h1 p1 => by
    cases d with
    | bl b =>
      cases rx
      refine ⟨b, rfl, ?_⟩
      cases b with
      | true => exact lf_at rep1 re1 h1 p1.rD
      | false => exact fin_at rep1 h1 p1 (.bl _)
    | _ => cases h1
theorem de_or {rest : List Expr} (ha : DE G X E a fa) (hb : DE G X E (.BoolOp .Or (b :: rest) pos) fb) : DE G X E (.BoolOp .Or (a :: b :: rest) pos) (vOr fa fb) :=
  pe_imp (pe_or ha hb) fun σ H Q ⟨ρ, S, e, r, rep, re, h, p⟩ => bind_at rep re h p fun ρ1 H1 S1 d x st1 rep1 re1 rx h1 p1 => by
    cases d with
    | bl b =>
      cases rx
      refine ⟨b, rfl, ?_⟩
      cases b with
      | true => exact fin_at rep1 h1 p1 (.bl _)
      | false => exact lf_at rep1 re1 h1 p1.rD
    | _ => cases h1
theorem de_not (ha : DE G X E a fa) : DE G X E (.UnaryOp .Not a pos) (vNot fa) :=
  pe_imp (pe_not ha) fun σ H Q ⟨ρ, S, e, r, rep, re, h, p⟩ => bind_at rep re h p fun ρ1 H1 S1 d x st1 rep1 re1 rx h1 p1 => by
    cases d with
    | bl b => cases rx; exact ⟨b, rfl, fin_at rep1 h1 p1 (.bl _)⟩
    | _ => cases h1
theorem de_if (hc : DT G X E c gc) (ha : DE G X E a fa) (hb : DE G X E b fb) : DE G X E (.IfExp c a b pos) (vIf gc fa fb) :=
  pe_imp (pe_ifExp hc ha hb) fun σ H Q ⟨ρ, S, e, r, rep, re, h, p⟩ => bind_at rep re h p fun ρ1 H1 S1 d x st1 rep1 re1 rx h1 p1 => by
    cases rx
    cases d with
    | true => exact lf_at rep1 re1 h1 p1.rD
    | false => exact lf_at rep1 re1 h1 p1.rD
def vNeg (f : FE) : FE := fun e => bnd (f e) fun d => match d with
  | .int i => ret (.int (-i))
  | _ => stuck
theorem de_neg (ha : DE G X E a fa) : DE G X E (.UnaryOp .USub a pos) (vNeg fa) :=
  pe_imp (pe_un un_neg ha) fun σ H Q ⟨ρ, S, e, r, rep, re, h, p⟩ => bind_at rep re h p fun ρ1 H1 S1 d x st1 rep1 re1 rx h1 p1 => by
    cases d with
    | int i => cases rx; exact ⟨i, rfl, fin_at rep1 h1 p1 (.int _)⟩
    | _ => cases h1

/-! ### slices -/
def cutG {α : Type} (xs : List α) (lo hi : Option Int) : List α := (xs.drop (HT.sIx xs.length 0 lo)).take (HT.sIx xs.length xs.length hi - HT.sIx xs.length 0 lo)
abbrev FO := Env' → M (Option Int)
def oNone : FO := fun _ => ret none
def oSome (f : FE) : FO := fun e => bnd (f e) fun d => match d with
  | .int i => ret (some i)
  | _ => stuck
def rO : Rl (Option Int) (Option Int) := fun _ _ _ a b => a = b
abbrev DO (G : Gl) (X : Cx) (E : XK) (e : Option Expr) (f : FO) : Prop := PO X e (Lf G rO E f)
theorem po_imp {ex : Option Expr} {t u : TO} (h : PO X ex t) (w : ∀ σ H Q, u σ H Q → t σ H Q) : PO X ex u := ⟨fun pins s σ H Q I q => h.run pins s σ H Q I (w σ H Q q)⟩
theorem do_none : DO G X E none oNone := po_imp po_none fun σ H Q ⟨ρ, S, e, r, rep, re, h, p⟩ => fin_at rep h p rfl
theorem do_some (h : DE G X E a fa) : DO G X E (some a) (oSome fa) :=
  po_imp (po_some h) fun σ H Q ⟨ρ, S, e, r, rep, re, h, p⟩ => bind_at rep re h p fun ρ1 H1 S1 d x st1 rep1 re1 rx h1 p1 => by
    cases d with
    | int i => cases rx; exact ⟨i, rfl, fin_at rep1 h1 p1 rfl⟩
    | _ => cases h1
/-- a slice of a tuple -/
def fSlT (f : FE) (l h : FO) : FE := fun e => bnd (f e) fun d => bnd (l e) fun lo => bnd (h e) fun hi => match d with
  | .tup xs => ret (.tup (cutG xs lo hi))
  | _ => stuck
theorem RVs.cut {K : PySem.W.Frag} {ds : List D} {vs : List V} (r : RVs K ρ H ds vs) (lo hi : Option Int) : RVs K ρ H (cutG ds lo hi) (cutV vs lo hi) := by
  unfold cutG cutV
  rw [r.len]
  exact (r.drop _).take _
theorem de_slT {lo hi : Option Expr} {fl fh : FO} {p2 : Pos} (ha : DE G X E a fa) (hl : DO G X E lo fl) (hh : DO G X E hi fh) : DE G X E (.Subscript a (.Slice lo hi none p2) pos) (fSlT fa fl fh) :=
  pe_imp (pe_slice sl_tupA ha hl hh) fun σ H Q ⟨ρ, S, e, r, rep, re, h, p⟩ => bind_at rep re h p fun ρ1 H1 S1 d x st1 rep1 re1 rx h1 p1 => bind_at rep1 re1 h1 p1 fun ρ2 H2 S2 l x2 st2 rep2 re2 rx2 h2 p2 => bind_at rep2 re2 h2 p2 fun ρ3 H3 S3 u x3 st3 rep3 re3 rx3 h3 p3 => by
    cases rx2; cases rx3
    cases d with
    | tup xs =>
      have rx : RV G.K ρ3 H3 (.tup xs) x := (rx.mono st2).mono st3
      cases rx with | tup ha rs =>
      refine ⟨_, _, rfl, SqT.of ha, fun q => ?_, fun q z hz => ?_⟩
      · refine fin_at rep3 h3 p3 ?_
        have e1 : cutG xs l u = xs := by
          unfold cutG
          rw [rs.len] at q
          rw [q.1, q.2]
          simp
        show RV G.K ρ3 H3 (.tup (cutG xs l u)) _
        rw [e1]
        exact .tup ha rs
      · exact Op2.new1 rep3 h3 p3 hz (.tup upd_same ((rs.cut l u).mono (Step.new hz)))
    | _ => cases h3
/-- a slice of a list: a new list -/
def fSlL (f : FE) (l h : FO) : FA := fun e => bnd (f e) fun d => bnd (l e) fun lo => bnd (h e) fun hi S => match lstOf S d with
  | some xs => some (.val (cutG xs lo hi) S)
  | none => none
/-- a new list as the result -/
theorem newL_at {xs : List D} {vs : List V} {r : Res (List D)} {Q : VK} {q : Addr} (rep : Rep G ρ H S) (h : some (Res.val xs S) = some r) (p : Post G (rL G.K) E H0 ρ H r Q) (hb : H q = none → H0 q = none) (hq : H q = none) (rv : RVs G.K ρ H xs vs) : Q (.ref q) (upd H q (.lst vs)) := by
  cases h
  refine p ρ _ _ (Step.new hq) (rep.new hq) ⟨q, vs, rfl, hb hq, fun hm => ?_, upd_same, rv.mono (Step.new hq)⟩
  obtain ⟨u, hu, _⟩ := rep.mem hm
  rw [hq] at hu; cases hu
theorem dl_sl (hK : X.K = G.K) {lo hi : Option Expr} {fl fh : FO} {p2 : Pos} (ha : DE G X E a fa) (hl : DO G X E lo fl) (hh : DO G X E hi fh) : DL G X E (.Subscript a (.Slice lo hi none p2) pos) (fSlL fa fl fh) :=
  pe_imp (pe_slice sl_list ha hl hh) fun σ H Q ⟨ρ, S, e, r, rep, re, h, p⟩ => bind_at rep re h p fun ρ1 H1 S1 d x st1 rep1 re1 rx h1 p1 => bind_at rep1 re1 h1 p1 fun ρ2 H2 S2 l x2 st2 rep2 re2 rx2 h2 p2 => bind_at rep2 re2 h2 p2 fun ρ3 H3 S3 u x3 st3 rep3 re3 rx3 h3 p3 => by
    cases rx2; cases rx3
    have rx : RV G.K ρ3 H3 d x := (rx.mono st2).mono st3
    have back : ∀ {q}, H3 q = none → H q = none := fun {q} hq => st1.trk q (st2.trk q (st3.trk q hq))
    split at h3
    · rename_i xs hs
      obtain ⟨c, vs, rfl, hq, rv⟩ := lst_of rep3 hK rx hs
      exact ⟨c, vs, rfl, hq, fun q hz => newL_at rep3 h3 p3 back hz (rv.cut l u)⟩
    · cases h3
end
end Mini
end

section
set_option Elab.async false
set_option linter.all false
set_option maxRecDepth 100000
set_option maxHeartbeats 4000000
namespace Mini
open PySem PySem.Spec PyProof.Rows L2

/-! ### displays, new lists -/
def fTup (f : FA) : FE := fun e => bnd (f e) fun ds => if ds.length ≤ lim then ret (.tup ds) else stuck
def fLst (f : FA) : FA := fun e => bnd (f e) fun ds => if ds.length ≤ lim then ret ds else stuck
/-- a new list goes into the store -/
def fNew (f : FA) : FE := fun e => bnd (f e) fun ds S => some (.val (.obj S.length) (S ++ [.lst ds]))
section
variable {G : Gl} {X : Cx} {E : XK} {a b c : Expr} {es : List Expr} {fa fb fc : FE} {ga gb gc : FB} {la lb : FA} {f g : D → D → M D} {pos p : Pos} {x : Str} {ρ ρ1 : List Addr} {H H0 H1 : Hp} {S : Sto} {e : Env'} {σ : L2.St}
theorem de_tup {k : Nat} (h : DA G X E es la) : DE G X E (.Tuple es k pos) (fTup la) :=
  pe_imp (pe_tup h) fun σ H Q ⟨ρ, S, e, r, rep, re, h, p⟩ => bind_at rep re h p fun ρ1 H1 S1 ds vs st1 rep1 re1 rx h1 p1 => by
    split at h1
    · rename_i hl
      refine ⟨by rw [RVs.len rx]; exact lim_le hl, fun q hq => ?_⟩
      exact Op2.new1 rep1 h1 p1 hq (.tup upd_same (RVs.mono rx (Step.new hq)))
    · cases h1
theorem dl_lst (h : DA G X E es la) : DL G X E (.List es pos) (fLst la) :=
  pe_imp (pe_lst h) fun σ H Q ⟨ρ, S, e, r, rep, re, h, p⟩ => bind_at rep re h p fun ρ1 H1 S1 ds vs st1 rep1 re1 rx h1 p1 => by
    split at h1
    · rename_i hl
      refine ⟨by rw [RVs.len rx]; exact lim_le hl, fun q hq => ?_⟩
      exact newL_at rep1 h1 p1 (fun q => st1.trk _ q) hq rx
    · cases h1
theorem Step.pushAt (st : Step ρ H ρ1 H1) {q : Addr} (h : H q = none) : Step ρ H (ρ1 ++ [q]) H1 := by
  obtain ⟨t, rfl, ht⟩ := st.grow
  refine ⟨⟨t ++ [q], by simp, fun x hx => ?_⟩, st.imm, st.out, st.trk⟩
  rcases List.mem_append.mp hx with hx | hx
  · exact ht x hx
  · rw [List.mem_singleton.mp hx]; exact h
theorem de_new (h : DL G X E a la) : DE G X E a (fNew la) :=
  pe_imp h fun σ H Q ⟨ρ, S, e, r, rep, re, h, p⟩ => bind_at rep re h p fun ρ1 H1 S1 ds v st1 rep1 re1 rx h1 p1 => by
    obtain ⟨q, vs, rfl, h0, hn, hq, rv⟩ := rx
    cases h1
    refine p (ρ1 ++ [q]) H1 _ (st1.pushAt h0) (rep1.push hn ⟨vs, hq, rv.ext .push⟩) (.obj ?_)
    rw [← rep1.len]; simp

/-! ### calls of built-in functions, by values -/
def Cl (G : Gl) (rc : List V → Hp → VK → Prop) (f : List D → M D) : Prop := ∀ (E : XK) (H0 : Hp) (ρ : List Addr) (H : Hp) (S : Sto) (ds : List D) (vs : List V) (r : Res D) (Q : VK), Rep G ρ H S → RVs G.K ρ H ds vs → f ds S = some r → Post G (rD G.K) E H0 ρ H r Q → rc vs H Q
/-- .. that hands back a new list -/
def ClL (G : Gl) (rc : List V → Hp → VK → Prop) (f : List D → M (List D)) : Prop := ∀ (E : XK) (H0 : Hp) (ρ : List Addr) (H : Hp) (S : Sto) (ds : List D) (vs : List V) (r : Res (List D)) (Q : VK), Rep G ρ H S → RVs G.K ρ H ds vs → f ds S = some r → (∀ q, H q = none → H0 q = none) → Post G (rL G.K) E H0 ρ H r Q → rc vs H Q
/-- .. of a new list -/
def ClN (G : Gl) (rc : List V → Hp → VK → Prop) (f : List D → M D) : Prop := ∀ (E : XK) (H0 : Hp) (ρ : List Addr) (H : Hp) (S : Sto) (q : Addr) (ds : List D) (vs : List V) (r : Res D) (Q : VK), Rep G ρ H S → H q = some (.lst vs) → RVs G.K ρ H ds vs → f ds S = some r → Post G (rD G.K) E H0 ρ H r Q → rc [.ref q] H Q
def ClNL (G : Gl) (rc : List V → Hp → VK → Prop) (f : List D → M (List D)) : Prop := ∀ (E : XK) (H0 : Hp) (ρ : List Addr) (H : Hp) (S : Sto) (q : Addr) (ds : List D) (vs : List V) (r : Res (List D)) (Q : VK), Rep G ρ H S → H q = some (.lst vs) → RVs G.K ρ H ds vs → f ds S = some r → (∀ q, H q = none → H0 q = none) → Post G (rL G.K) E H0 ρ H r Q → rc [.ref q] H Q
def fCall {α : Type} (f : List D → M α) (g : FA) : Env' → M α := fun e => bnd (g e) f
theorem de_cl {rc : List V → Hp → VK → Prop} {fc : List D → M D} (h : PE X a (tCB rc (Lf G (rDs G.K) E la))) (hf : Cl G rc fc) : DE G X E a (fCall fc la) :=
  pe_imp h fun σ H Q ⟨ρ, S, e, r, rep, re, h, p⟩ => bind_at rep re h p fun ρ1 H1 S1 ds vs st1 rep1 re1 rx h1 p1 => hf E H ρ1 H1 S1 ds vs r Q rep1 rx h1 p1
theorem dl_cl {rc : List V → Hp → VK → Prop} {fc : List D → M (List D)} (h : PE X a (tCB rc (Lf G (rDs G.K) E la))) (hf : ClL G rc fc) : DL G X E a (fCall fc la) :=
  pe_imp h fun σ H Q ⟨ρ, S, e, r, rep, re, h, p⟩ => bind_at rep re h p fun ρ1 H1 S1 ds vs st1 rep1 re1 rx h1 p1 => hf E H ρ1 H1 S1 ds vs r Q rep1 rx h1 (fun q => st1.trk q) p1
/-- one new list as the argument -/
def rL1 (K : PySem.W.Frag) : Rl (List D) (List V) := fun H0 ρ H xs vs => ∃ v, vs = [v] ∧ rL K H0 ρ H xs v
theorem da_l (ha : DL G X E a la) (hs : starEach [a] X.env = (false, eval a X.env) :: starEach [] X.env) : PA X [a] (Lf G (rL1 G.K) E la) :=
  pa_imp (pa_cons ha pa_nil hs) fun σ H Q ⟨ρ, S, e, r, rep, re, h, p⟩ => ⟨ρ, S, e, r, rep, re, h, by
    cases r with
    | exc c fs S' => exact p
    | val ds S' => exact fun ρ' H' v st rep' rv => p ρ' H' [v] st rep' ⟨v, rfl, rv⟩⟩
theorem de_cn {rc : List V → Hp → VK → Prop} {fc : List D → M D} (h : PE X a (tCB rc (Lf G (rL1 G.K) E la))) (hf : ClN G rc fc) : DE G X E a (fCall fc la) :=
  pe_imp h fun σ H Q ⟨ρ, S, e, r, rep, re, h, p⟩ => bind_at rep re h p fun ρ1 H1 S1 ds vs st1 rep1 re1 rx h1 p1 => by
    obtain ⟨v, rfl, q, ws, rfl, h0, hn, hq, rv⟩ := rx
    exact hf E H ρ1 H1 S1 q ds ws r Q rep1 hq rv h1 p1
theorem dl_cn {rc : List V → Hp → VK → Prop} {fc : List D → M (List D)} (h : PE X a (tCB rc (Lf G (rL1 G.K) E la))) (hf : ClNL G rc fc) : DL G X E a (fCall fc la) :=
  pe_imp h fun σ H Q ⟨ρ, S, e, r, rep, re, h, p⟩ => bind_at rep re h p fun ρ1 H1 S1 ds vs st1 rep1 re1 rx h1 p1 => by
    obtain ⟨v, rfl, q, ws, rfl, h0, hn, hq, rv⟩ := rx
    exact hf E H ρ1 H1 S1 q ds ws r Q rep1 hq rv h1 (fun q => st1.trk q) p1

theorem RVs.one_inv {K : PySem.W.Frag} {d : D} {vs : List V} (r : RVs K ρ H [d] vs) : ∃ v, vs = [v] ∧ RV K ρ H d v := by
  cases r with | cons h t => cases t; exact ⟨_, rfl, h⟩
theorem RVs.two_inv {K : PySem.W.Frag} {d d' : D} {vs : List V} (r : RVs K ρ H [d, d'] vs) : ∃ v v', vs = [v, v'] ∧ RV K ρ H d v ∧ RV K ρ H d' v' := by
  cases r with | cons h t => obtain ⟨v', rfl, h'⟩ := t.one_inv; exact ⟨_, _, rfl, h, h'⟩

/-- len -/
def cLen : List D → M D
  | [d] => fun S => match seqOf S d with
    | some xs => some (.val (.int xs.length) S)
    | none => none
  | _ => stuck
theorem cl_len (hK : X.K = G.K) : Cl G (fun xs H Q => ∃ p ys, xs = [.ref p] ∧ (SqL X.K H p ys ∨ SqT X.K H p ys) ∧ Q (.int ys.length) H) cLen := by
  intro E H0 ρ H S ds vs r Q rep rv h p
  unfold cLen at h
  split at h
  · obtain ⟨v, rfl, rv1⟩ := rv.one_inv
    split at h
    · rename_i xs hx
      obtain ⟨c, ws, rfl, hq, rs⟩ := seq_of rep hK rv1 hx
      refine ⟨c, ws, rfl, hq, ?_⟩
      rw [rs.len]
      exact Op2.ret1 rep h p (.int _)
    · cases h
  · cases h
/-- tuple(x): of a new list; of a list or a tuple that stands -/
def cTupN : List D → M D := fun xs => ret (.tup xs)
theorem cl_tupN : ClN G (fun xs H Q => ∃ p ys, xs = [.ref p] ∧ ((SqL X.K H p ys ∧ ∀ l, H l = none → Q (.ref l) (upd H l (.tup ys))) ∨ (SqT X.K H p ys ∧ Q (.ref p) H))) cTupN := by
  intro E H0 ρ H S q ds vs r Q rep hq rv h p
  exact ⟨q, vs, rfl, .inl ⟨SqL.of hq, fun l hl => Op2.new1 rep h p hl (.tup upd_same (rv.mono (Step.new hl)))⟩⟩
def cTup : List D → M D
  | [d] => fun S => match seqOf S d with
    | some xs => some (.val (.tup xs) S)
    | none => none
  | _ => stuck
theorem cl_tup (hK : X.K = G.K) : Cl G (fun xs H Q => ∃ p ys, xs = [.ref p] ∧ ((SqL X.K H p ys ∧ ∀ l, H l = none → Q (.ref l) (upd H l (.tup ys))) ∨ (SqT X.K H p ys ∧ Q (.ref p) H))) cTup := by
  intro E H0 ρ H S ds vs r Q rep rv h p
  unfold cTup at h
  split at h
  · rename_i d
    obtain ⟨v, rfl, rv1⟩ := rv.one_inv
    split at h
    · rename_i xs hx
      cases d with
      | tup ys =>
        cases hx
        cases rv1 with | tup ha rs =>
        exact ⟨_, _, rfl, .inr ⟨SqT.of ha, Op2.ret1 rep h p (.tup ha rs)⟩⟩
      | obj n =>
        obtain ⟨c, ws, rfl, hq, rs⟩ := lst_of rep hK rv1 hx
        exact ⟨c, ws, rfl, .inl ⟨hq, fun l hl => Op2.new1 rep h p hl (.tup upd_same (rs.mono (Step.new hl)))⟩⟩
      | rol ns =>
        obtain ⟨c, ws, rfl, hq, rs⟩ := lst_of rep hK rv1 hx
        exact ⟨c, ws, rfl, .inl ⟨hq, fun l hl => Op2.new1 rep h p hl (.tup upd_same (rs.mono (Step.new hl)))⟩⟩
      | _ => cases hx
    · cases h
  · cases h
/-- list(x) of a list or tuple that stands -/
def cList : List D → M (List D)
  | [d] => fun S => match seqOf S d with
    | some xs => some (.val xs S)
    | none => none
  | _ => stuck
theorem cl_list (hK : X.K = G.K) : ClL G (fun xs H Q => ∃ p ys, xs = [.ref p] ∧ (SqL X.K H p ys ∨ SqT X.K H p ys) ∧ ∀ l, H l = none → Q (.ref l) (upd H l (.lst ys))) cList := by
  intro E H0 ρ H S ds vs r Q rep rv h back p
  unfold cList at h
  split at h
  · obtain ⟨v, rfl, rv1⟩ := rv.one_inv
    split at h
    · rename_i xs hx
      obtain ⟨c, ws, rfl, hq, rs⟩ := seq_of rep hK rv1 hx
      exact ⟨c, ws, rfl, hq, fun l hl => newL_at rep h p (back l) hl rs⟩
    · cases h
  · cases h
/-- int(x), abs(x), max(x, y), min(x, y) -/
def cInt : List D → M D
  | [.int i] => ret (.int i)
  | [.bl k] => ret (.int (if k then 1 else 0))
  | _ => stuck
theorem cl_int : Cl G (fun xs H Q => (∃ i, xs = [.int i] ∧ Q (.int i) H) ∨ ∃ k, xs = [.bl k] ∧ Q (.int (if k then 1 else 0)) H) cInt := by
  intro E H0 ρ H S ds vs r Q rep rv h p
  unfold cInt at h
  split at h
  · obtain ⟨v, rfl, rv1⟩ := rv.one_inv
    cases rv1
    exact .inl ⟨_, rfl, Op2.ret1 rep h p (.int _)⟩
  · obtain ⟨v, rfl, rv1⟩ := rv.one_inv
    cases rv1
    exact .inr ⟨_, rfl, Op2.ret1 rep h p (.int _)⟩
  · cases h
def cAbs : List D → M D
  | [.int i] => ret (.int (if i < 0 then -i else i))
  | _ => stuck
theorem cl_abs : Cl G (fun xs H Q => ∃ i, xs = [.int i] ∧ Q (.int (if i < 0 then -i else i)) H) cAbs := by
  intro E H0 ρ H S ds vs r Q rep rv h p
  unfold cAbs at h
  split at h
  · obtain ⟨v, rfl, rv1⟩ := rv.one_inv
    cases rv1
    exact ⟨_, rfl, Op2.ret1 rep h p (.int _)⟩
  · cases h
def cMax2 : List D → M D
  | [.int i, .int j] => ret (.int (if j > i then j else i))
  | _ => stuck
theorem cl_max2 : Cl G (fun xs H Q => ∃ i j, xs = [.int i, .int j] ∧ Q (.int (if j > i then j else i)) H) cMax2 := by
  intro E H0 ρ H S ds vs r Q rep rv h p
  unfold cMax2 at h
  split at h
  · obtain ⟨v, v', rfl, rv1, rv2⟩ := rv.two_inv
    cases rv1; cases rv2
    exact ⟨_, _, rfl, Op2.ret1 rep h p (.int _)⟩
  · cases h
def cMin2 : List D → M D
  | [.int i, .int j] => ret (.int (if j < i then j else i))
  | _ => stuck
theorem cl_min2 : Cl G (fun xs H Q => ∃ i j, xs = [.int i, .int j] ∧ Q (.int (if j < i then j else i)) H) cMin2 := by
  intro E H0 ρ H S ds vs r Q rep rv h p
  unfold cMin2 at h
  split at h
  · obtain ⟨v, v', rfl, rv1, rv2⟩ := rv.two_inv
    cases rv1; cases rv2
    exact ⟨_, _, rfl, Op2.ret1 rep h p (.int _)⟩
  · cases h
/-- range as a value -/
theorem cr_range1 : CallR X (.type "range") (fun vs H Q => ∃ j, vs = [V.int j] ∧ ∀ p, H p = none → Q (.ref p) (upd H p (.rng 0 j))) := by
  intro pins s σ H vs us Q I r h
  obtain ⟨j, rfl, q⟩ := h
  obtain ⟨u1, rfl, ri⟩ := vals1 r
  obtain ⟨t, rfl⟩ := ri
  refine call_range_1 ⟨.ref s.heap.objs.size, upd H s.heap.objs.size (.rng 0 j), I.laid (fun b o e => Heap.get?_push_of_some _ e) (Nat.le_refl _) ?_, rfl, q _ (I.hok.fresh (Nat.le_refl _))⟩
  exact ⟨_, _, _, Heap.get?_push_size _ rfl⟩
def cRange1 : List D → M D
  | [.int j] => ret (.rng 0 j)
  | _ => stuck
def cRange2 : List D → M D
  | [.int i, .int j] => ret (.rng i j)
  | _ => stuck
theorem cl_range1 : Cl G (fun vs H Q => ∃ j, vs = [V.int j] ∧ ∀ p, H p = none → Q (.ref p) (upd H p (.rng 0 j))) cRange1 := by
  intro E H0 ρ H S ds vs r Q rep rv h p
  unfold cRange1 at h
  split at h
  · obtain ⟨v, rfl, rv1⟩ := rv.one_inv
    cases rv1
    exact ⟨_, rfl, fun l hl => Op2.new1 rep h p hl (.rng upd_same)⟩
  · cases h
theorem cl_range2 : Cl G (fun vs H Q => ∃ i j, vs = [V.int i, V.int j] ∧ ∀ p, H p = none → Q (.ref p) (upd H p (.rng i j))) cRange2 := by
  intro E H0 ρ H S ds vs r Q rep rv h p
  unfold cRange2 at h
  split at h
  · obtain ⟨v, v', rfl, rv1, rv2⟩ := rv.two_inv
    cases rv1; cases rv2
    exact ⟨_, _, rfl, fun l hl => Op2.new1 rep h p hl (.rng upd_same)⟩
  · cases h
/-- any, all of a new list of bools -/
def asBls : List D → Option (List Bool)
  | [] => some []
  | .bl b :: r => (asBls r).map (b :: ·)
  | _ => none
theorem asBls_eq : ∀ {xs : List D} {bs : List Bool}, asBls xs = some bs → xs = bs.map D.bl
  | [], _, h => by cases h; rfl
  | .bl i :: r, ns, h => by
    unfold asBls at h
    cases q : asBls r with
    | none => rw [q] at h; cases h
    | some ms =>
      rw [q] at h
      cases h
      simp [asBls_eq q]
  | .non :: _, _, h => by cases h
  | .int _ :: _, _, h => by cases h
  | .str _ :: _, _, h => by cases h
  | .tup _ :: _, _, h => by cases h
  | .rng _ _ :: _, _, h => by cases h
  | .obj _ :: _, _, h => by cases h
  | .rol _ :: _, _, h => by cases h
theorem asBls_map : ∀ bs : List Bool, asBls (bs.map D.bl) = some bs
  | [] => rfl
  | n :: r => by simp [asBls, asBls_map r]
theorem RVs.bls {K : PySem.W.Frag} : ∀ {bs : List Bool} {vs : List V}, RVs K ρ H (bs.map D.bl) vs → vs = bs.map V.bl
  | [], _, .nil => rfl
  | _ :: _, _, .cons h t => by cases h; simp [RVs.bls t]
def cAnyN : List D → M D := fun xs S => match asBls xs with
  | some bs => some (.val (.bl (bs.any id)) S)
  | none => none
def cAllN : List D → M D := fun xs S => match asBls xs with
  | some bs => some (.val (.bl (bs.all id)) S)
  | none => none
theorem cl_anyN : ClN G (rAny X.K) cAnyN := by
  intro E H0 ρ H S q ds vs r Q rep hq rv h p
  unfold cAnyN at h
  split at h
  · rename_i bs hb
    rw [asBls_eq hb] at rv
    have e := rv.bls
    subst e
    exact ⟨q, bs, rfl, SqL.of hq, Op2.ret1 rep h p (.bl _)⟩
  · cases h
theorem cl_allN : ClN G (rAll X.K) cAllN := by
  intro E H0 ρ H S q ds vs r Q rep hq rv h p
  unfold cAllN at h
  split at h
  · rename_i bs hb
    rw [asBls_eq hb] at rv
    have e := rv.bls
    subst e
    exact ⟨q, bs, rfl, SqL.of hq, Op2.ret1 rep h p (.bl _)⟩
  · cases h

/-! ### isinstance of built-in types -/
def tyOf (S : Sto) : D → Option String
  | .non => some "NoneType"
  | .bl _ => some "bool"
  | .int _ => some "int"
  | .str _ => some "str"
  | .tup _ => some "tuple"
  | .obj n => match S[n]? with
    | some (.lst _) => some "list"
    | _ => none
  | _ => none
/-- the asked types, the answers -/
def isiB (a b : String) : Option Bool :=
  if a = "bool" ∧ b = "int" then some true
  else if (a = "NoneType" ∨ a = "bool" ∨ a = "int" ∨ a = "str" ∨ a = "tuple" ∨ a = "list") ∧ (b = "bool" ∨ b = "int" ∨ b = "str" ∨ b = "tuple" ∨ b = "list") then some (decide (a = b)) else none
theorem isiB_ok {K : PySem.W.Frag} {a b : String} {k : Bool} (h : isiB a b = some k) : PySem.W.kitOne K (.type a) (.type b) = some k := by
  apply kit_ty
  unfold isiB at h
  split at h
  · rename_i q
    obtain ⟨rfl, rfl⟩ := q
    cases h
    decide +kernel
  · split at h
    · rename_i q
      obtain ⟨h1, h2⟩ := q
      rcases h1 with rfl | rfl | rfl | rfl | rfl | rfl <;> rcases h2 with rfl | rfl | rfl | rfl | rfl <;> (cases h; first | decide +kernel | (rename_i n; exact absurd ⟨rfl, rfl⟩ n))
    · cases h
def isiAny (a : String) : List String → Option Bool
  | [] => some false
  | b :: r => match isiB a b with
    | some true => some true
    | some false => isiAny a r
    | none => none
theorem isiAny_ok {K : PySem.W.Frag} {a : String} : ∀ {bs : List String} {k : Bool}, isiAny a bs = some k → PySem.W.kitAny K (.type a) (bs.map Value.type) = some k
  | [], _, h => by cases h; exact kitAny_nil
  | b :: r, k, h => by
    unfold isiAny at h
    split at h
    · rename_i q
      cases h
      exact kitAny_cons (isiB_ok q) (fun z => nomatch z) fun _ => rfl
    · rename_i q
      exact kitAny_cons (isiB_ok q) (fun _ => isiAny_ok h) fun z => nomatch z
    · cases h
theorem ty_of {K : PySem.W.Frag} {d : D} {v : V} {n : String} (rep : Rep G ρ H S) (r : RV G.K ρ H d v) (h : tyOf S d = some n) : TyX K H v (.type n) := by
  cases d with
  | non => cases r; cases h; exact .base .non
  | bl b => cases r; cases h; exact .base (.bl b)
  | int i => cases r; cases h; exact .base (.int i)
  | str z => cases r; cases h; exact .base (.str z)
  | tup xs => cases h; cases r with | tup ha _ => exact .base (.tup ha)
  | obj m =>
    cases r with | obj hm =>
    unfold tyOf at h
    simp only at h
    split at h
    · rename_i xs hS
      cases h
      obtain ⟨vs, h1, _⟩ := rep.lst _ _ _ hm hS
      exact .base (.lst h1)
    · cases h
  | rng _ _ => cases h
  | rol _ => cases h
def fIsi (ns : List String) (f : FE) : FE := fun e => bnd (f e) fun d S => match tyOf S d with
  | some t => match isiAny t ns with
    | some k => some (.val (.bl k) S)
    | none => none
  | none => none
theorem de_isi1 {n : String} (hg : L2.Gl X "isinstance") (hm : X.mg "isinstance" = none) (ha : DE G X E a fa) (hT : PE X b (tC (.ty n)))
    (hs : starEach [a, b] X.env = (false, eval a X.env) :: starEach [b] X.env) (hs2 : starEach [b] X.env = (false, eval b X.env) :: starEach [] X.env) (hpl : (backTo pos (starEach [b] X.env)).any (·.1) = false) : DE G X E (.Call (.Name "isinstance" p) [a, b] [] pos) (fIsi [n] fa) :=
  pe_imp (pe_callB call_isi hg hm PyProof.Rows.boot_isinstance (pa_cons ha (pa_cons hT pa_nil hs2) hs) (by decide) (by decide) hs hpl) fun σ H Q ⟨ρ, S, e, r, rep, re, h, p⟩ => bind_at rep re h p fun ρ1 H1 S1 d x st1 rep1 re1 rx h1 p1 => by
    split at h1
    · rename_i t ht
      split at h1
      · rename_i k hk
        unfold isiAny at hk
        split at hk
        · rename_i q; cases hk
          exact ⟨x, _, _, _, true, rfl, .ty n, ty_of rep1 rx ht, isiB_ok q, fin_at rep1 h1 p1 (.bl _)⟩
        · rename_i q; cases hk
          exact ⟨x, _, _, _, false, rfl, .ty n, ty_of rep1 rx ht, isiB_ok q, fin_at rep1 h1 p1 (.bl _)⟩
        · cases hk
      · cases h1
    · cases h1
theorem de_isi2 {n m : String} {a1 b1 : Expr} {k : Nat} {pt : Pos} (hg : L2.Gl X "isinstance") (hm : X.mg "isinstance" = none) (ha : DE G X E a fa) (hT : PE X a1 (tC (.ty n))) (hU : PE X b1 (tC (.ty m)))
    (hs : starEach [a, .Tuple [a1, b1] k pt] X.env = (false, eval a X.env) :: starEach [.Tuple [a1, b1] k pt] X.env) (hsa : starEach [a1, b1] X.env = (false, eval a1 X.env) :: starEach [b1] X.env) (hsb : starEach [b1] X.env = (false, eval b1 X.env) :: starEach [] X.env) :
    DE G X E (.Call (.Name "isinstance" p) [a, .Tuple [a1, b1] k pt] [] pos) (fIsi [n, m] fa) :=
  pe_imp (pe_callB call_isiT hg hm PyProof.Rows.boot_isinstance (pa_cons ha (pa_cons (pe_tup (pa_cons hT (pa_cons hU pa_nil hsb) hsa)) pa_nil rfl) hs) (by decide) (by decide) hs rfl) fun σ H Q ⟨ρ, S, e, r, rep, re, h, p⟩ => bind_at rep re h p fun ρ1 H1 S1 d x st1 rep1 re1 rx h1 p1 => by
    split at h1
    · rename_i t ht
      split at h1
      · rename_i j hk
        refine ⟨by show 2 ≤ sizeLine; decide, fun q hq => ?_⟩
        have st := Step.new (ρ := ρ1) (o := HO.tup [.ty n, .ty m]) hq
        have rep2 := rep1.new (o := HO.tup [.ty n, .ty m]) hq
        refine ⟨x, q, _, _, _, j, rfl, upd_same, .cons (.ty n) (.cons (.ty m) .nil), ty_of rep2 (rx.mono st) ht, isiAny_ok hk, ?_⟩
        exact fin_at rep2 h1 (p1.mono st) (.bl _)
      · cases h1
    · cases h1
end
end Mini
end

section
set_option Elab.async false
set_option linter.all false
set_option maxRecDepth 100000
set_option maxHeartbeats 4000000
namespace Mini
open PySem PySem.Spec PyProof.Rows L2

/-! ### attributes -/
def putD (f : Str) (v : D) : List (Str × D) → List (Str × D)
  | [] => [(f, v)]
  | (g, x) :: r => if g = f then (g, v) :: r else (g, x) :: putD f v r
/-- what the layer knows of the classes -/
def AttOk (G : Gl) (X : Cx) : Prop := ∀ (c f : Str) (C : Addr), G.cls c = some C → G.att c f = true → Cls X.K C ∧ NoAttr X.K C f
section
variable {K : PySem.W.Frag} {ρ : List Addr} {H : Hp}
theorem rf_cons {f : Str} {d : D} {v : V} {fs : List (Str × D)} {vfs : List (Str × V)} (h : RV K ρ H d v) (r : RF K ρ H fs vfs) : RF K ρ H ((f, d) :: fs) ((f, v) :: vfs) := ⟨by simp [r.1], .cons h r.2⟩
theorem rf_inv {p : Str × D} {fs : List (Str × D)} {vfs : List (Str × V)} (r : RF K ρ H (p :: fs) vfs) : ∃ v w, vfs = (p.1, v) :: w ∧ RV K ρ H p.2 v ∧ RF K ρ H fs w := by
  obtain ⟨h1, h2⟩ := r
  cases vfs with
  | nil => simp at h1
  | cons q w =>
    obtain ⟨g, v⟩ := q
    simp only [List.map_cons, List.cons.injEq] at h1
    cases h2 with | cons a t =>
    exact ⟨v, w, by rw [h1.1], a, h1.2, t⟩
theorem rf_nil {vfs : List (Str × V)} (r : RF K ρ H [] vfs) : vfs = [] := by
  have := r.1
  simpa using this.symm
theorem rf_lookup {f : Str} : ∀ {fs : List (Str × D)} {vfs : List (Str × V)} {d : D}, RF K ρ H fs vfs → fs.lookup f = some d → ∃ v, vfs.lookup f = some v ∧ RV K ρ H d v
  | [], _, _, _, h => by cases h
  | (g, x) :: fs, _, d, r, h => by
    obtain ⟨v, w, rfl, rv, rt⟩ := rf_inv r
    simp only [List.lookup] at h ⊢
    by_cases q : f == g
    · rw [q] at h ⊢
      cases h
      exact ⟨v, rfl, rv⟩
    · simp only [q] at h ⊢
      exact rf_lookup rt h
theorem rf_none {f : Str} : ∀ {fs : List (Str × D)} {vfs : List (Str × V)}, RF K ρ H fs vfs → fs.lookup f = none → vfs.lookup f = none
  | [], _, r, h => by rw [rf_nil r]; rfl
  | (g, x) :: fs, _, r, h => by
    obtain ⟨v, w, rfl, rv, rt⟩ := rf_inv r
    simp only [List.lookup] at h ⊢
    by_cases q : f == g
    · rw [q] at h; cases h
    · simp only [q] at h ⊢
      exact rf_none rt h
theorem rf_put {f : Str} {d : D} {v : V} (hv : RV K ρ H d v) : ∀ {fs : List (Str × D)} {vfs : List (Str × V)}, RF K ρ H fs vfs → RF K ρ H (putD f d fs) (putF f v vfs)
  | [], _, r => by rw [rf_nil r]; exact rf_cons hv ⟨rfl, .nil⟩
  | (g, x) :: fs, _, r => by
    obtain ⟨y, w, rfl, rv, rt⟩ := rf_inv r
    show RF K ρ H (if g = f then (g, d) :: fs else (g, x) :: putD f d fs) (if g = f then (g, v) :: w else (g, y) :: putF f v w)
    split
    · exact rf_cons hv rt
    · exact rf_cons rv (rf_put hv rt)
theorem rf_ext {ρ1 : List Addr} {H1 : Hp} {fs : List (Str × D)} {vfs : List (Str × V)} (r : RF K ρ H fs vfs) (a : Ext ρ H ρ1 H1) : RF K ρ1 H1 fs vfs := ⟨r.1, r.2.ext a⟩
theorem rf_length {fs : List (Str × D)} {vfs : List (Str × V)} (r : RF K ρ H fs vfs) : vfs.length = fs.length := by
  have := congrArg List.length r.1
  simpa using this.symm
end
def fFld (G : Gl) (f : Str) (fo : FE) : FE := fun e => bnd (fo e) fun d S => match d with
  | .obj k => match S[k]? with
    | some (.ins c fs) => if G.att c f = true then match fs.lookup f with
      | some x => some (.val x S)
      | none => none
      else none
    | _ => none
  | _ => none
section
variable {G : Gl} {X : Cx} {E : XK} {a b c o : Expr} {es : List Expr} {fa fb fc fo : FE} {ga gb gc : FB} {la lb : FA} {f : Str} {pos p apos : Pos} {x m : Str} {ρ ρ1 : List Addr} {H H0 H1 : Hp} {S : Sto} {e : Env'} {σ : L2.St}
theorem Rep.ins (rep : Rep G ρ H S) {n : Nat} {a : Addr} {c : Str} {fs : List (Str × D)} (h : ρ[n]? = some a) (hS : S[n]? = some (.ins c fs)) : ∃ C dx vfs, G.cls c = some C ∧ H a = some (.ins C dx vfs) ∧ RF G.K ρ H fs vfs := by
  obtain ⟨b, hb, r⟩ := rep.ob n _ hS
  rw [h] at hb; cases hb
  exact r
theorem de_fld (ht : AttOk G X) (ho : DE G X E o fo) (hb : attributeBase o f X.env (eval o X.env) = eval o X.env) : DE G X E (.Attribute o f pos) (fFld G f fo) :=
  pe_imp (pe_fld ho hb) fun σ H Q ⟨ρ, S, e, r, rep, re, h, p⟩ => bind_at rep re h p fun ρ1 H1 S1 d x st1 rep1 re1 rx h1 p1 => by
    split at h1
    · rename_i k
      split at h1
      · rename_i c fs hS
        split at h1
        · rename_i hat
          split at h1
          · rename_i y hy
            cases rx with | obj hk =>
            obtain ⟨C, dx, vfs, hC, hi, rf⟩ := rep1.ins hk hS
            obtain ⟨h3, h4⟩ := ht c f C hC hat
            obtain ⟨v, hv, rv⟩ := rf_lookup rf hy
            exact ⟨_, C, dx, vfs, v, rfl, hi, h3, h4, hv, fin_at rep1 h1 p1 rv⟩
          · cases h1
        · cases h1
      · cases h1
    · cases h1

/-! ### calls of the text's defs -/
def spOf (G : Gl) (n : Nat) (F : List D → M D) : Sp := fun vs H Q E => ∃ ρ S ds r, Rep G ρ H S ∧ RVs G.K ρ H ds vs ∧ ds.length = n ∧ F ds S = some r ∧ Post G (rD G.K) E H ρ H r Q
theorem spOf_len {n : Nat} {F : List D → M D} {vs : List V} {Q : VK} (h : spOf G n F vs H Q E) : vs.length = n := by
  obtain ⟨ρ, S, ds, r, rep, rv, hl, _⟩ := h
  rw [rv.len, hl]
def fCallU (n : Nat) (F : List D → M D) (g : FA) : FE := fun e => bnd (g e) fun ds => if ds.length = n then F ds else stuck
variable {CX : CXT} {k n : Nat} {fa' C : Addr} {fd : FuncData} {ps : List Str} {F : List D → M D}
theorem de_call (FO : FnOk X.prog X.w X.K X.mg X.base CX k fa' fd ps (spOf G n F)) (hr : Room k X.A) (hg : L2.Gl X x) (hm : X.mg x = some (.ref fa')) (hk : PySem.W.keepIn X.K (.ref fa') = true) (hb : Binds X.K fd ps []) (hx : Passes CX X E)
    (ha : DA G X E (a :: es) la) (hdb : (x == ("__debug__" : Str)) = false) (he : starEach (a :: es) X.env = (false, eval a X.env) :: starEach es X.env) (hpl : (backTo pos (starEach es X.env)).any (·.1) = false) :
    DE G X E (.Call (.Name x p) (a :: es) [] pos) (fCallU n F la) :=
  pe_imp (pe_call FO hr hg hm hk hb .nil hx ha hdb he hpl) fun σ H Q ⟨ρ, S, e, r, rep, re, h, p⟩ => bind_at rep re h p fun ρ1 H1 S1 ds vs st1 rep1 re1 rx h1 p1 => by
    split at h1
    · rename_i hl
      rw [List.append_nil]
      exact ⟨ρ1, S1, ds, r, rep1, rx, hl, h1, p1.rD⟩
    · cases h1
/-- o.m(..) -/
def fMeth (c m : Str) (n : Nat) (F : List D → M D) (fo : FE) (g : FA) : FE := fun e => bnd (fo e) fun d S => match d with
  | .obj k => match S[k]? with
    | some (.ins c' fs) => if c' = c ∧ fs.lookup m = none then bnd (g e) (fun ds => if ds.length + 1 = n then F (.obj k :: ds) else stuck) S else none
    | _ => none
  | _ => none
theorem de_meth {cn : Str} (hC : G.cls cn = some C) (hmk : PE X a (tMeth C m (spOf G n F) [] E (Lf G (rD G.K) E fo) (Lf G (rDs G.K) E la))) : DE G X E a (fMeth cn m n F fo la) :=
  pe_imp hmk fun σ H Q ⟨ρ, S, e, r, rep, re, h, p⟩ => bind_at rep re h p fun ρ1 H1 S1 d x st1 rep1 re1 rx h1 p1 => by
    split at h1
    · rename_i j
      split at h1
      · rename_i c' fs hS
        split at h1
        · rename_i hq
          obtain ⟨rfl, hno⟩ := hq
          cases rx with | obj hj =>
          obtain ⟨C', dx, vfs, hC', hi, rf⟩ := rep1.ins hj hS
          rw [hC] at hC'; cases hC'
          refine ⟨_, dx, vfs, rfl, hi, rf_none rf hno, ?_⟩
          refine bind_at rep1 re1 h1 p1 fun ρ2 H2 S2 ds vs st2 rep2 re2 rx2 h2 p2 => ?_
          split at h2
          · rename_i hl
            rw [List.append_nil]
            exact ⟨ρ2, S2, _ :: ds, r, rep2, .cons (.obj (st2.get hj)) rx2, by simpa using hl, h2, p2.rD⟩
          · cases h2
        · cases h1
      · cases h1
    · cases h1
/-- C(..) -/
def fMake (c : Str) (n : Nat) (F : List D → M D) (g : FA) : FE := fun e => bnd (g e) fun ds S => if ds.length + 1 = n then bnd (F (.obj S.length :: ds)) (fun v S' => match v with
  | .non => some (.val (.obj S.length) S')
  | _ => none) (S ++ [.ins c []]) else none
theorem de_make {cn : Str} (hC : G.cls cn = some C) (h : PE X a (tMake C (spOf G n F) [] E (Lf G (rDs G.K) E la))) : DE G X E a (fMake cn n F la) :=
  pe_imp h fun σ H Q ⟨ρ, S, e, r, rep, re, h, p⟩ => bind_at rep re h p fun ρ1 H1 S1 ds vs st1 rep1 re1 rx h1 p1 => by
    intro z dx hz hdx hne
    split at h1
    · rename_i hl
      rw [List.append_nil]
      have hz1 : upd H1 dx (.own z) z = none := by rw [upd_ne (Ne.symm hne)]; exact hz
      have st2 : Step ρ1 H1 ρ1 (upd (upd H1 dx (.own z)) z (.ins C dx [])) := (Step.new hdx).trans (Step.new hz1)
      have rep2 := (rep1.new (o := .own z) hdx).new (o := .ins C dx []) hz1
      have st3 : Step ρ1 H1 (ρ1 ++ [z]) (upd (upd H1 dx (.own z)) z (.ins C dx [])) := st2.pushAt hz
      have hn : z ∉ ρ1 := fun hm => by
        obtain ⟨u, hu, _⟩ := rep1.mem hm
        rw [hz] at hu; cases hu
      have rep3 : Rep G (ρ1 ++ [z]) (upd (upd H1 dx (.own z)) z (.ins C dx [])) (S1 ++ [.ins cn []]) := rep2.push hn ⟨C, dx, [], hC, upd_same, rfl, .nil⟩
      have hzn : (ρ1 ++ [z])[S1.length]? = some z := by rw [← rep1.len]; simp
      cases hF : F (.obj S1.length :: ds) (S1 ++ [.ins cn []]) with
      | none => unfold bnd at h1; rw [hF] at h1; cases h1
      | some q =>
        refine ⟨ρ1 ++ [z], S1 ++ [.ins cn []], .obj S1.length :: ds, q, rep3, .cons (.obj hzn) (RVs.mono rx st3), by simpa using hl, hF, ?_⟩
        unfold bnd at h1
        rw [hF] at h1
        cases q with
        | exc c fs S2 =>
          cases h1
          exact PostX.mono p1 st3
        | val v S2 =>
          intro ρ2 H2 w st4 rep4 rw4
          cases v with
          | non =>
            cases rw4
            refine ⟨rfl, ?_⟩
            cases h1
            exact p1 ρ2 H2 _ (st3.trans st4) rep4 (.obj (st4.get hzn))
          | _ => cases h1
    · cases h1
end
end Mini
end

section
set_option Elab.async false
set_option linter.all false
set_option maxRecDepth 100000
set_option maxHeartbeats 4000000
namespace Mini
open PySem PySem.Spec PyProof.Rows L2

inductive SRes where
  | nx (e : Env') (S : Sto)
  | rt (d : D) (S : Sto)
  | bk (e : Env') (S : Sto)
  | ct (e : Env') (S : Sto)
  | ex (c : Str) (fs : List (Str × D)) (S : Sto)
abbrev FS := Env' → Sto → Option SRes

section
variable {G : Gl} {E : XK} {ρ ρ1 : List Addr} {H H0 H1 : Hp} {S : Sto} {e : Env'} {σ : L2.St}
/-- an end at slots of these values -/
def PostE (G : Gl) (ρ : List Addr) (H : Hp) (e : Env') (S : Sto) (Q : L2.St → Hp → Prop) : Prop := ∀ ρ' H' σ', Step ρ H ρ' H' → Rep G ρ' H' S → RE G.K ρ' H' e σ' → Q σ' H'
def PostS (G : Gl) (E : XK) (ρ : List Addr) (H : Hp) (r : SRes) (Z : Ends) : Prop :=
  match r with
  | .nx e S => PostE G ρ H e S Z.nx
  | .bk e S => PostE G ρ H e S Z.bk
  | .ct e S => PostE G ρ H e S Z.ct
  | .rt d S => ∀ ρ' H' v, Step ρ H ρ' H' → Rep G ρ' H' S → RV G.K ρ' H' d v → Z.rt v H'
  | .ex c fs S => PostX G E ρ H c fs S
theorem PostE.mono {Q : L2.St → Hp → Prop} (p : PostE G ρ H e S Q) (a : Step ρ H ρ1 H1) : PostE G ρ1 H1 e S Q := fun ρ' H' σ' st => p ρ' H' σ' (a.trans st)
theorem PostS.mono {r : SRes} {Z : Ends} (p : PostS G E ρ H r Z) (a : Step ρ H ρ1 H1) : PostS G E ρ1 H1 r Z := by
  cases r with
  | nx e S => exact PostE.mono p a
  | bk e S => exact PostE.mono p a
  | ct e S => exact PostE.mono p a
  | rt d S => exact fun ρ' H' v st => p ρ' H' v (a.trans st)
  | ex c fs S => exact PostX.mono p a
def LfS (G : Gl) (E : XK) (f : FS) : TS := fun Z σ H => ∃ ρ S e r, Rep G ρ H S ∧ RE G.K ρ H e σ ∧ f e S = some r ∧ PostS G E ρ H r Z
abbrev DS (G : Gl) (X : Cx) (E : XK) (st : Stmt) (f : FS) : Prop := PS X st (LfS G E f)
abbrev DSs (G : Gl) (X : Cx) (E : XK) (st : List Stmt) (f : FS) : Prop := PSs X st (LfS G E f)
/-- an expression, then a statement's end -/
def sB {α : Type} (m : M α) (k : α → Sto → Option SRes) : Sto → Option SRes := fun S => match m S with
  | none => none
  | some (.exc c fs S1) => some (.ex c fs S1)
  | some (.val a S1) => k a S1
theorem sB_at {α β : Type} {RA : Rl α β} {m : Env' → M α} {k : α → Sto → Option SRes} {r : SRes} {Z : Ends} {P : β → Hp → Prop} (rep : Rep G ρ H S) (re : RE G.K ρ H e σ) (h : sB (m e) k S = some r) (p : PostS G E ρ H r Z)
    (hk : ∀ ρ1 H1 S1 a x, Step ρ H ρ1 H1 → Rep G ρ1 H1 S1 → RE G.K ρ1 H1 e σ → RA H ρ1 H1 a x → k a S1 = some r → PostS G E ρ1 H1 r Z → P x H1) : Lf G RA E m σ H P := by
  unfold sB at h
  cases hm : m e S with
  | none => rw [hm] at h; cases h
  | some q =>
    rw [hm] at h
    refine ⟨ρ, S, e, q, rep, re, hm, ?_⟩
    cases q with
    | exc c fs S1 =>
      simp only [Option.some.injEq] at h
      subst h
      exact p
    | val a S1 => exact fun ρ' H' b st rep' ra => hk ρ' H' S1 a b st rep' (re.mono st) ra h (p.mono st)
end

def sNil : FS := fun e S => some (.nx e S)
def sSeq (f g : FS) : FS := fun e S => match f e S with
  | some (.nx e1 S1) => g e1 S1
  | r => r
def sRet (f : FE) : FS := fun e => sB (f e) fun d S => some (.rt d S)
def sRetN : FS := fun _ S => some (.rt .non S)
def sDrop (f : FE) : FS := fun e => sB (f e) fun _ S => some (.nx e S)
def sIf (c : FB) (f g : FS) : FS := fun e => sB (c e) fun b S => if b = true then f e S else g e S
def sBrk : FS := fun e S => some (.bk e S)
def sCnt : FS := fun e S => some (.ct e S)
section
variable {G : Gl} {X : Cx} {E : XK} {a b c o : Expr} {st : Stmt} {rest bod : List Stmt} {fa fb fc fo : FE} {ga gb gc : FB} {la lb : FA} {f g : FS} {pos p apos : Pos} {x : Str} {ρ ρ1 : List Addr} {H H0 H1 : Hp} {S : Sto} {e : Env'} {σ : L2.St}
theorem dss_nil : DSs G X E [] sNil := pss_imp pss_nil fun Z σ H ⟨ρ, S, e, r, rep, re, h, p⟩ => by
  cases h
  exact p ρ H σ (.refl _ _) rep re
theorem ds_pass : DS G X E (.Pass pos) sNil := ps_imp ps_pass fun Z σ H ⟨ρ, S, e, r, rep, re, h, p⟩ => by
  cases h
  exact p ρ H σ (.refl _ _) rep re
theorem ds_break : DS G X E (.Break pos) sBrk := ps_imp ps_break fun Z σ H ⟨ρ, S, e, r, rep, re, h, p⟩ => by
  cases h
  exact p ρ H σ (.refl _ _) rep re
theorem ds_continue : DS G X E (.Continue pos) sCnt := ps_imp ps_continue fun Z σ H ⟨ρ, S, e, r, rep, re, h, p⟩ => by
  cases h
  exact p ρ H σ (.refl _ _) rep re
theorem dss_cons (h1 : DS G X E st f) (h2 : DSs G X E rest g) : DSs G X E (st :: rest) (sSeq f g) :=
  pss_imp (pss_cons h1 h2) fun Z σ H ⟨ρ, S, e, r, rep, re, h, p⟩ => by
    unfold sSeq at h
    cases hf : f e S with
    | none => rw [hf] at h; cases h
    | some q =>
      rw [hf] at h
      refine ⟨ρ, S, e, q, rep, re, hf, ?_⟩
      cases q with
      | nx e1 S1 => exact fun ρ' H' σ' st rep' re' => ⟨ρ', S1, e1, r, rep', re', h, p.mono st⟩
      | bk e1 S1 => cases h; exact p
      | ct e1 S1 => cases h; exact p
      | rt d S1 => cases h; exact p
      | ex c fs S1 => cases h; exact p
theorem ds_ret (h : DE G X E a fa) : DS G X E (.Return (some a) pos) (sRet fa) :=
  ps_imp (ps_ret h) fun Z σ H ⟨ρ, S, e, r, rep, re, h, p⟩ => sB_at rep re h p fun ρ1 H1 S1 d x st1 rep1 re1 rx h1 p1 => by
    cases h1
    exact p1 ρ1 H1 x (.refl _ _) rep1 rx
theorem ds_retN : DS G X E (.Return none pos) sRetN := ps_imp ps_retN fun Z σ H ⟨ρ, S, e, r, rep, re, h, p⟩ => by
  cases h
  exact p ρ H .non (.refl _ _) rep .non
theorem ds_drop (h : DE G X E a fa) (hs : swapsWith a none pos.line X.env = pure false) : DS G X E (.Expr a pos) (sDrop fa) :=
  ps_imp (ps_expr h hs) fun Z σ H ⟨ρ, S, e, r, rep, re, h, p⟩ => sB_at rep re h p fun ρ1 H1 S1 d x st1 rep1 re1 rx h1 p1 => by
    cases h1
    exact p1 ρ1 H1 σ (.refl _ _) rep1 re1
theorem ds_if (hc : DT G X E c gc) (h1 : DSs G X E rest f) (h2 : DSs G X E bod g) : DS G X E (.If c rest bod pos) (sIf gc f g) :=
  ps_imp (ps_if hc h1 h2) fun Z σ H ⟨ρ, S, e, r, rep, re, h, p⟩ => sB_at rep re h p fun ρ1 H1 S1 d x st1 rep1 re1 rx h1 p1 => by
    cases rx
    cases d with
    | true => exact ⟨ρ1, S1, e, r, rep1, re1, h1, p1⟩
    | false => exact ⟨ρ1, S1, e, r, rep1, re1, h1, p1⟩

/-! ### targets -/
/-- a target of names: what it does to the slots -/
abbrev FG := D → Env' → Option Env'
def gVar (i : Nat) : FG := fun d e => some (e.set i (some d))
def gAll : List FG → List D → Env' → Option Env'
  | [], [], e => some e
  | g :: gs, d :: ds, e => match g d e with
    | some e1 => gAll gs ds e1
    | none => none
  | _, _, _ => none
def gTupD (gs : List FG) : FG := fun d e => match d with
  | .tup xs => gAll gs xs e
  | _ => none
/-- the reading of a target that writes at most the slots at is -/
def LfG (G : Gl) (is : List Nat) (g : FG) : TG := fun v σ H Q => ∃ ρ S e d e', Rep G ρ H S ∧ RE G.K ρ H e σ ∧ RV G.K ρ H d v ∧ g d e = some e' ∧
  ∀ σ', RE G.K ρ H e' σ' → (∀ vs, (∀ j ∈ is, j ∈ vs) → wipe σ' vs = wipe σ vs) → Q σ' H
def LfGs (G : Gl) (is : List Nat) (gs : List FG) : TGs := fun vs σ H Q => ∃ ρ S e ds e', Rep G ρ H S ∧ RE G.K ρ H e σ ∧ RVs G.K ρ H ds vs ∧ gAll gs ds e = some e' ∧
  ∀ σ', RE G.K ρ H e' σ' → (∀ vs, (∀ j ∈ is, j ∈ vs) → wipe σ' vs = wipe σ vs) → Q σ' H
abbrev DG (G : Gl) (X : Cx) (tg : Expr) (is : List Nat) (g : FG) : Prop := PG X tg (LfG G is g)
abbrev DGs (G : Gl) (X : Cx) (tgs : List Expr) (is : List Nat) (gs : List FG) : Prop := PGs X tgs (LfGs G is gs)
theorem pg_imp {tg : Expr} {t u : TG} (h : PG X tg t) (w : ∀ v σ H Q, u v σ H Q → t v σ H Q) : PG X tg u := ⟨fun pins s σ H v u' Q I r q => h.run pins s σ H v u' Q I r (w v σ H Q q)⟩
theorem pgs_imp {tg : List Expr} {t u : TGs} (h : PGs X tg t) (w : ∀ v σ H Q, u v σ H Q → t v σ H Q) : PGs X tg u := ⟨fun pins s σ H v u' Q I r q => h.run pins s σ H v u' Q I r (w v σ H Q q)⟩
theorem wipe_set {σ : L2.St} {i : Nat} {v : V} : ∀ {vs : List Nat}, i ∈ vs → wipe (σ.set i (some v)) vs = wipe σ vs
  | j :: vs, h => by
    unfold wipe
    by_cases q : i ∈ vs
    · rw [wipe_set q]
    · have e : i = j := by
        rcases List.mem_cons.mp h with e | e
        · exact e
        · exact absurd e q
      subst e
      have : ∀ (ws : List Nat), i ∉ ws → wipe (σ.set i (some v)) ws = (wipe σ ws).set i (some v) := by
        intro ws
        induction ws with
        | nil => intro _; rfl
        | cons k ws ih =>
          intro hk
          simp only [List.mem_cons, not_or] at hk
          unfold wipe
          rw [ih hk.2, List.set_comm _ _ hk.1]
      rw [this vs q, List.set_set]
theorem dg_name {i : Nat} (hN : X.N.Nodup) (hi : X.N[i]? = some x) (hx : Loc X.env.scope x) (hf : X.fn x = true ∨ X.env.scope.names.lookup x = some .local) : DG G X (.Name x pos) [i] (gVar i) :=
  pg_imp (pg_name hN hi hx hf) fun v σ H Q ⟨ρ, S, e, d, e', rep, re, rv, h, k⟩ => by
    cases h
    exact k _ (re.set rv) fun vs hv => wipe_set (hv i (by simp))
theorem dgs_nil {is : List Nat} : DGs G X [] is [] :=
  pgs_imp pgs_nil fun v σ H Q ⟨ρ, S, e, ds, e', rep, re, rv, h, k⟩ => by
    cases rv with
    | nil => cases h; exact ⟨rfl, k σ re fun _ _ => rfl⟩
    | cons _ _ => cases h
theorem dgs_cons {tg : Expr} {tgs : List Expr} {is js ks : List Nat} {g : FG} {gs : List FG} (h1 : DG G X tg is g) (h2 : DGs G X tgs js gs) (hi : ∀ j ∈ is, j ∈ ks) (hj : ∀ j ∈ js, j ∈ ks)
    (hs : (assignEach (tg :: tgs) X.env).map (·.2) = assign tg X.env :: (assignEach tgs X.env).map (·.2)) : DGs G X (tg :: tgs) ks (g :: gs) :=
  pgs_imp (pgs_cons h1 h2 hs) fun v σ H Q ⟨ρ, S, e, ds, e', rep, re, rv, h, k⟩ => by
    cases rv with
    | nil => cases h
    | cons r1 r2 =>
      unfold gAll at h
      split at h
      · rename_i e1 he1
        refine ⟨_, _, rfl, ρ, S, e, _, e1, rep, re, r1, he1, fun σ1 re1 w1 => ?_⟩
        exact ⟨ρ, S, e1, _, e', rep, re1, r2, h, fun σ2 re2 w2 => k σ2 re2 fun vs hv => (w2 vs fun j m => hv j (hj j m)).trans (w1 vs fun j m => hv j (hi j m))⟩
      · cases h
theorem gAll_length : ∀ {gs : List FG} {ds : List D} {e e' : Env'}, gAll gs ds e = some e' → ds.length = gs.length
  | [], [], _, _, _ => rfl
  | [], _ :: _, _, _, h => by cases h
  | _ :: _, [], _, _, h => by cases h
  | g :: gs, d :: ds, e, e', h => by
    unfold gAll at h
    split at h
    · simp [gAll_length h]
    · cases h
theorem dg_tup {es : List Expr} {k : Nat} {is : List Nat} {gs : List FG} (hc : X.calm = true) (h : DGs G X es is gs) (hn : (assignEach es X.env).length = gs.length) (hst : (assignEach es X.env).findIdx? (·.1) = none) : DG G X (.Tuple es k pos) is (gTupD gs) :=
  pg_imp (pg_tup hc h hn hst) fun v σ H Q ⟨ρ, S, e, d, e', rep, re, rv, h, k⟩ => by
    cases d with
    | tup xs =>
      cases rv with | tup ha rs =>
      exact ⟨_, _, rfl, SqT.of ha, by rw [rs.len]; exact gAll_length h, ρ, S, e, xs, e', rep, re, rs, h, k⟩
    | _ => cases h
/-- target = value, the target of names -/
def sAsg (f : FE) (g : FG) : FS := fun e => sB (f e) fun d S => match g d e with
  | some e' => some (.nx e' S)
  | none => none
theorem ds_asg {tg : Expr} {is : List Nat} {gg : FG} (h : DE G X E a fa) (hg : DG G X tg is gg) (hs : swapsWithSole [tg] a pos.line X.env = pure false) (hw : swappedStores [tg] a X.env = pure none)
    (h1 : (assignEach [tg] X.env).map (·.2) = [assign tg X.env]) : DS G X E (.Assign [tg] a pos) (sAsg fa gg) :=
  ps_imp (ps_asg h hg hs hw h1) fun Z σ H ⟨ρ, S, e, r, rep, re, h, p⟩ => sB_at rep re h p fun ρ1 H1 S1 d x st1 rep1 re1 rx h1 p1 => by
    split at h1
    · rename_i e' he
      cases h1
      exact ⟨ρ1, S1, e, d, e', rep1, re1, rx, he, fun σ' re' _ => p1 ρ1 H1 σ' (.refl _ _) rep1 re'⟩
    · cases h1
/-- the same where the value is read by another form (a comprehension stored at once) -/
theorem ds_asg_of {te : TE} {i : Nat} (h : PS X st (tAsg te (gName i))) (hl : ∀ σ H Q, Lf G (rD G.K) E fa σ H Q → te σ H Q) : DS G X E st (sAsg fa (gVar i)) :=
  ps_imp h fun Z σ H ⟨ρ, S, e, r, rep, re, h, p⟩ => hl σ H _ (sB_at rep re h p fun ρ1 H1 S1 d x st1 rep1 re1 rx h1 p1 => by
    cases h1
    exact p1 ρ1 H1 _ (.refl _ _) rep1 (re1.set rx))

/-! ### stores into objects -/
/-- o[i] = v by values -/
def SetD (G : Gl) (t : TSet) (f : D → D → D → Sto → Option Sto) : Prop := ∀ (ρ : List Addr) (H : Hp) (S S' : Sto) (o i d : D) (ov iv v : V) (Q : Hp → Prop), Rep G ρ H S → RV G.K ρ H o ov → RV G.K ρ H i iv → RV G.K ρ H d v → f o i d S = some S' →
  (∀ ρ' H', Step ρ H ρ' H' → Rep G ρ' H' S' → Q H') → t ov iv v H Q
def sSub (f fo fi : FE) (w : D → D → D → Sto → Option Sto) : FS := fun e => sB (f e) fun d => sB (fo e) fun o => sB (fi e) fun i S => match w o i d S with
  | some S' => some (.nx e S')
  | none => none
theorem ds_sub {i : Expr} {fi : FE} {t : TSet} {w : D → D → D → Sto → Option Sto} {p2 : Pos} (h : DE G X E a fa) (ho : DE G X E o fo) (hi : DE G X E i fi) (ht : PSet X t) (hw : SetD G t w)
    (ha : ∀ v, assign (.Subscript o i p2) X.env v = (do
      let ov ← holding [v] (eval o X.env)
      let iv ← holding [v, ov] (eval i X.env)
      standAt p2
      holding [v, ov, iv] (setItem ov iv v)
      release [v, ov, iv] []))
    (hs : swapsWithSole [.Subscript o i p2] a pos.line X.env = pure false) (hsw : swappedStores [.Subscript o i p2] a X.env = pure none) : DS G X E (.Assign [.Subscript o i p2] a pos) (sSub fa fo fi w) :=
  ps_imp (ps_asg h (pg_sub ho hi ht ha) hs hsw) fun Z σ H ⟨ρ, S, e, r, rep, re, h, p⟩ => sB_at rep re h p fun ρ1 H1 S1 d x st1 rep1 re1 rx h1 p1 =>
    sB_at rep1 re1 h1 p1 fun ρ2 H2 S2 od ov st2 rep2 re2 rx2 h2 p2 => sB_at rep2 re2 h2 p2 fun ρ3 H3 S3 ix iv st3 rep3 re3 rx3 h3 p3 => by
      split at h3
      · rename_i S' hS
        cases h3
        exact hw ρ3 H3 S3 S' od ix d ov iv x _ rep3 (rx2.mono st3) rx3 ((rx.mono st2).mono st3) hS fun ρ' H' st rep' => p3 ρ' H' σ st rep' (re3.mono st)
      · cases h3
/-- a list's item -/
def wLst : D → D → D → Sto → Option Sto := fun o i d S => match o, i with
  | .obj n, .int k => match S[n]? with
    | some (.lst xs) => match ixN xs.length k with
      | some j => some (S.set n (.lst (xs.set j d)))
      | none => none
    | _ => none
  | _, _ => none
theorem setD_lst : SetD G rSetL wLst := by
  intro ρ H S S' o i d ov iv v Q rep ro ri rd h k
  unfold wLst at h
  split at h
  · rename_i n z
    split at h
    · rename_i xs hS
      split at h
      · rename_i j hj
        cases h
        cases ri
        cases ro with | obj hn =>
        obtain ⟨vs, hv, rv⟩ := rep.lst _ _ _ hn hS
        refine ⟨_, vs, z, j, rfl, rfl, hv, by rw [rv.len]; exact hj, ?_⟩
        have st := Step.write (u := HO.lst (vs.set j v)) hn hv id
        exact k ρ _ st (rep.write hn hv id ⟨_, upd_same, ((rv.set rd j).mono st)⟩)
      · cases h
    · cases h
  · cases h
/-- o.f = v -/
def sFldD (G : Gl) (fo f : FE) (nm : Str) : FS := fun e => sB (f e) fun d => sB (fo e) fun o S => match o with
  | .obj n => match S[n]? with
    | some (.ins c fs) => if G.att c nm = true ∧ fs.length < 1000 then some (.nx e (S.set n (.ins c (putD nm d fs)))) else none
    | _ => none
  | _ => none
theorem ds_fld {nm : Str} {p2 : Pos} (ht : AttOk G X) (ho : DE G X E o fo) (h : DE G X E a fa) (hs : swapsWith a (some (.Attribute o nm p2)) pos.line X.env = pure false) : DS G X E (.Assign [.Attribute o nm p2] a pos) (sFldD G fo fa nm) :=
  ps_imp (ps_fld ho h hs) fun Z σ H ⟨ρ, S, e, r, rep, re, h, p⟩ => sB_at rep re h p fun ρ1 H1 S1 d x st1 rep1 re1 rx h1 p1 => sB_at rep1 re1 h1 p1 fun ρ2 H2 S2 od ov st2 rep2 re2 rx2 h2 p2 => by
    split at h2
    · rename_i n
      split at h2
      · rename_i c fs hS
        split at h2
        · rename_i hq
          cases h2
          cases rx2 with | obj hn =>
          obtain ⟨C, dx, vfs, hC, hi, rf⟩ := rep2.ins hn hS
          obtain ⟨q1, q2⟩ := ht c nm C hC hq.1
          refine ⟨_, C, dx, vfs, rfl, hi, q1, q2, by rw [rf_length rf]; exact hq.2, ?_⟩
          have st := Step.write (u := HO.ins C dx (putF nm x vfs)) hn hi id
          exact p2 ρ2 _ σ st (rep2.write hn hi id ⟨C, dx, _, hC, upd_same, rf_ext (rf_put (rx.mono st2) rf) st.ext⟩) (re2.mono st)
        · cases h2
      · cases h2
    · cases h2

/-! ### what is walked -/
/-- the i-th item at a store; some none: the end -/
abbrev ItF := Nat → Sto → Option (Option D)
def ItOk (G : Gl) (J : It) (ρ : List Addr) (H : Hp) (it : ItF) : Prop := ∀ ρ' H' S' i, Ext ρ H ρ' H' → Rep G ρ' H' S' →
  (it i S' = some none → J.stop i H') ∧ ∀ d, it i S' = some (some d) → J.go i H' ∧ ∀ x H2, J.yld i H' x H2 → Step ρ' H' ρ' H2 ∧ Rep G ρ' H2 S' ∧ RV G.K ρ' H2 d x
def rI (G : Gl) : Rl ItF It := fun _ ρ H it J => ItOk G J ρ H it
abbrev FI := Env' → M ItF
abbrev DI (G : Gl) (X : Cx) (E : XK) (tg iter : Expr) (f : FI) : Prop := PI X tg iter (Lf G (rI G) E f)
theorem pi_imp {tg iter : Expr} {t u : TI} (h : PI X tg iter t) (w : ∀ σ H Q, u σ H Q → t σ H Q) : PI X tg iter u := ⟨fun pins s σ H Q I q => h.run pins s σ H Q I (w σ H Q q)⟩
theorem ItOk.mono {J : It} {it : ItF} (h : ItOk G J ρ H it) (a : Ext ρ H ρ1 H1) : ItOk G J ρ1 H1 it := fun ρ' H' S' i st => h ρ' H' S' i (a.trans st)
/-- the turns -/
def loopN (it : ItF) (g : FG) (body : FS) : Nat → Nat → Env' → Sto → Option SRes
  | 0, _, _, _ => none
  | n + 1, i, e, S => match it i S with
    | none => none
    | some none => some (.nx e S)
    | some (some d) => match g d e with
      | none => none
      | some e1 => match body e1 S with
        | some (.nx e2 S2) => loopN it g body n (i + 1) e2 S2
        | some (.ct e2 S2) => loopN it g body n (i + 1) e2 S2
        | some (.bk e2 S2) => some (.nx e2 S2)
        | r => r
def sFor (fi : FI) (g : FG) (body : FS) : FS := fun e => sB (fi e) fun it S => loopN it g body (lim + 1) 0 e S
theorem ds_for {tg iter : Expr} {fi : FI} {is : List Nat} {gg : FG} (hp : PassesOwn (model X.prog X.w) X.A X.env X.xe) (hc : X.calm = true) (hi : DI G X E tg iter fi) (hg : DG G X tg is gg) (hb : DSs G X E bod f)
    (hs : ∀ x, foldedSetIterable iter X.env x = pure x) : DS G X E (.For tg iter bod [] pos) (sFor fi gg f) :=
  ps_imp (ps_for hp hc hi hg hb hs) fun Z σ H ⟨ρ, S, e, r, rep, re, h, p⟩ => sB_at rep re h p fun ρ1 H1 S1 it J st1 rep1 re1 rx h1 p1 => by
    refine ⟨fun i m σ H => ∃ ρ' S' e', Step ρ1 H1 ρ' H ∧ Rep G ρ' H S' ∧ RE G.K ρ' H e' σ ∧ loopN it gg f m i e' S' = some r, ⟨lim + 1, ρ1, S1, e, .refl _ _, rep1, re1, h1⟩, ?_⟩
    rintro i m σ2 H2 ⟨ρ2, S2, e2, st2, rep2, re2, h2⟩
    have p2 := p1.mono st2
    have ok := rx ρ2 H2 S2 i st2.ext rep2
    cases m with
    | zero => cases h2
    | succ n =>
      unfold loopN at h2
      split at h2
      · cases h2
      · rename_i hit
        cases h2
        exact .inl ⟨ok.1 hit, p2 ρ2 H2 σ2 (.refl _ _) rep2 re2⟩
      · rename_i d hit
        split at h2
        · cases h2
        · rename_i e3 hg3
          obtain ⟨go, yl⟩ := ok.2 d hit
          refine .inr ⟨go, fun σ' H' => ∃ ρ' S' e', Step ρ1 H1 ρ' H' ∧ Rep G ρ' H' S' ∧ RE G.K ρ' H' e' σ' ∧ loopN it gg f n (i + 1) e' S' = some r, fun σ' H' q => ⟨n, Nat.lt_succ_self n, q⟩, fun x H3 hy => ?_⟩
          obtain ⟨st3, rep3, rx3⟩ := yl x H3 hy
          refine ⟨ρ2, S2, e2, d, e3, rep3, re2.mono st3, rx3, hg3, fun σ3 re3 _ => ?_⟩
          cases hbd : f e3 S2 with
          | none => rw [hbd] at h2; cases h2
          | some q =>
            rw [hbd] at h2
            refine ⟨ρ2, S2, e3, q, rep3, re3, hbd, ?_⟩
            have p3 := p2.mono st3
            cases q with
            | nx e4 S4 => exact fun ρ' H' σ' st rep' re' => ⟨ρ', S4, e4, (st2.trans st3).trans st, rep', re', h2⟩
            | ct e4 S4 => exact fun ρ' H' σ' st rep' re' => ⟨ρ', S4, e4, (st2.trans st3).trans st, rep', re', h2⟩
            | bk e4 S4 => cases h2; exact p3
            | rt d4 S4 => cases h2; exact p3
            | ex c fs S4 => cases h2; exact p3
/-- while -/
def whileN (c : FB) (body : FS) : Nat → Env' → Sto → Option SRes
  | 0, _, _ => none
  | n + 1, e, S => sB (c e) (fun b S1 => if b = true then match body e S1 with
      | some (.nx e2 S2) => whileN c body n e2 S2
      | some (.ct e2 S2) => whileN c body n e2 S2
      | some (.bk e2 S2) => some (.nx e2 S2)
      | r => r
    else some (.nx e S1)) S
def sWhile (c : FB) (body : FS) : FS := fun e S => whileN c body (lim + 1) e S
theorem ds_while (hp : PassesOwn (model X.prog X.w) X.A X.env X.xe) (hc : DT G X E c gc) (hb : DSs G X E bod f) : DS G X E (.While c bod [] pos) (sWhile gc f) :=
  ps_imp (ps_while hp hc hb) fun Z σ H ⟨ρ, S, e, r, rep, re, h, p⟩ => by
    refine ⟨fun m σ' H' => ∃ ρ' S' e', Step ρ H ρ' H' ∧ Rep G ρ' H' S' ∧ RE G.K ρ' H' e' σ' ∧ whileN gc f m e' S' = some r, ⟨lim + 1, ρ, S, e, .refl _ _, rep, re, h⟩, ?_⟩
    rintro m σ1 H1 ⟨ρ1, S1, e1, st1, rep1, re1, h1⟩
    cases m with
    | zero => cases h1
    | succ n =>
      unfold whileN at h1
      refine sB_at rep1 re1 h1 (p.mono st1) fun ρ2 H2 S2 b y st2 rep2 re2 rx h2 p2 => ?_
      cases rx
      cases b with
      | false =>
        cases h2
        exact p2 ρ2 H2 σ1 (.refl _ _) rep2 re2
      | true =>
        refine ⟨fun σ' H' => ∃ ρ' S' e', Step ρ H ρ' H' ∧ Rep G ρ' H' S' ∧ RE G.K ρ' H' e' σ' ∧ whileN gc f n e' S' = some r, fun σ' H' q => ⟨n, Nat.lt_succ_self n, q⟩, ?_⟩
        simp only [if_true] at h2
        cases hbd : f e1 S2 with
        | none => rw [hbd] at h2; cases h2
        | some q =>
          rw [hbd] at h2
          refine ⟨ρ2, S2, e1, q, rep2, re2, hbd, ?_⟩
          cases q with
          | nx e4 S4 => exact fun ρ' H' σ' st rep' re' => ⟨ρ', S4, e4, (st1.trans st2).trans st, rep', re', h2⟩
          | ct e4 S4 => exact fun ρ' H' σ' st rep' re' => ⟨ρ', S4, e4, (st1.trans st2).trans st, rep', re', h2⟩
          | bk e4 S4 => cases h2; exact p2
          | rt d4 S4 => cases h2; exact p2
          | ex c fs S4 => cases h2; exact p2
end
end Mini
end

section
set_option Elab.async false
set_option linter.all false
set_option maxRecDepth 100000
set_option maxHeartbeats 4000000
namespace Mini
open PySem PySem.Spec PyProof.Rows L2

/-! ### a value that is walked: a list, a tuple, a range -/
section
variable {X : Cx} {tg a : Expr} {ta : TE} {pins : List (Addr × Obj)} {σ : L2.St} {H : Hp} {s : Shared}
def iVal (K : PySem.W.Frag) (ta : TE) : TI := fun σ H R => ta σ H fun x H1 => ∃ c, x = .ref c ∧
  (((∃ xs, SqL K H1 c xs) ∧ R (Itl K c) H1) ∨ ((∃ xs, SqT K H1 c xs) ∧ R (Itt K c) H1) ∨
    ∃ lo hi, H1 c = some (.rng lo hi) ∧ (-(2 ^ 62) ≤ lo ∧ lo < 2 ^ 62 ∧ -(2 ^ 62) ≤ hi ∧ hi < 2 ^ 62) ∧ R (Itr lo (hi - lo).toNat) H1)
/-- an iterator of one new cell -/
theorem pie_one {R : It → Hp → Prop} {J : It} {tn : Nat → Heap → Prop} {ob : Obj} (I : Inv X pins σ H s) (T : Turn X.prog X.w X.K tg J [s.heap.objs.size] s.heap.objs.size tn) (h0 : tn 0 (s.heap.push ob)) (q : R J H) :
    PIE X pins σ tg R (.ref s.heap.objs.size) { s with heap := s.heap.push ob } := by
  refine ⟨_, _, tn, J, H, rfl, I.kept (t' := s.toks) fun b o e => Heap.get?_push_of_some _ e, T, h0, fun b hb => ?_, q⟩
  rw [List.mem_singleton.mp hb]
  exact I.fpOk (Nat.le_refl _) (I.hok.fresh (Nat.le_refl _))
theorem pi_val (ha : PE X a ta) : PI X tg a (iVal X.K ta) := by
  refine ⟨fun pins s σ H R I h => ?_⟩
  refine thn (ha.run pins s σ H _ I h) fun v s1 ⟨x, H1, I1, r1, c, e, q1⟩ => ?_
  subst e
  cases r1
  rcases q1 with ⟨⟨xs, hq⟩, q⟩ | ⟨⟨xs, hq⟩, q⟩ | ⟨lo, hi, hr, hb, q⟩
  · obtain ⟨its, rv, pl, hz⟩ := I1.list hq
    exact wpAny_pyIter_list pl.isList (pie_one I1 (turn_list c _) ⟨_, Heap.get?_push_size _ rfl, rfl, rfl⟩ q)
  · obtain ⟨its, rv, pl, hz⟩ := I1.tuple hq
    exact wpAny_pyIter_tuple (show s1.heap.IsTuple c its.toArray from pl) (pie_one I1 (turn_tuple c _) ⟨_, Heap.get?_push_size _ rfl, rfl, rfl⟩ q)
  · obtain ⟨t, u, w, hg⟩ := (show ObjOk X.prog X.w H1 s1.heap c (.rng lo hi) from I1.hok c _ hr)
    obtain ⟨b1, b2, b3, b4⟩ := hb
    refine wpAny_pyIter_range (show IsRange s1.heap c lo hi 1 t u w from hg) (small_one b1 b2 b3 b4) (pie_one I1 (turn_range _ lo (hi - lo).toNat) ?_ q)
    have e1 : lo + ((0 : Nat) : Int) * 1 = lo := by simp
    have e2 : (((hi - lo).toNat : Nat) : Int) - ((0 : Nat) : Int) = Builtin.Range.rangeSize lo hi 1 := by rw [rangeSize_one]; split <;> omega
    show IsRangeIter _ _ (lo + ((0 : Nat) : Int) * 1) ((((hi - lo).toNat : Nat) : Int) - ((0 : Nat) : Int)) 1
    rw [e1, e2]
    exact Heap.get?_push_size _ rfl
end
def itVal (d : D) : ItF := fun i S => match d with
  | .rng lo hi => some (if i < (hi - lo).toNat then some (.int (lo + i)) else none)
  | d => match seqOf S d with
    | some xs => some xs[i]?
    | none => none
def okIt (S : Sto) : D → Bool
  | .rng lo hi => decide (-(2 ^ 62) ≤ lo ∧ lo < 2 ^ 62 ∧ -(2 ^ 62) ≤ hi ∧ hi < 2 ^ 62)
  | d => (seqOf S d).isSome
def fVal (f : FE) : FI := fun e => bnd (f e) fun d S => if okIt S d = true then some (.val (itVal d) S) else none
section
variable {G : Gl} {X : Cx} {E : XK} {a b tg : Expr} {fa fb : FE} {la : FA} {p pos : Pos} {ρ ρ1 : List Addr} {H H0 H1 : Hp} {S S1 : Sto} {e : Env'} {σ : L2.St}
theorem itOk_l (hK : X.K = G.K) {d : D} {c : Addr} (rd : RV G.K ρ H d (.ref c)) (nt : ∀ xs, d ≠ .tup xs) (nr : ∀ lo hi, d ≠ .rng lo hi) : ItOk G (Itl X.K c) ρ H (itVal d) := by
  intro ρ' H' S' i st rep
  have rd' := rd.ext st
  have key : ∀ {xs : List D}, lstOf S' d = some xs → ∃ vs, SqL X.K H' c vs ∧ RVs G.K ρ' H' xs vs := fun {xs} hx => by
    obtain ⟨c', vs, ec, hq, rv⟩ := lst_of rep hK rd' hx
    cases ec
    exact ⟨vs, hq, rv⟩
  have sq : ∀ {xs : List D} {vs : List V}, SqL X.K H' c vs → RVs G.K ρ' H' xs vs → (xs[i]? = none → (Itl X.K c).stop i H') ∧ ∀ y, xs[i]? = some y → (Itl X.K c).go i H' ∧ ∀ x H2, (Itl X.K c).yld i H' x H2 → Step ρ' H' ρ' H2 ∧ Rep G ρ' H2 S' ∧ RV G.K ρ' H2 y x := by
    intro xs vs hq rv
    refine ⟨fun hn => ⟨vs, hq, ?_⟩, fun y hy => ?_⟩
    · rw [rv.len]; exact List.getElem?_eq_none_iff.mp hn
    · obtain ⟨v, hv, rw'⟩ := rv.get hy
      refine ⟨⟨vs, v, hq, hv⟩, fun x H2 ⟨e2, h2⟩ => ?_⟩
      subst e2
      have := h2 vs hq
      rw [hv] at this; cases this
      exact ⟨.refl _ _, rep, rw'⟩
  unfold itVal
  cases d with
  | tup xs => exact absurd rfl (nt xs)
  | rng lo hi => exact absurd rfl (nr lo hi)
  | obj n =>
    simp only [seqOf]
    cases hx : lstOf S' (.obj n) with
    | none => exact ⟨fun q => by simp at q, fun _ q => by simp at q⟩
    | some xs =>
      obtain ⟨vs, hq, rv⟩ := key hx
      obtain ⟨h1, h2⟩ := sq hq rv
      exact ⟨fun q => h1 (by simpa using q), fun y q => h2 y (by simpa using q)⟩
  | rol ns =>
    simp only [seqOf]
    cases hx : lstOf S' (.rol ns) with
    | none => exact ⟨fun q => by simp at q, fun _ q => by simp at q⟩
    | some xs =>
      obtain ⟨vs, hq, rv⟩ := key hx
      obtain ⟨h1, h2⟩ := sq hq rv
      exact ⟨fun q => h1 (by simpa using q), fun y q => h2 y (by simpa using q)⟩
  | non => exact ⟨fun q => by simp [seqOf, lstOf] at q, fun _ q => by simp [seqOf, lstOf] at q⟩
  | bl _ => exact ⟨fun q => by simp [seqOf, lstOf] at q, fun _ q => by simp [seqOf, lstOf] at q⟩
  | int _ => exact ⟨fun q => by simp [seqOf, lstOf] at q, fun _ q => by simp [seqOf, lstOf] at q⟩
  | str _ => exact ⟨fun q => by simp [seqOf, lstOf] at q, fun _ q => by simp [seqOf, lstOf] at q⟩
theorem itOk_t {xs : List D} {c : Addr} (rd : RV G.K ρ H (.tup xs) (.ref c)) : ItOk G (Itt X.K c) ρ H (itVal (.tup xs)) := by
  intro ρ' H' S' i st rep
  cases rd.ext st with | tup hq rv =>
  rename_i vs
  refine ⟨fun hn => ⟨vs, SqT.of hq, ?_⟩, fun y hy => ?_⟩
  · rw [rv.len]; exact List.getElem?_eq_none_iff.mp (by simpa [itVal, seqOf] using hn)
  · obtain ⟨v, hv, rw'⟩ := rv.get (by simpa [itVal, seqOf] using hy)
    refine ⟨⟨vs, v, SqT.of hq, hv⟩, fun x H2 ⟨e2, h2⟩ => ?_⟩
    subst e2
    have := h2 vs (SqT.of hq)
    rw [hv] at this; cases this
    exact ⟨.refl _ _, rep, rw'⟩
theorem itOk_r {lo hi : Int} : ItOk G (Itr lo (hi - lo).toNat) ρ H (itVal (.rng lo hi)) := by
  intro ρ' H' S' i st rep
  refine ⟨fun hn => ?_, fun y hy => ?_⟩
  · show (hi - lo).toNat ≤ i
    simp only [itVal, Option.some.injEq] at hn
    split at hn
    · cases hn
    · omega
  · simp only [itVal, Option.some.injEq] at hy
    split at hy
    · rename_i hl
      cases hy
      refine ⟨hl, fun x H2 ⟨e2, h2⟩ => ?_⟩
      subst e2 h2
      exact ⟨.refl _ _, rep, .int _⟩
    · cases hy
theorem di_val (hK : X.K = G.K) (ha : DE G X E a fa) : DI G X E tg a (fVal fa) :=
  pi_imp (pi_val ha) fun σ H Q ⟨ρ, S, e, r, rep, re, h, p⟩ => bind_at rep re h p fun ρ1 H1 S1 d x st1 rep1 re1 rx h1 p1 => by
    split at h1
    · rename_i hok
      cases h1
      cases d with
      | rng lo hi =>
        cases rx with | rng hr =>
        refine ⟨_, rfl, .inr (.inr ⟨lo, hi, hr, of_decide_eq_true hok, ?_⟩)⟩
        exact p1 ρ1 H1 _ (.refl _ _) rep1 itOk_r
      | tup xs =>
        cases rx with | tup hq rv =>
        exact ⟨_, rfl, .inr (.inl ⟨⟨_, SqT.of hq⟩, p1 ρ1 H1 _ (.refl _ _) rep1 (itOk_t (.tup hq rv))⟩)⟩
      | obj n =>
        obtain ⟨xs, hx⟩ := Option.isSome_iff_exists.mp hok
        obtain ⟨c, vs, rfl, hq, rv⟩ := lst_of rep1 hK rx hx
        exact ⟨c, rfl, .inl ⟨⟨vs, hq⟩, p1 ρ1 H1 _ (.refl _ _) rep1 (itOk_l hK rx (fun _ q => nomatch q) fun _ _ q => nomatch q)⟩⟩
      | rol ns =>
        have hx : lstOf S1 (.rol ns) = some (ns.map D.int) := rfl
        obtain ⟨c, vs, rfl, hq, rv⟩ := lst_of rep1 hK rx hx
        exact ⟨c, rfl, .inl ⟨⟨vs, hq⟩, p1 ρ1 H1 _ (.refl _ _) rep1 (itOk_l hK rx (fun _ q => nomatch q) fun _ _ q => nomatch q)⟩⟩
      | _ => cases hok
    · cases h1
end

/-! ### pairs made on the way: enumerate, zip, of lists and tuples -/
/-- a list (k true) or a tuple that is read -/
def Sq (K : PySem.W.Frag) (k : Bool) (H : Hp) (c : Addr) (xs : List V) : Prop := match k with
  | true => SqL K H c xs
  | false => SqT K H c xs
/-- its iterator's own cell -/
def SqIt (k : Bool) (h : Heap) (it c : Addr) (i : Nat) : Prop := match k with
  | true => h.IsListIter it c i
  | false => h.IsTupleIter it c i
theorem SqIt.at {k : Bool} {h h' : Heap} {it c : Addr} {i : Nat} (x : SqIt k h it c i) (q : ∀ o, h.get? it = some o → h'.get? it = some o) : SqIt k h' it c i := by
  cases k
  · exact Heap.IsTupleIter.at x q
  · exact Heap.IsListIter.at x q
theorem SqIt.live {k : Bool} {h : Heap} {it c : Addr} {i : Nat} (x : SqIt k h it c i) : ∃ o, h.get? it = some o ∧ ∀ v, o.data ≠ .cell v := by
  cases k <;> (obtain ⟨o, e, _, d⟩ := x; exact ⟨o, e, fun v q => by rw [d] at q; cases q⟩)
section
variable {X : Cx} {pins : List (Addr × Obj)} {σ : L2.St} {H : Hp} {s : Shared} {A : Around}
theorem sq_inj (I : Inv X pins σ H s) {k : Bool} {c : Addr} {xs ys : List V} (h : Sq X.K k H c xs) (h' : Sq X.K k H c ys) : xs = ys := by
  cases k
  · exact I.tuple_inj h h'
  · exact I.list_inj h h'
theorem sq_cell (I : Inv X pins σ H s) {k : Bool} {c : Addr} {xs : List V} (h : Sq X.K k H c xs) : ∃ o, s.heap.get? c = some o ∧ (o.cls = .type "tuple" ∨ o.cls = .type "list") := by
  cases k
  · obtain ⟨_, _, ⟨o, e, hc, _⟩, _⟩ := I.tuple h
    exact ⟨o, e, .inl hc⟩
  · obtain ⟨_, _, ⟨o, _, e, hc, _⟩, _⟩ := I.list h
    exact ⟨o, e, .inr hc⟩
theorem sq_apart (I : Inv X pins σ H s) {k : Bool} {c it : Addr} {xs : List V} (h : Sq X.K k H c xs) {o : Obj} (e : s.heap.get? it = some o) (h1 : o.cls ≠ .type "tuple") (h2 : o.cls ≠ .type "list") : c ≠ it := fun q => by
  obtain ⟨o', e', hc⟩ := sq_cell I h
  rw [q, e] at e'; cases e'
  rcases hc with hc | hc
  · exact h1 hc
  · exact h2 hc
theorem SqIt.cls {k : Bool} {h : Heap} {it c : Addr} {i : Nat} (x : SqIt k h it c i) : ∃ o, h.get? it = some o ∧ o.cls ≠ .type "tuple" ∧ o.cls ≠ .type "list" := by
  cases k <;> (obtain ⟨o, e, hc, _⟩ := x; exact ⟨o, e, by rw [hc]; decide, by rw [hc]; decide⟩)
/-- what its iterator draws, at this moment -/
theorem draws_of (I : Inv X pins σ H s) (hh : A.handled = none) {k : Bool} {c it : Addr} {i : Nat} {xs : List V} (h : Sq X.K k H c xs) (hi : SqIt k s.heap it c i) (hne : c ≠ it) :
    ∃ (its : List Value) (St : Nat → Heap → Prop), Vals xs its ∧ Draws X.prog X.w A it [it, c] its.toArray.size (fun i v => its.toArray[i]? = some v) St ∧ St i s.heap ∧ ∀ j h', St j h' → SqIt k h' it c j := by
  cases k
  · obtain ⟨its, rv, pl, _⟩ := I.tuple h
    exact ⟨its, _, rv, Draws.tuple hh it c hne its.toArray, ⟨hi, (show s.heap.IsTuple c its.toArray from pl)⟩, fun j h' q => q.1⟩
  · obtain ⟨its, rv, pl, _⟩ := I.list h
    exact ⟨its, _, rv, Draws.list hh it c hne its.toArray, ⟨hi, pl.isList⟩, fun j h' q => q.1⟩
/-- a turn that hands out a new tuple -/
theorem item_walk {elts : List Expr} {kk : Nat} {tpos : Pos} {e : Addr} {fp wr cells : List Addr} {n i : Nat} {Pt : Nat → Array Value → Prop} {St : Nat → Heap → Prop} {Mid : Nat → Addr → Heap → Prop} {E : Value → Shared → Prop} {Good : V → Hp → Prop} {tn' : Heap → Prop}
    (I : Inv X pins σ H s) (W : WalksT X.prog X.w X.A e fp wr n Pt St Mid) (hi : i < n) (st : St i s.heap) (hw : ∀ b ∈ wr, b ∈ cells) (hf : ∀ b ∈ cells, FpOk X pins H b) (hlt : ∀ b ∈ cells, b < s.heap.objs.size)
    (hv : ∀ vals, Pt i vals → ∃ vs : List V, Vals vs vals.toList ∧ vs.length ≤ sizeLine ∧ ∀ T, H T = none → Good (.ref T) (upd H T (.tup vs))) (ht : ∀ h', St (i + 1) h' → tn' h') :
    wpAny (model X.prog X.w) X.A (pyNext (.ref e)) (fun r s1 => ∃ u, r = some u ∧
      wpAny (model X.prog X.w) X.A (letOwnedTupleGo (.Tuple elts kk tpos) (.ref e) u) (fun _ s2 => ∃ x H', Inv X pins σ H' s2 ∧ RelV x u ∧ Good x H' ∧ tn' s2.heap ∧ ∀ b ∈ cells, H' b = none) E s1) E s := by
  refine W.item i s _ _ hi st fun T vals h' tk hP hsz hT hm hk => ⟨.ref T, rfl, W.go elts kk tpos i T { s with heap := h', toks := tk } _ _ hm fun h'' st' hk' => ?_⟩
  obtain ⟨vs, rv, hl, good⟩ := hv vals hP
  have hTn : T ∉ wr := W.apart i T h' hm
  have hT2 : IsTup h'' T vals := show h''.IsTuple T vals from hT.at fun o q => hk' T o hTn q
  have new : ObjOk X.prog X.w (upd H T (.tup vs)) h'' T (.tup vs) := ⟨hl, vals.toList, rv, by simpa using hT2⟩
  have hfree : H T = none := I.hok.fresh hsz
  have I1 : Inv X pins σ (upd H T (.tup vs)) { s with heap := h'', toks := tk } :=
    I.turnedNew (ch := cells) (fun b o hb q => hk' b o (fun z => hb (hw b z)) (hk b o (fun z => hb (hw b z)) q)) hf hsz new
  refine ⟨.ref T, _, I1, rfl, good T hfree, ht h'' st', fun b hb => ?_⟩
  have hbT : b ≠ T := fun q => by
    have := hlt b hb
    rw [q] at this
    exact absurd (Nat.lt_of_lt_of_le this hsz) (Nat.lt_irrefl _)
  rw [upd_ne hbT]
  exact (hf b hb).1
end
/-- (i, item) of the sequence at c -/
def Itn (K : PySem.W.Frag) (k : Bool) (c : Addr) : It :=
  ⟨fun i H => ∃ (xs : List V) (x : V), Sq K k H c xs ∧ xs[i]? = some x, fun i H v H' => ∃ T x, v = .ref T ∧ H T = none ∧ H' = upd H T (.tup [.int (i : Nat), x]) ∧ ∀ xs, Sq K k H c xs → xs[i]? = some x, fun i H => ∃ xs : List V, Sq K k H c xs ∧ xs.length = i⟩
theorem turn_enumS {P : Program} {w : World} {K : PySem.W.Frag} {elts : List Expr} {kk : Nat} {tpos : Pos} (k : Bool) (c e it : Addr) :
    Turn P w K (.Tuple elts kk tpos) (Itn K k c) [e, it] e (fun i h => (∃ old, IsEnum h e it ((i : Nat) : Int) old) ∧ SqIt k h it c i ∧ e ≠ it) where
  mem := by simp
  obj := fun i h st b hb => by
    obtain ⟨⟨old, he⟩, hi, _⟩ := st
    simp only [List.mem_cons, List.not_mem_nil, or_false] at hb
    rcases hb with z | z
    · rw [z]; exact ⟨_, he, fun v q => nomatch q⟩
    · rw [z]; exact hi.live
  keep := fun i h h' st q => let ⟨⟨old, he⟩, hi, hne⟩ := st; ⟨⟨old, q e (by simp) _ he⟩, hi.at fun o z => q it (by simp) o z, hne⟩
  item := by
    intro X hP hw hK hc i pins s σ H E I hf st hg
    subst hP hw hK
    obtain ⟨⟨old, he⟩, hi, hne⟩ := st
    obtain ⟨xs, x, hq, hx⟩ := hg
    have hel : e < s.heap.objs.size := Heap.lt_size he
    have hil : it < s.heap.objs.size := let ⟨_, z, _⟩ := hi.live; Heap.lt_size z
    obtain ⟨oi, hoi, c1, c2⟩ := hi.cls
    have hci : c ≠ it := sq_apart I hq hoi c1 c2
    have hce : c ≠ e := sq_apart I hq he (show Value.type "enumerate" ≠ Value.type "tuple" by decide) (show Value.type "enumerate" ≠ Value.type "list" by decide)
    obtain ⟨its, St, rv, D, st0, back⟩ := draws_of (A := X.A.in1) I (I.ok.hd hc) hq hi hci
    have hin : i < its.toArray.size := by
      have := (List.getElem?_eq_some_iff.mp hx).1
      rw [List.size_toArray, ← rv.length]; exact this
    have W := WalksT.enumFrom 0 D e hne (by simp [hne, Ne.symm hce]) (by simp)
    refine item_walk (Good := (Itn X.K k c).yld i H) (tn' := fun h => (∃ old, IsEnum h e it (((i + 1 : Nat) : Nat) : Int) old) ∧ SqIt k h it c (i + 1) ∧ e ≠ it) I W hin ⟨⟨old, by simpa using he⟩, st0⟩ (fun b hb => hb) hf ?_ (fun vals hP => ?_) (fun h' st' => ?_)
    · intro b hb
      simp only [List.mem_cons, List.not_mem_nil, or_false] at hb
      rcases hb with z | z
      · rw [z]; exact hel
      · rw [z]; exact hil
    · obtain ⟨t, u, hu, rfl⟩ := hP
      obtain ⟨u', hu', ru⟩ := rv.get hx
      have e1 : u = u' := by
        rw [List.getElem?_toArray, hu'] at hu
        exact (Option.some.inj hu).symm
      subst e1
      refine ⟨[.int (i : Nat), x], .cons ⟨t, by simp⟩ (.cons ru .nil), by show 2 ≤ sizeLine; decide, fun T hT => ⟨T, x, rfl, hT, rfl, fun ys hy => by rw [sq_inj I hy hq]; exact hx⟩⟩
    · obtain ⟨⟨old', he'⟩, s1⟩ := st'
      exact ⟨⟨old', by simpa using he'⟩, back _ _ s1, hne⟩
  done := by
    intro X hP hw hK hc i pins s σ H E I hf st hg
    subst hP hw hK
    obtain ⟨⟨old, he⟩, hi, hne⟩ := st
    obtain ⟨xs, hq, hx⟩ := hg
    obtain ⟨oi, hoi, c1, c2⟩ := hi.cls
    have hci : c ≠ it := sq_apart I hq hoi c1 c2
    have hce : c ≠ e := sq_apart I hq he (show Value.type "enumerate" ≠ Value.type "tuple" by decide) (show Value.type "enumerate" ≠ Value.type "list" by decide)
    obtain ⟨its, St, rv, D, st0, back⟩ := draws_of (A := X.A.in1) I (I.ok.hd hc) hq hi hci
    have hn : i = its.toArray.size := by rw [List.size_toArray, ← rv.length]; exact hx.symm
    have W := WalksT.enumFrom 0 D e hne (by simp [hne, Ne.symm hce]) (by simp)
    rw [hn] at he st0
    exact W.done s _ _ ⟨⟨old, by simpa using he⟩, st0⟩ fun h' tk hk => ⟨rfl, I.turnedL (ch := [e, it]) (fun b o hb q => hk b o hb q) hf⟩
  self := fun A i s Q E st h => let ⟨⟨_, he⟩, _⟩ := st; wpAny_pyIter_enum he h

/-- enumerate(v) of anything whose iterator is one new cell -/
theorem meets_enum1 {v : Value} {o : Obj} {Fh : Heap → Prop} (B : Begins v o Fh) :
    Meets (Builtin.«enumerate.__new__» ⟨[.type "enumerate", v], []⟩) (fun _ R s => Fh s.heap ∧
      R (.ok (.ret (.ref (s.heap.push o).objs.size))) { s with heap := (s.heap.push o).push { cls := .type "enumerate", data := .fields #[.none, .bool false, .ref s.heap.objs.size, rawInt 0, .none, .none] } }) :=
  .of_wp fun prog w A R s h => by
    obtain ⟨hp, g, d, tk, os⟩ := s
    obtain ⟨hF, h⟩ := h
    have hsub := sub_enumerate
    have it1 : ∀ {A' : Around} {E : Value → Shared → Prop} {Q : Value → Shared → Prop}, Q (.ref hp.objs.size) ⟨hp.push o, g, d, tk, os⟩ → wpAny (model prog w) A' (pyIter v) Q E ⟨hp, g, d, tk, os⟩ := fun {A' E Q} q => B.iter prog w A' E ⟨hp, g, d, tk, os⟩ Q hF q
    wp_walk using it1
    refine wpAny_stack_any fun _ => wpAny_pure ?_
    split
    · rename_i c _ _ _ _ _
      by_cases hc : (c == Value.type "enumerate") = true
      · simp only [hc]
        wp_walk using it1
        exact ⟨_, rfl, h⟩
      · simp only [Bool.not_eq_true] at hc
        simp only [hc]
        wp_walk using it1
        exact ⟨_, rfl, h⟩
    · wp_walk using it1
      exact ⟨_, rfl, h⟩
theorem call_enum1 {prog : Program} {w : World} {A : Around} {E : Value → Shared → Prop} {s : Shared} {v : Value} {o : Obj} {Fh : Heap → Prop} {Q : Value → Shared → Prop} (B : Begins v o Fh) (hF : Fh s.heap)
    (h : Q (.ref (s.heap.push o).objs.size) { s with heap := (s.heap.push o).push { cls := .type "enumerate", data := .fields #[.none, .bool false, .ref s.heap.objs.size, rawInt 0, .none, .none] } }) : wpAny (model prog w) A (call (.type "enumerate") [v]) Q E s :=
  callType_new F.called_enumerate (by decide) (F.typeCall_enumerate_1 _) (F.newCall_enumerate_1 _) (fun obj => F.args_object_init_2 obj _) F.entry_enumerate_new (meets_enum1 B)
    ⟨hF, ⟨_, Heap.get?_push_size _ rfl, rfl⟩, h⟩

theorem begins_sq {X : Cx} {pins : List (Addr × Obj)} {σ : L2.St} {H : Hp} {s : Shared} (I : Inv X pins σ H s) {k : Bool} {c : Addr} {xs : List V} (h : Sq X.K k H c xs) :
    ∃ (o : Obj) (Fh : Heap → Prop), Begins (.ref c) o Fh ∧ Fh s.heap ∧ ∀ h' it, h'.get? it = some o → SqIt k h' it c 0 := by
  cases k
  · obtain ⟨its, rv, pl, _⟩ := I.tuple h
    exact ⟨_, _, begins_tuple c its.toArray, pl, fun h' it e => ⟨_, e, rfl, rfl⟩⟩
  · obtain ⟨its, rv, pl, _⟩ := I.list h
    exact ⟨_, _, begins_list c its.toArray, pl.isList, fun h' it e => ⟨_, e, rfl, rfl⟩⟩
def iEnumS (K : PySem.W.Frag) (ta : TA) : TI := fun σ H R => ta σ H fun vs H1 => ∃ k c xs, vs = [.ref c] ∧ Sq K k H1 c xs ∧ R (Itn K k c) H1
theorem pi_enumS {X : Cx} {e : Expr} {ta : TA} {p pos tpos : Pos} {elts : List Expr} {kk : Nat} (hg : L2.Gl X "enumerate") (hm : X.mg "enumerate" = none) (ha : PA X [e] ta) (hs : starEach [e] X.env = [(false, eval e X.env)]) :
    PI X (.Tuple elts kk tpos) (.Call (.Name "enumerate" p) [e] [] pos) (iEnumS X.K ta) := by
  refine ⟨fun pins s σ H R I h => ?_⟩
  refine Call_ (ld_blt I hg hm boot_enumerate (PyProof.Rows.callWith_type1 (thn (ha.run pos pins s σ H _ I h) fun us s1 ⟨vs, H1, I1, r1, k, c, xs, ev, hq, q⟩ => ?_) hs rfl))
  subst ev
  have eu : us = [Value.ref c] := Vals.ref1 r1
  subst eu
  obtain ⟨o, Fh, B, hF, it0⟩ := begins_sq I1 hq
  refine call_enum1 B hF ?_
  have z1 : (s1.heap.push o).objs.size = s1.heap.objs.size + 1 := Heap.size_push ..
  have he : IsEnum ((s1.heap.push o).push { cls := .type "enumerate", data := .fields #[.none, .bool false, .ref s1.heap.objs.size, rawInt 0, .none, .none] }) (s1.heap.push o).objs.size s1.heap.objs.size 0 .none := Heap.get?_push_size _ rfl
  refine wpAny_pyIter_enum he ?_
  have I2 := I1.kept (h' := (s1.heap.push o).push { cls := .type "enumerate", data := .fields #[.none, .bool false, .ref s1.heap.objs.size, rawInt 0, .none, .none] }) (t' := s1.toks) fun b u e => Heap.get?_push_of_some _ (Heap.get?_push_of_some _ e)
  refine ⟨(s1.heap.push o).objs.size, [(s1.heap.push o).objs.size, s1.heap.objs.size], _, _, H1, rfl, I2, turn_enumS k c (s1.heap.push o).objs.size s1.heap.objs.size, ⟨⟨.none, he⟩, it0 _ _ (Heap.get?_push_of_some _ (Heap.get?_push_size _ B.free)), by rw [z1]; exact Nat.succ_ne_self _⟩, fun b hb => ?_, q⟩
  have hle : s1.heap.objs.size ≤ b := by
    simp only [List.mem_cons, List.not_mem_nil, or_false] at hb
    rcases hb with z | z
    · rw [z, z1]; exact Nat.le_add_right _ _
    · rw [z]; exact Nat.le_refl _
  exact I1.fpOk hle (I1.hok.fresh hle)
/-- (item, item) of the sequences at c and d -/
def Itp (K : PySem.W.Frag) (k j : Bool) (c d : Addr) : It :=
  ⟨fun i H => ∃ (xs ys : List V) (x y : V), Sq K k H c xs ∧ Sq K j H d ys ∧ xs[i]? = some x ∧ ys[i]? = some y,
    fun i H v H' => ∃ T x y, v = .ref T ∧ H T = none ∧ H' = upd H T (.tup [x, y]) ∧ (∀ xs, Sq K k H c xs → xs[i]? = some x) ∧ ∀ ys, Sq K j H d ys → ys[i]? = some y,
    fun i H => ∃ xs ys : List V, Sq K k H c xs ∧ Sq K j H d ys ∧ min xs.length ys.length = i⟩
/-- what is read is none of an iterator's own cells -/
theorem sq_fp {X : Cx} {pins : List (Addr × Obj)} {σ : L2.St} {H : Hp} {s : Shared} (I : Inv X pins σ H s) {k : Bool} {c b : Addr} {xs : List V} (h : Sq X.K k H c xs) (f : FpOk X pins H b) : c ≠ b := by
  intro q
  subst q
  obtain ⟨f0, f1, f2, f3, f4, f5⟩ := f
  have low : ∀ {o : Obj}, X.K.lookup c = some o → False := fun {o} hk => by
    have hb := I.ok.mod.kin c o hk
    rcases f3 with f3 | f3
    · exact I.ok.noex c o hb f3
    · exact absurd (Nat.lt_of_lt_of_le (Heap.lt_size hb) (Nat.le_trans I.ok.bsz f3)) (Nat.lt_irrefl _)
  cases k
  · rcases h with (h | ⟨o, h⟩) | ⟨o, _, _, h, _⟩
    · rw [f0] at h; cases h
    · rw [f0] at h; cases h
    · exact low h
  · rcases h with (h | ⟨o, h⟩) | ⟨o, _, _, h, _⟩
    · rw [f0] at h; cases h
    · rw [f0] at h; cases h
    · exact low h
structure ZipD (z TI TO i1 i2 : Addr) : Prop where
  a1 : TI ≠ z
  a2 : TO ≠ z
  a3 : TI ≠ TO
  a4 : TI ≠ i1
  a5 : TI ≠ i2
  a6 : z ≠ i1
  a7 : z ≠ i2
  a8 : TO ≠ i1
  a9 : TO ≠ i2
  a0 : i1 ≠ i2
theorem turn_zipS {P : Program} {w : World} {K : PySem.W.Frag} {elts : List Expr} {kk : Nat} {tpos : Pos} (k j : Bool) (c d z TI TO i1 i2 : Addr) (dis : ZipD z TI TO i1 i2) :
    Turn P w K (.Tuple elts kk tpos) (Itp K k j c d) [z, TI, TO, i1, i2] z (fun i h => IsZip h z TI TO .none ∧ IsTupOf2 h TI (.ref i1) (.ref i2) ∧ (∃ a1 a2, IsTupOf2 h TO a1 a2) ∧ SqIt k h i1 c i ∧ SqIt j h i2 d i) where
  mem := by simp
  obj := fun i h st b hb => by
    obtain ⟨h1, h2, ⟨_, _, h3⟩, h4, h5⟩ := st
    simp only [List.mem_cons, List.not_mem_nil, or_false] at hb
    rcases hb with q | q | q | q | q
    · rw [q]; exact ⟨_, h1, fun v z => nomatch z⟩
    · rw [q]; exact ⟨_, h2, fun v z => nomatch z⟩
    · rw [q]; exact ⟨_, h3, fun v z => nomatch z⟩
    · rw [q]; exact h4.live
    · rw [q]; exact h5.live
  keep := fun i h h' st q => by
    obtain ⟨h1, h2, ⟨a1, a2, h3⟩, h4, h5⟩ := st
    exact ⟨q z (by simp) _ h1, q TI (by simp) _ h2, ⟨a1, a2, q TO (by simp) _ h3⟩, h4.at fun o e => q i1 (by simp) o e, h5.at fun o e => q i2 (by simp) o e⟩
  item := by
    intro X hP hw hK hc i pins s σ H E I hf st hg
    subst hP hw hK
    obtain ⟨h1, h2, ⟨a1, a2, h3⟩, h4, h5⟩ := st
    obtain ⟨xs, ys, x, y, hq, hr, hx, hy⟩ := hg
    have nc : ∀ b ∈ [z, TI, TO, i1, i2], c ≠ b := fun b hb => sq_fp I hq (hf b hb)
    have nd : ∀ b ∈ [z, TI, TO, i1, i2], d ≠ b := fun b hb => sq_fp I hr (hf b hb)
    simp only [List.mem_cons, List.not_mem_nil, or_false, forall_eq_or_imp, forall_eq] at nc nd
    obtain ⟨c1, c2, c3, c4, c5⟩ := nc
    obtain ⟨d1, d2, d3, d4, d5⟩ := nd
    obtain ⟨its, S1, rv, D1, st1, back1⟩ := draws_of (A := X.A.in1) I (I.ok.hd hc) hq h4 c4
    obtain ⟨jts, S2, rv2, D2, st2, back2⟩ := draws_of (A := X.A.in1) I (I.ok.hd hc) hr h5 d5
    have sep : ZipSep2 z TI TO i1 i2 [i1, c] [i2, d] := ⟨dis.a1, dis.a2, dis.a3, dis.a4, by simp, by simp [dis.a6, Ne.symm c1], by simp [dis.a8, Ne.symm c3], dis.a5, by simp, by simp [dis.a7, Ne.symm d1], by simp [dis.a9, Ne.symm d3], by simp [dis.a0, Ne.symm d4], by simp [Ne.symm dis.a0, Ne.symm c5]⟩
    have W := WalksT.zipD2 sep D1 D2
    have l1 : i < its.toArray.size := by rw [List.size_toArray, ← rv.length]; exact (List.getElem?_eq_some_iff.mp hx).1
    have l2 : i < jts.toArray.size := by rw [List.size_toArray, ← rv2.length]; exact (List.getElem?_eq_some_iff.mp hy).1
    refine item_walk (Good := (Itp X.K k j c d).yld i H) (tn' := fun h => IsZip h z TI TO .none ∧ IsTupOf2 h TI (.ref i1) (.ref i2) ∧ (∃ a1 a2, IsTupOf2 h TO a1 a2) ∧ SqIt k h i1 c (i + 1) ∧ SqIt j h i2 d (i + 1)) I W (Nat.lt_min.mpr ⟨l1, l2⟩) ⟨h1, h2, ⟨a1, a2, h3⟩, st1, st2⟩ (fun b hb => ?_) hf (fun b hb => ?_) (fun vals hP => ?_) (fun h' st' => ?_)
    · simp only [List.mem_cons, List.not_mem_nil, or_false] at hb ⊢
      rcases hb with q | q | q | q <;> simp [q]
    · have o1 := h4.live
      have o2 := h5.live
      simp only [List.mem_cons, List.not_mem_nil, or_false] at hb
      rcases hb with q | q | q | q | q
      · rw [q]; exact Heap.lt_size h1
      · rw [q]; exact Heap.lt_size h2
      · rw [q]; exact Heap.lt_size h3
      · rw [q]; obtain ⟨_, e, _⟩ := o1; exact Heap.lt_size e
      · rw [q]; obtain ⟨_, e, _⟩ := o2; exact Heap.lt_size e
    · obtain ⟨u1, u2, hu1, hu2, rfl⟩ := hP
      obtain ⟨w1, hw1, r1⟩ := rv.get hx
      obtain ⟨w2, hw2, r2⟩ := rv2.get hy
      rw [List.getElem?_toArray, hw1] at hu1
      rw [List.getElem?_toArray, hw2] at hu2
      cases hu1; cases hu2
      exact ⟨[x, y], .cons r1 (.cons r2 .nil), by show 2 ≤ sizeLine; decide, fun T hT => ⟨T, x, y, rfl, hT, rfl, fun zs hz => by rw [sq_inj I hz hq]; exact hx, fun zs hz => by rw [sq_inj I hz hr]; exact hy⟩⟩
    · obtain ⟨q1, q2, q3, q4, q5⟩ := st'
      exact ⟨q1, q2, q3, back1 _ _ q4, back2 _ _ q5⟩
  done := by
    intro X hP hw hK hc i pins s σ H E I hf st hg
    subst hP hw hK
    obtain ⟨h1, h2, ⟨a1, a2, h3⟩, h4, h5⟩ := st
    obtain ⟨xs, ys, hq, hr, hn⟩ := hg
    have nc : ∀ b ∈ [z, TI, TO, i1, i2], c ≠ b := fun b hb => sq_fp I hq (hf b hb)
    have nd : ∀ b ∈ [z, TI, TO, i1, i2], d ≠ b := fun b hb => sq_fp I hr (hf b hb)
    simp only [List.mem_cons, List.not_mem_nil, or_false, forall_eq_or_imp, forall_eq] at nc nd
    obtain ⟨c1, c2, c3, c4, c5⟩ := nc
    obtain ⟨d1, d2, d3, d4, d5⟩ := nd
    obtain ⟨its, S1, rv, D1, st1, back1⟩ := draws_of (A := X.A.in1) I (I.ok.hd hc) hq h4 c4
    obtain ⟨jts, S2, rv2, D2, st2, back2⟩ := draws_of (A := X.A.in1) I (I.ok.hd hc) hr h5 d5
    have sep : ZipSep2 z TI TO i1 i2 [i1, c] [i2, d] := ⟨dis.a1, dis.a2, dis.a3, dis.a4, by simp, by simp [dis.a6, Ne.symm c1], by simp [dis.a8, Ne.symm c3], dis.a5, by simp, by simp [dis.a7, Ne.symm d1], by simp [dis.a9, Ne.symm d3], by simp [dis.a0, Ne.symm d4], by simp [Ne.symm dis.a0, Ne.symm c5]⟩
    have hn2 : i = min its.toArray.size jts.toArray.size := by rw [List.size_toArray, List.size_toArray, ← rv.length, ← rv2.length]; exact hn.symm
    have W := WalksT.zipD2 sep D1 D2
    rw [hn2] at st1 st2
    exact W.done s _ _ ⟨h1, h2, ⟨a1, a2, h3⟩, st1, st2⟩ fun h' tk hk => ⟨rfl, I.turnedL (ch := [z, TI, TO, i1, i2]) (fun b o hb q => hk b o (fun m => hb (by
      simp only [List.mem_cons, List.not_mem_nil, or_false] at m ⊢
      rcases m with q | q | q | q <;> simp [q])) q) hf⟩
  self := fun A i s Q E st h => wpAny_pyIter_zip st.1 h
def iZipS (K : PySem.W.Frag) (ta : TA) : TI := fun σ H R => ta σ H fun vs H1 => ∃ k j c d xs ys, vs = [.ref c, .ref d] ∧ Sq K k H1 c xs ∧ Sq K j H1 d ys ∧ R (Itp K k j c d) H1
theorem pi_zipS {X : Cx} {e e2 : Expr} {ta : TA} {p pos tpos : Pos} {elts : List Expr} {kk : Nat} (hg : L2.Gl X "zip") (hm : X.mg "zip" = none) (ha : PA X [e, e2] ta) (hs : starEach [e, e2] X.env = [(false, eval e X.env), (false, eval e2 X.env)]) (hs2 : starEach [e2] X.env = [(false, eval e2 X.env)]) :
    PI X (.Tuple elts kk tpos) (.Call (.Name "zip" p) [e, e2] [] pos) (iZipS X.K ta) := by
  refine ⟨fun pins s σ H R I h => ?_⟩
  refine Call_ (ld_blt I hg hm boot_zip (PyProof.Rows.callWith_type1 (thn (ha.run pos pins s σ H _ I h) fun us s1 ⟨vs, H1, I1, r1, k, j, c, d, xs, ys, ev, hq, hr, q⟩ => ?_) (by rw [hs, hs2]) (by rw [hs2]; rfl)))
  subst ev
  obtain ⟨u1, u2, eu, v1, v2⟩ := vals2 r1
  cases v1; cases v2
  subst eu
  obtain ⟨o1, F1, B1, hF1, it1⟩ := begins_sq I1 hq
  obtain ⟨o2, F2, B2, hF2, it2⟩ := begins_sq I1 hr
  refine zip_begins2 B1 B2 hF1 hF2 fun h' hz hTI hTO ho1 ho2 hsz hk => wpAny_pyIter_zip hz ?_
  have I2 := I1.kept (h' := h') (t' := s1.toks) hk
  refine ⟨s1.heap.objs.size + 4, [s1.heap.objs.size + 4, s1.heap.objs.size + 2, s1.heap.objs.size + 3, s1.heap.objs.size, s1.heap.objs.size + 1], _, _, H1, rfl, I2,
    turn_zipS k j c d _ _ _ _ _ ?_, ⟨hz, hTI, ⟨_, _, hTO⟩, it1 _ _ ho1, it2 _ _ ho2⟩, fun b hb => ?_, q⟩
  · generalize s1.heap.objs.size = n
    have k1 : ∀ a b : Nat, a ≠ b → n + a ≠ n + b := fun a b h => by omega
    refine ⟨k1 2 4 (by decide), k1 3 4 (by decide), k1 2 3 (by decide), k1 2 0 (by decide), k1 2 1 (by decide), k1 4 0 (by decide), k1 4 1 (by decide), k1 3 0 (by decide), k1 3 1 (by decide), k1 0 1 (by decide)⟩
  · have hle : s1.heap.objs.size ≤ b := by
      simp only [List.mem_cons, List.not_mem_nil, or_false] at hb
      rcases hb with z | z | z | z | z <;> rw [z]
      · exact Nat.le_add_right _ _
      · exact Nat.le_add_right _ _
      · exact Nat.le_add_right _ _
      · exact Nat.le_refl _
      · exact Nat.le_add_right _ _
    exact I1.fpOk hle (I1.hok.fresh hle)

/-! ### the same by values -/
section
variable {G : Gl} {X : Cx} {E : XK} {a b tg : Expr} {fa fb : FE} {la : FA} {p pos tpos : Pos} {ρ ρ1 : List Addr} {H H0 H1 : Hp} {S S1 : Sto} {e : Env'} {σ : L2.St}
def itEnum (d : D) : ItF := fun i S => match seqOf S d with
  | some xs => match xs[i]? with
    | some x => some (some (.tup [.int i, x]))
    | none => if xs.length = i then some none else none
  | none => none
def itZip (d1 d2 : D) : ItF := fun i S => match seqOf S d1, seqOf S d2 with
  | some xs, some ys => match xs[i]?, ys[i]? with
    | some x, some y => some (some (.tup [x, y]))
    | _, _ => if min xs.length ys.length = i then some none else none
  | _, _ => none
/-- a value that is a list or a tuple keeps its kind -/
def isT : D → Bool
  | .tup _ => true
  | _ => false
theorem sq_of {d : D} {v : V} {xs : List D} (rep : Rep G ρ H S) (hK : X.K = G.K) (r : RV G.K ρ H d v) (h : seqOf S d = some xs) : ∃ c vs, v = .ref c ∧ Sq X.K (!isT d) H c vs ∧ RVs G.K ρ H xs vs := by
  cases d with
  | tup ys =>
    cases h
    cases r with | tup ha rs =>
    exact ⟨_, _, rfl, SqT.of ha, rs⟩
  | obj n =>
    obtain ⟨c, vs, e, h1, h2⟩ := lst_of rep hK r h
    exact ⟨c, vs, e, h1, h2⟩
  | rol ns =>
    obtain ⟨c, vs, e, h1, h2⟩ := lst_of rep hK r h
    exact ⟨c, vs, e, h1, h2⟩
  | _ => cases h
theorem itOk_enum (hK : X.K = G.K) {d : D} {c : Addr} (rd : RV G.K ρ H d (.ref c)) : ItOk G (Itn X.K (!isT d) c) ρ H (itEnum d) := by
  intro ρ' H' S' i st rep
  unfold itEnum
  cases hx : seqOf S' d with
  | none => exact ⟨fun q => (nomatch q), fun _ q => nomatch q⟩
  | some xs =>
    obtain ⟨c', vs, ec, hq, rv⟩ := sq_of (X := X) rep hK (rd.ext st) hx
    cases ec
    simp only
    cases hi : xs[i]? with
    | none =>
      simp only
      refine ⟨fun q => ?_, fun y q => ?_⟩
      · split at q
        · rename_i hl
          exact ⟨vs, hq, by rw [rv.len]; exact hl⟩
        · cases q
      · split at q <;> cases q
    | some x =>
      obtain ⟨v, hv, rw'⟩ := rv.get hi
      refine ⟨fun q => (nomatch q), fun y q => ?_⟩
      cases q
      refine ⟨⟨vs, v, hq, hv⟩, fun z H2 ⟨T, v', e1, hT, e2, h2⟩ => ?_⟩
      have := h2 vs hq
      rw [hv] at this; cases this
      subst e1 e2
      have st2 := Step.new (ρ := ρ') (o := HO.tup [.int (i : Nat), v]) hT
      exact ⟨st2, rep.new hT, .tup upd_same (.cons (.int _) (.cons (rw'.mono st2) .nil))⟩
theorem itOk_zip (hK : X.K = G.K) {d1 d2 : D} {c1 c2 : Addr} (r1 : RV G.K ρ H d1 (.ref c1)) (r2 : RV G.K ρ H d2 (.ref c2)) : ItOk G (Itp X.K (!isT d1) (!isT d2) c1 c2) ρ H (itZip d1 d2) := by
  intro ρ' H' S' i st rep
  unfold itZip
  cases hx : seqOf S' d1 with
  | none => exact ⟨fun q => (nomatch q), fun _ q => nomatch q⟩
  | some xs =>
    cases hy : seqOf S' d2 with
    | none => exact ⟨fun q => (nomatch q), fun _ q => nomatch q⟩
    | some ys =>
      obtain ⟨c', vs, ec, hq, rv⟩ := sq_of (X := X) rep hK (r1.ext st) hx
      cases ec
      obtain ⟨c', ws, ec, hr, rw'⟩ := sq_of (X := X) rep hK (r2.ext st) hy
      cases ec
      simp only
      have stop : min xs.length ys.length = i → (Itp X.K (!isT d1) (!isT d2) c1 c2).stop i H' := fun hl => ⟨vs, ws, hq, hr, by rw [rv.len, rw'.len]; exact hl⟩
      cases hi : xs[i]? with
      | none =>
        simp only
        refine ⟨fun q => ?_, fun y q => ?_⟩
        · split at q
          · rename_i hl; exact stop hl
          · cases q
        · split at q <;> cases q
      | some x =>
        cases hj : ys[i]? with
        | none =>
          simp only
          refine ⟨fun q => ?_, fun y q => ?_⟩
          · split at q
            · rename_i hl; exact stop hl
            · cases q
          · split at q <;> cases q
        | some y =>
          obtain ⟨v, hv, rx⟩ := rv.get hi
          obtain ⟨w, hw, ry⟩ := rw'.get hj
          refine ⟨fun q => (nomatch q), fun y' q => ?_⟩
          cases q
          refine ⟨⟨vs, ws, v, w, hq, hr, hv, hw⟩, fun z H2 ⟨T, v', w', e1, hT, e2, h2, h3⟩ => ?_⟩
          have q1 := h2 vs hq
          have q2 := h3 ws hr
          rw [hv] at q1; cases q1
          rw [hw] at q2; cases q2
          subst e1 e2
          have st2 := Step.new (ρ := ρ') (o := HO.tup [v, w]) hT
          exact ⟨st2, rep.new hT, .tup upd_same (.cons (rx.mono st2) (.cons (ry.mono st2) .nil))⟩
def fEnum (g : FA) : FI := fun e => bnd (g e) fun ds S => match ds with
  | [d] => if (seqOf S d).isSome = true then some (.val (itEnum d) S) else none
  | _ => none
def fZip (g : FA) : FI := fun e => bnd (g e) fun ds S => match ds with
  | [d1, d2] => if (seqOf S d1).isSome = true ∧ (seqOf S d2).isSome = true then some (.val (itZip d1 d2) S) else none
  | _ => none
theorem di_enum (hK : X.K = G.K) {elts : List Expr} {kk : Nat} (hg : L2.Gl X "enumerate") (hm : X.mg "enumerate" = none) (ha : DA G X E [a] la) (hs : starEach [a] X.env = [(false, eval a X.env)]) : DI G X E (.Tuple elts kk tpos) (.Call (.Name "enumerate" p) [a] [] pos) (fEnum la) :=
  pi_imp (pi_enumS hg hm ha hs) fun σ H Q ⟨ρ, S, e, r, rep, re, h, p⟩ => bind_at rep re h p fun ρ1 H1 S1 ds vs st1 rep1 re1 rx h1 p1 => by
    split at h1
    · split at h1
      · rename_i d hok
        cases h1
        obtain ⟨v, rfl, rv⟩ := RVs.one_inv rx
        obtain ⟨xs, hx⟩ := Option.isSome_iff_exists.mp hok
        obtain ⟨c, ws, rfl, hq, rs⟩ := sq_of (X := X) rep1 hK rv hx
        exact ⟨_, c, ws, rfl, hq, p1 ρ1 H1 _ (.refl _ _) rep1 (itOk_enum hK rv)⟩
      · cases h1
    · cases h1
theorem di_zip (hK : X.K = G.K) {elts : List Expr} {kk : Nat} (hg : L2.Gl X "zip") (hm : X.mg "zip" = none) (ha : DA G X E [a, b] la) (hs : starEach [a, b] X.env = [(false, eval a X.env), (false, eval b X.env)]) (hs2 : starEach [b] X.env = [(false, eval b X.env)]) : DI G X E (.Tuple elts kk tpos) (.Call (.Name "zip" p) [a, b] [] pos) (fZip la) :=
  pi_imp (pi_zipS hg hm ha hs hs2) fun σ H Q ⟨ρ, S, e, r, rep, re, h, p⟩ => bind_at rep re h p fun ρ1 H1 S1 ds vs st1 rep1 re1 rx h1 p1 => by
    split at h1
    · split at h1
      · rename_i d1 d2 hok
        cases h1
        obtain ⟨v, v', rfl, rv, rv'⟩ := RVs.two_inv rx
        obtain ⟨xs, hx⟩ := Option.isSome_iff_exists.mp hok.1
        obtain ⟨ys, hy⟩ := Option.isSome_iff_exists.mp hok.2
        obtain ⟨c, ws, rfl, hq, rs⟩ := sq_of (X := X) rep1 hK rv hx
        obtain ⟨c2, ws2, rfl, hq2, rs2⟩ := sq_of (X := X) rep1 hK rv' hy
        exact ⟨_, _, c, c2, ws, ws2, rfl, hq, hq2, p1 ρ1 H1 _ (.refl _ _) rep1 (itOk_zip hK rv rv')⟩
      · cases h1
    · cases h1
end
end Mini
end

section
set_option Elab.async false
set_option linter.all false
set_option maxRecDepth 100000
set_option maxHeartbeats 4000000
namespace Mini
open PySem PySem.Spec PyProof.Rows L2

abbrev NoX : XK := fun _ _ _ => False
def wipeE (e : Env') : List Nat → Env'
  | [] => e
  | v :: vs => (wipeE e vs).set v none
theorem wipeE_length (e : Env') : ∀ vs : List Nat, (wipeE e vs).length = e.length
  | [] => rfl
  | v :: vs => by unfold wipeE; rw [List.length_set, wipeE_length e vs]
theorem wipeE_get {e : Env'} {i : Nat} {d : D} : ∀ {vs : List Nat}, (wipeE e vs)[i]? = some (some d) → e[i]? = some (some d) ∧ i ∉ vs
  | [], h => ⟨h, by simp⟩
  | v :: vs, h => by
    unfold wipeE at h
    by_cases q : v = i
    · subst q
      by_cases hl : v < (wipeE e vs).length
      · rw [List.getElem?_set_self hl] at h; cases h
      · rw [List.getElem?_eq_none (by simpa using hl)] at h; cases h
    · rw [List.getElem?_set_ne q] at h
      obtain ⟨h1, h2⟩ := wipeE_get h
      refine ⟨h1, fun m => ?_⟩
      rcases List.mem_cons.mp m with m | m
      · exact q m.symm
      · exact h2 m
theorem wipe_keep {σ : L2.St} {i : Nat} : ∀ {vs : List Nat}, i ∉ vs → (wipe σ vs)[i]? = σ[i]?
  | [], _ => rfl
  | v :: vs, h => by
    simp only [List.mem_cons, not_or] at h
    unfold wipe
    rw [List.getElem?_set_ne (Ne.symm h.1)]
    exact wipe_keep h.2
theorem RE.wipe {K : PySem.W.Frag} {ρ : List Addr} {H : Hp} {e : Env'} {σ : L2.St} (r : RE K ρ H e σ) (vs : List Nat) : RE K ρ H (wipeE e vs) (L2.wipe σ vs) := by
  refine ⟨by rw [wipeE_length, L2.wipe_length]; exact r.1, fun i d h => ?_⟩
  obtain ⟨h1, h2⟩ := wipeE_get h
  obtain ⟨v, h3, h4⟩ := r.2 i d h1
  exact ⟨v, by rw [wipe_keep h2]; exact h3, h4⟩
theorem wipe_idem {σ : L2.St} : ∀ (vs ws : List Nat), (∀ v ∈ vs, v ∈ ws) → wipe (wipe σ vs) ws = wipe σ ws := by
  intro vs ws h
  apply List.ext_getElem?
  intro i
  by_cases hi : i ∈ ws
  · have key : ∀ (τ : L2.St) (us : List Nat), i ∈ us → (wipe τ us)[i]? = if i < τ.length then some none else none := by
      intro τ us
      induction us with
      | nil => intro m; cases m
      | cons v us ih =>
        intro m
        unfold wipe
        by_cases q : v = i
        · subst q
          by_cases hl : v < τ.length
          · rw [List.getElem?_set_self (by rw [wipe_length]; exact hl), if_pos hl]
          · rw [List.getElem?_eq_none (by rw [List.length_set, wipe_length]; omega), if_neg hl]
        · rw [List.getElem?_set_ne q]
          exact ih (by
            rcases List.mem_cons.mp m with m | m
            · exact absurd m.symm q
            · exact m)
    rw [key _ ws hi, key _ ws hi, wipe_length]
  · rw [wipe_keep hi, wipe_keep hi, wipe_keep fun m => hi (h i m)]

/-! ### list comprehensions -/
def bTrue : FB := fun _ => ret true
def compN (it : ItF) (g : FG) (ft : FB) (fe : FE) (e0 : Env') : Nat → Nat → List D → Sto → Option (Res (List D))
  | 0, _, _, _ => none
  | n + 1, i, acc, S => match it i S with
    | none => none
    | some none => some (.val acc S)
    | some (some d) => match g d e0 with
      | none => none
      | some e1 => match ft e1 S with
        | some (.val true S1) => match fe e1 S1 with
          | some (.val y S2) => if acc.length < lim then compN it g ft fe e0 n (i + 1) (acc ++ [y]) S2 else none
          | _ => none
        | some (.val false S1) => compN it g ft fe e0 n (i + 1) acc S1
        | _ => none
def fComp (fi : FI) (g : FG) (ft : FB) (fe : FE) (vs : List Nat) : FA := fun e => bnd (fi e) fun it S => compN it g ft fe (wipeE e vs) (lim + 1) 0 [] S
section
variable {G : Gl} {X : Cx} {E : XK} {a b c o tg iter elt : Expr} {fa fb fc fe : FE} {ft : FB} {fi : FI} {gg : FG} {la lb : FA} {p pos : Pos} {x : Str} {ρ ρ1 : List Addr} {H H0 H1 : Hp} {S S1 : Sto} {e : Env'} {σ : L2.St} {scope : Scope} {own : List (Str × Nat)} {ifs : List Expr} {is : List Nat}
theorem pts_imp {X : Cx} {ifs : List Expr} {t u : TT} (h : PTs X ifs t) (w : ∀ σ H Q, u σ H Q → t σ H Q) : PTs X ifs u := ⟨fun pins s σ H Q I q => h.run pins s σ H Q I (w σ H Q q)⟩
theorem dts_nil : PTs X [] (Lf G rB E bTrue) := pts_imp pts_nil fun σ H Q ⟨ρ, S, e, r, rep, re, h, p⟩ => by
  cases h
  exact p ρ H true (.refl _ _) rep rfl
theorem dts_one {gb : FB} (h : DT G X E c gb) : PTs X [c] (Lf G rB E gb) := pts_one h
/-- a list that is not of the store changes -/
theorem Step.chg {D' : Addr} {u : HO} (st : Step ρ H ρ1 H1) (h : H D' = none) : Step ρ H ρ1 (upd H1 D' u) := by
  refine ⟨st.grow, fun a o e i => ?_, fun a o e n => ?_, fun a e => ?_⟩
  · rw [upd_ne (ne_of_none e h)]; exact st.imm a o e i
  · rw [upd_ne (ne_of_none e h)]; exact st.out a o e n
  · by_cases q : a = D'
    · rw [q]; exact h
    · rw [upd_ne q] at e; exact st.trk a e
theorem Ext.chg {D' : Addr} {u w : HO} (h : H D' = some w) (hi : ¬ Imm w) : Ext ρ H ρ (upd H D' u) := ⟨fun _ _ q => q, fun a o e i => by
  rw [upd_ne (fun q => by subst q; rw [h] at e; cases e; exact hi i)]; exact e⟩
theorem Rep.chg {D' : Addr} {u w : HO} (rep : Rep G ρ H S) (hn : D' ∉ ρ) (h : H D' = some w) (hi : ¬ Imm w) : Rep G ρ (upd H D' u) S := by
  refine ⟨rep.len, rep.nd, fun n o e => ?_⟩
  obtain ⟨b, hb, r⟩ := rep.ob n o e
  exact ⟨b, hb, r.ext (Ext.chg h hi) (upd_ne fun q => hn (q ▸ List.mem_of_getElem? hb))⟩
/-- a list that is not of the store stays so -/
theorem Step.stays {D' : Addr} {w : HO} (st : Step ρ H ρ1 H1) (hn : D' ∉ ρ) (h : H D' = some w) : D' ∉ ρ1 ∧ H1 D' = some w := by
  refine ⟨fun hm => ?_, st.out _ _ h hn⟩
  obtain ⟨t, rfl, ht⟩ := st.grow
  rcases List.mem_append.mp hm with hm | hm
  · exact hn hm
  · rw [ht D' hm] at h; cases h
theorem dl_lc (hc : X.calm = true) (hN : X.N.Nodup) (hi : DI G X E tg iter fi) (ok : BlkOk X.N X.env.scope scope own)
    (hg : ∀ (s : Shared) (H : Hp) (C : Addr) (cl : List (Str × Addr)) (fp : List Addr), DG G (X.blk s H scope (compEnvC scope cl C X.env) fp) tg is gg)
    (ht : ∀ (s : Shared) (H : Hp) (C : Addr) (cl : List (Str × Addr)) (fp : List Addr), PTs (X.blk s H scope (compEnvC scope cl C X.env) fp) ifs (Lf G rB NoX ft))
    (he : ∀ (s : Shared) (H : Hp) (C : Addr) (cl : List (Str × Addr)) (fp : List Addr), DE G (X.blk s H scope (compEnvC scope cl C X.env) fp) NoX elt fe)
    (his : ∀ j ∈ is, j ∈ own.map (·.2)) (hs : ∀ x, foldedSetIterable iter X.env x = pure x) :
    DL G X E (.ListComp elt [⟨tg, iter, ifs, 0⟩] scope pos) (fComp fi gg ft fe (own.map (·.2))) :=
  pe_imp (pe_lc hc hN hi ok hg ht he hs) fun σ H Q ⟨ρ, S, e, r, rep, re, h, p⟩ => bind_at rep re h p fun ρ1 H1 S1 it J st1 rep1 re1 rx h1 p1 => by
    intro D' hD
    refine ⟨fun i m H2 => ∃ ρ2 S2 acc vs, Step ρ1 H1 ρ2 H2 ∧ Rep G ρ2 H2 S2 ∧ D' ∉ ρ2 ∧ H2 D' = some (.lst vs) ∧ RVs G.K ρ2 H2 acc vs ∧ compN it gg ft fe (wipeE e (own.map (·.2))) m i acc S2 = some r,
      ⟨lim + 1, ρ1, S1, [], [], (Step.new hD), rep1.new hD, fun hm => ?_, upd_same, .nil, h1⟩, ?_⟩
    · obtain ⟨u, hu, _⟩ := rep1.mem hm
      rw [hD] at hu; cases hu
    rintro i m H2 ⟨ρ2, S2, acc, vs, st2, rep2, nD, hD2, rv, h2⟩
    cases m with
    | zero => cases h2
    | succ n =>
      have okI := rx ρ2 H2 S2 i st2.ext rep2
      unfold compN at h2
      split at h2
      · cases h2
      · rename_i hit
        cases h2
        exact .inl ⟨okI.1 hit, p1 ρ2 H2 _ st2 rep2 ⟨D', vs, rfl, st1.trk D' hD, nD, hD2, rv⟩⟩
      · rename_i d hit
        obtain ⟨go, yl⟩ := okI.2 d hit
        split at h2
        · cases h2
        · rename_i e1 hgd
          refine .inr ⟨go, fun H' => ∃ ρ2 S2 acc vs, Step ρ1 H1 ρ2 H' ∧ Rep G ρ2 H' S2 ∧ D' ∉ ρ2 ∧ H' D' = some (.lst vs) ∧ RVs G.K ρ2 H' acc vs ∧ compN it gg ft fe (wipeE e (own.map (·.2))) n (i + 1) acc S2 = some r, fun H' q => ⟨n, Nat.lt_succ_self n, q⟩, fun y H3 hy => ?_⟩
          obtain ⟨st3, rep3, rd⟩ := yl y H3 hy
          have re3 : RE G.K ρ2 H3 (wipeE e (own.map (·.2))) (wipe σ (own.map (·.2))) := ((re1.mono st2).mono st3).wipe _
          obtain ⟨nD3, hD3⟩ := st3.stays nD hD2
          refine ⟨ρ2, S2, _, d, e1, rep3, re3, rd, hgd, fun σ4 re4 w4 => ⟨by rw [w4 _ his]; exact wipe_idem _ _ fun _ m => m, ?_⟩⟩
          cases hft : ft e1 S2 with
          | none => rw [hft] at h2; cases h2
          | some q =>
            rw [hft] at h2
            refine ⟨ρ2, S2, e1, q, rep3, re4, hft, ?_⟩
            cases q with
            | exc c fs S3 => cases h2
            | val b S3 =>
              rintro ρ5 H5 b' st5 rep5 rfl
              obtain ⟨nD5, hD5⟩ := st5.stays nD3 hD3
              cases b with
              | false => exact ⟨ρ5, S3, acc, vs, (st2.trans st3).trans st5, rep5, nD5, hD5, (rv.mono st3).mono st5, h2⟩
              | true =>
                simp only at h2
                cases hfe : fe e1 S3 with
                | none => rw [hfe] at h2; cases h2
                | some q =>
                  rw [hfe] at h2
                  refine ⟨ρ5, S3, e1, q, rep5, re4.mono st5, hfe, ?_⟩
                  cases q with
                  | exc c fs S4 => cases h2
                  | val z S4 =>
                    intro ρ6 H6 zv st6 rep6 rz
                    obtain ⟨nD6, hD6⟩ := st6.stays nD5 hD5
                    simp only at h2
                    split at h2
                    · rename_i hl
                      have rv6 := ((rv.mono st3).mono st5).mono st6
                      refine ⟨vs, hD6, by rw [rv.len]; exact Nat.lt_of_lt_of_le hl (by decide), ρ6, S4, acc ++ [z], vs ++ [zv], (((st2.trans st3).trans st5).trans st6).chg hD, rep6.chg nD6 hD6 id, nD6, upd_same, ?_, h2⟩
                      exact (rv6.append (.cons rz .nil)).ext (Ext.chg hD6 id)
                    · cases h2

/-- two clauses -/
def innN (it : ItF) (g : FG) (ft : FB) (fe : FE) (e0 : Env') : Nat → Nat → List D → Sto → Option (List D × Sto)
  | 0, _, _, _ => none
  | n + 1, i, acc, S => match it i S with
    | none => none
    | some none => some (acc, S)
    | some (some d) => match g d e0 with
      | none => none
      | some e1 => match ft e1 S with
        | some (.val true S1) => match fe e1 S1 with
          | some (.val y S2) => if acc.length < lim then innN it g ft fe e0 n (i + 1) (acc ++ [y]) S2 else none
          | _ => none
        | some (.val false S1) => innN it g ft fe e0 n (i + 1) acc S1
        | _ => none
def comp2N (it : ItF) (g : FG) (ft : FB) (fi1 : FI) (g1 : FG) (ft1 : FB) (fe : FE) (vs1 : List Nat) (e0 : Env') : Nat → Nat → List D → Sto → Option (Res (List D))
  | 0, _, _, _ => none
  | n + 1, i, acc, S => match it i S with
    | none => none
    | some none => some (.val acc S)
    | some (some d) => match g d e0 with
      | none => none
      | some e1 => match ft e1 S with
        | some (.val true S1) => match fi1 e1 S1 with
          | some (.val it1 S2) => match innN it1 g1 ft1 fe (wipeE e1 vs1) (lim + 1) 0 acc S2 with
            | some (acc', S3) => comp2N it g ft fi1 g1 ft1 fe vs1 e0 n (i + 1) acc' S3
            | none => none
          | _ => none
        | some (.val false S1) => comp2N it g ft fi1 g1 ft1 fe vs1 e0 n (i + 1) acc S1
        | _ => none
def fComp2 (fi : FI) (g : FG) (ft : FB) (fi1 : FI) (g1 : FG) (ft1 : FB) (fe : FE) (vs vs1 : List Nat) : FA := fun e => bnd (fi e) fun it S => comp2N it g ft fi1 g1 ft1 fe vs1 (wipeE e vs) (lim + 1) 0 [] S
theorem dl_lc2 {is1 vs1 : List Nat} {fi1 : FI} {g1 : FG} {ft1 : FB} 
    (hmk : PE X a (tLc2 (Lf G (rI G) E fi) (LfG G is gg) (Lf G rB NoX ft) (Lf G (rI G) NoX fi1) (LfG G is1 g1) (Lf G rB NoX ft1) (Lf G (rD G.K) NoX fe) (own.map (·.2)) vs1))
    (his : ∀ j ∈ is, j ∈ own.map (·.2)) (his1 : ∀ j ∈ is1, j ∈ vs1) :
    DL G X E a (fComp2 fi gg ft fi1 g1 ft1 fe (own.map (·.2)) vs1) :=
  pe_imp hmk fun σ H Q ⟨ρ, S, e, r, rep, re, h, p⟩ => bind_at rep re h p fun ρ1 H1 S1 it J st1 rep1 re1 rx h1 p1 => by
    intro D' hD
    refine ⟨fun i m H2 => ∃ ρ2 S2 acc vs, Step ρ1 H1 ρ2 H2 ∧ Rep G ρ2 H2 S2 ∧ D' ∉ ρ2 ∧ H2 D' = some (.lst vs) ∧ RVs G.K ρ2 H2 acc vs ∧ comp2N it gg ft fi1 g1 ft1 fe vs1 (wipeE e (own.map (·.2))) m i acc S2 = some r,
      ⟨lim + 1, ρ1, S1, [], [], (Step.new hD), rep1.new hD, fun hm => ?_, upd_same, .nil, h1⟩, ?_⟩
    · obtain ⟨u, hu, _⟩ := rep1.mem hm
      rw [hD] at hu; cases hu
    rintro i m H2 ⟨ρ2, S2, acc, vs, st2, rep2, nD, hD2, rv, h2⟩
    cases m with
    | zero => cases h2
    | succ n =>
      have okI := rx ρ2 H2 S2 i st2.ext rep2
      unfold comp2N at h2
      split at h2
      · cases h2
      · rename_i hit
        cases h2
        exact .inl ⟨okI.1 hit, p1 ρ2 H2 _ st2 rep2 ⟨D', vs, rfl, st1.trk D' hD, nD, hD2, rv⟩⟩
      · rename_i d hit
        obtain ⟨go, yl⟩ := okI.2 d hit
        split at h2
        · cases h2
        · rename_i e1 hgd
          refine .inr ⟨go, fun H' => ∃ ρ2 S2 acc vs, Step ρ1 H1 ρ2 H' ∧ Rep G ρ2 H' S2 ∧ D' ∉ ρ2 ∧ H' D' = some (.lst vs) ∧ RVs G.K ρ2 H' acc vs ∧ comp2N it gg ft fi1 g1 ft1 fe vs1 (wipeE e (own.map (·.2))) n (i + 1) acc S2 = some r, fun H' q => ⟨n, Nat.lt_succ_self n, q⟩, fun y H3 hy => ?_⟩
          obtain ⟨st3, rep3, rd⟩ := yl y H3 hy
          have re3 : RE G.K ρ2 H3 (wipeE e (own.map (·.2))) (wipe σ (own.map (·.2))) := ((re1.mono st2).mono st3).wipe _
          obtain ⟨nD3, hD3⟩ := st3.stays nD hD2
          refine ⟨ρ2, S2, _, d, e1, rep3, re3, rd, hgd, fun σ4 re4 w4 => ⟨by rw [w4 _ his]; exact wipe_idem _ _ fun _ m => m, ?_⟩⟩
          cases hft : ft e1 S2 with
          | none => rw [hft] at h2; cases h2
          | some q =>
            rw [hft] at h2
            refine ⟨ρ2, S2, e1, q, rep3, re4, hft, ?_⟩
            cases q with
            | exc c fs S3 => cases h2
            | val b S3 =>
              rintro ρ5 H5 b' st5 rep5 rfl
              obtain ⟨nD5, hD5⟩ := st5.stays nD3 hD3
              cases b with
              | false => exact ⟨ρ5, S3, acc, vs, (st2.trans st3).trans st5, rep5, nD5, hD5, (rv.mono st3).mono st5, h2⟩
              | true =>
                simp only at h2
                cases hfi : fi1 e1 S3 with
                | none => rw [hfi] at h2; cases h2
                | some q =>
                  rw [hfi] at h2
                  refine ⟨ρ5, S3, e1, q, rep5, re4.mono st5, hfi, ?_⟩
                  cases q with
                  | exc c fs S4 => cases h2
                  | val it1 S4 =>
                    intro ρ6 H6 J1 st6 rep6 rx1
                    obtain ⟨nD6, hD6⟩ := st6.stays nD5 hD5
                    simp only at h2
                    cases hin : innN it1 g1 ft1 fe (wipeE e1 vs1) (lim + 1) 0 acc S4 with
                    | none => rw [hin] at h2; cases h2
                    | some w =>
                      obtain ⟨acc', S5⟩ := w
                      rw [hin] at h2
                      have stA := ((st2.trans st3).trans st5).trans st6
                      have rvA := ((rv.mono st3).mono st5).mono st6
                      have reA := (re4.mono st5).mono st6
                      refine ⟨fun i m H7 => ∃ ρ7 S7 acc7 vs7, Step ρ1 H1 ρ7 H7 ∧ Rep G ρ7 H7 S7 ∧ RE G.K ρ7 H7 e1 σ4 ∧ ItOk G J1 ρ7 H7 it1 ∧ D' ∉ ρ7 ∧ H7 D' = some (.lst vs7) ∧ RVs G.K ρ7 H7 acc7 vs7 ∧ innN it1 g1 ft1 fe (wipeE e1 vs1) m i acc7 S7 = some (acc', S5),
                        ⟨lim + 1, ρ6, S4, acc, vs, stA, rep6, reA, rx1, nD6, hD6, rvA, hin⟩, ?_⟩
                      rintro i7 m7 H7 ⟨ρ7, S7, acc7, vs7, st7, rep7, re7, ok7, nD7, hD7, rv7, h7⟩
                      cases m7 with
                      | zero => cases h7
                      | succ n7 =>
                        have okI := ok7 ρ7 H7 S7 i7 (.refl _ _) rep7
                        unfold innN at h7
                        split at h7
                        · cases h7
                        · rename_i hit7
                          cases h7
                          exact .inl ⟨okI.1 hit7, ρ7, S5, acc', vs7, st7, rep7, nD7, hD7, rv7, h2⟩
                        · rename_i d7 hit7
                          obtain ⟨go7, yl7⟩ := okI.2 d7 hit7
                          split at h7
                          · cases h7
                          · rename_i e8 hgd8
                            refine .inr ⟨go7, fun H8 => ∃ ρ7 S7 acc7 vs7, Step ρ1 H1 ρ7 H8 ∧ Rep G ρ7 H8 S7 ∧ RE G.K ρ7 H8 e1 σ4 ∧ ItOk G J1 ρ7 H8 it1 ∧ D' ∉ ρ7 ∧ H8 D' = some (.lst vs7) ∧ RVs G.K ρ7 H8 acc7 vs7 ∧ innN it1 g1 ft1 fe (wipeE e1 vs1) n7 (i7 + 1) acc7 S7 = some (acc', S5), fun H' q => ⟨n7, Nat.lt_succ_self n7, q⟩, fun y8 H8 hy8 => ?_⟩
                            obtain ⟨st8, rep8, rd8⟩ := yl7 y8 H8 hy8
                            have re8 : RE G.K ρ7 H8 (wipeE e1 vs1) (wipe σ4 vs1) := (re7.mono st8).wipe _
                            obtain ⟨nD8, hD8⟩ := st8.stays nD7 hD7
                            refine ⟨ρ7, S7, _, d7, e8, rep8, re8, rd8, hgd8, fun σ9 re9 w9 => ⟨by rw [w9 _ his1]; exact wipe_idem _ _ fun _ m => m, ?_⟩⟩
                            cases hft8 : ft1 e8 S7 with
                            | none => rw [hft8] at h7; cases h7
                            | some q =>
                              rw [hft8] at h7
                              refine ⟨ρ7, S7, e8, q, rep8, re9, hft8, ?_⟩
                              cases q with
                              | exc c fs S8 => cases h7
                              | val b8 S8 =>
                                rintro ρa Ha b' sta repa rfl
                                obtain ⟨nDa, hDa⟩ := sta.stays nD8 hD8
                                cases b8 with
                                | false => exact ⟨ρa, S8, acc7, vs7, (st7.trans st8).trans sta, repa, (re7.mono st8).mono sta, ok7.mono (st8.trans sta).ext, nDa, hDa, (rv7.mono st8).mono sta, h7⟩
                                | true =>
                                  simp only at h7
                                  cases hfe : fe e8 S8 with
                                  | none => rw [hfe] at h7; cases h7
                                  | some q =>
                                    rw [hfe] at h7
                                    refine ⟨ρa, S8, e8, q, repa, re9.mono sta, hfe, ?_⟩
                                    cases q with
                                    | exc c fs S9 => cases h7
                                    | val z S9 =>
                                      intro ρb Hb zv stb repb rz
                                      obtain ⟨nDb, hDb⟩ := stb.stays nDa hDa
                                      simp only at h7
                                      split at h7
                                      · rename_i hl
                                        have rvb := ((rv7.mono st8).mono sta).mono stb
                                        have stc := (st8.trans sta).trans stb
                                        refine ⟨vs7, hDb, by rw [rv7.len]; exact Nat.lt_of_lt_of_le hl (by decide), ρb, S9, acc7 ++ [z], vs7 ++ [zv], (st7.trans stc).chg hD, repb.chg nDb hDb id, ?_, ?_, nDb, upd_same, ?_, h7⟩
                                        · exact ⟨(re7.mono stc).1, fun j d hj => let ⟨v, h1, h2⟩ := (re7.mono stc).2 j d hj; ⟨v, h1, h2.ext (Ext.chg hDb id)⟩⟩
                                        · exact ok7.mono (stc.ext.trans (Ext.chg hDb id))
                                        · exact (rvb.append (.cons rz .nil)).ext (Ext.chg hDb id)
                                      · cases h7
end
end Mini
end

section
set_option Elab.async false
set_option linter.all false
set_option maxRecDepth 100000
set_option maxHeartbeats 4000000
/-! itertools.permutations over a range, at the model's level -/
namespace PermK
open PySem PySem.Spec
open Sem (wp)
theorem p_mro : mroOf (.type "itertools.permutations") = pure [.type "itertools.permutations", .type "object"] := by rw [mroOf_type]; kernel_rfl
theorem p_new : typeLookup (.type "itertools.permutations") "__new__" = pure (some (.builtin "itertools.permutations.__new__")) := by rw [typeLookup_type, builtinLookup_eq_fast]; kernel_rfl
theorem p_sub : isSubtype (.type "itertools.permutations") (.type "itertools.permutations") = pure true := by rw [isSubtype_type]; kernel_rfl
theorem p_init : Slot "itertools.permutations" "__init__" "object.__init__" :=
  .of (owner := "object") (n := "__init__") (by rw [typeLookup_type, builtinLookup_eq_fast]; kernel_rfl) (by decide +kernel) (by decide +kernel) (by decide +kernel) (by first | exact .inl (by decide +kernel) | exact .inr (by decide +kernel)) (by rw [isSubtype_type]; kernel_rfl)
theorem p_called : TypeCalled "itertools.permutations" "itertools.permutations.__new__" "object.__init__" :=
  ⟨by decide +kernel, by decide +kernel, ⟨_, _, p_mro⟩, madeBy_type p_mro p_new (by decide +kernel), by decide +kernel, p_sub, p_init⟩
theorem p_tcall (a : Value) : checkTypeCall "itertools.permutations" ⟨[a], []⟩ = pure () := by kernel_rfl
theorem p_ncall (a : Value) : checkBuiltinCall "itertools.permutations.__new__" ⟨[.type "itertools.permutations", a], []⟩ = pure () := by kernel_rfl
theorem p_enew : entryFor table "itertools.permutations.__new__" = some Builtin.«itertools.permutations.__new__» := entryFor_of_tree (by kernel_rfl)
theorem p_siter : Slot "itertools.permutations" "__iter__" "itertools.permutations.__iter__" :=
  .of (owner := "itertools.permutations") (n := "__iter__") (by rw [typeLookup_type, builtinLookup_eq_fast]; kernel_rfl) (by decide +kernel) (by decide +kernel) (by decide +kernel) (by first | exact .inl (by decide +kernel) | exact .inr (by decide +kernel)) p_sub
theorem p_snext : Slot "itertools.permutations" "__next__" "itertools.permutations.__next__" :=
  .of (owner := "itertools.permutations") (n := "__next__") (by rw [typeLookup_type, builtinLookup_eq_fast]; kernel_rfl) (by decide +kernel) (by decide +kernel) (by decide +kernel) (by first | exact .inl (by decide +kernel) | exact .inr (by decide +kernel)) p_sub
theorem p_eiter : entryFor table "itertools.permutations.__iter__" = some Builtin.«dict_keyiterator.__iter__» :=
  entryFor_alias (id' := "dict_keyiterator.__iter__") (by kernel_rfl) (by first | rfl | decide +kernel | (unfold String.splitOn; simp +decide [String.splitOnAux])) (by decide +kernel) (by kernel_rfl)
theorem p_enext : entryFor table "itertools.permutations.__next__" = some Builtin.«itertools.permutations.__next__» := entryFor_of_tree (by kernel_rfl)
theorem p_owner : Manifest.owners.lookup (String.ofList ['s', 'n', 'o', 'i', 't', 'a', 't', 'u', 'm', 'r', 'e', 'p', '.', 's', 'l', 'o', 'o', 't', 'r', 'e', 't', 'i'].reverse) = some Manifest.sig_itertools_permutations := by kernel_rfl
theorem p_aiter (a : Value) : argsOk "itertools.permutations.__iter__" ⟨[a], []⟩ := by
  unfold argsOk; rw [signature?_of (id := "itertools.permutations.__iter__") (n := ['_', '_', 'r', 'e', 't', 'i', '_', '_']) (o := ['s', 'n', 'o', 'i', 't', 'a', 't', 'u', 'm', 'r', 'e', 'p', '.', 's', 'l', 'o', 'o', 't', 'r', 'e', 't', 'i']) (by kernel_rfl) p_owner]; kernel_rfl
theorem p_anext (a : Value) : argsOk "itertools.permutations.__next__" ⟨[a], []⟩ := by
  unfold argsOk; rw [signature?_of (id := "itertools.permutations.__next__") (n := ['_', '_', 't', 'x', 'e', 'n', '_', '_']) (o := ['s', 'n', 'o', 'i', 't', 'a', 't', 'u', 'm', 'r', 'e', 'p', '.', 's', 'l', 'o', 'o', 't', 'r', 'e', 't', 'i']) (by kernel_rfl) p_owner]; kernel_rfl
theorem p_nodict : typeHasDict (.type "itertools.permutations") = false := by decide +kernel

/-- the places of the points, then the rounds, at each moment behind the first -/
def nums : Nat → Nat → List Nat
  | 3, 0 => [0, 1, 2, 3, 2, 1]
  | 3, 1 => [0, 2, 1, 3, 1, 1]
  | 3, 2 => [1, 0, 2, 2, 2, 1]
  | 3, 3 => [1, 2, 0, 2, 1, 1]
  | 3, 4 => [2, 0, 1, 1, 2, 1]
  | 3, 5 => [2, 1, 0, 1, 1, 1]
  | _, _ => []
def fact : Nat → Nat
  | 3 => 6
  | _ => 0
abbrev pobj (n : Nat) (pool : Addr) (st : Int) (last : Value) (i : Nat) : Obj := { cls := .type "itertools.permutations", dict := none, data := .fields ([.ref pool, .int st 0, .int n 0, last] ++ (nums n i).map fun (k : Nat) => Value.int k 0).toArray, slots := #[] }
end PermK
end

section
set_option Elab.async false
set_option linter.all false
set_option maxRecDepth 100000
set_option maxHeartbeats 4000000
namespace PermK
open PySem PySem.Spec PyProof.Rows
open Sem (wp)
section
variable {prog : Program} {w : World} {A : Around} {E : Value → Shared → Prop} {s : Shared}
/-- the first -/
theorem next_first {it pool : Addr} {last x0 x1 x2 : Value} {Q : Option Value → Shared → Prop} (ho : s.heap.get? it = some (pobj 3 pool 0 last 0)) (hp : IsTup s.heap pool #[x0, x1, x2]) (hne : pool ≠ it)
    (hQ : ∀ h', h'.get? it = some (pobj 3 pool 1 (.ref s.heap.objs.size) 0) → h'.get? s.heap.objs.size = some { cls := .type "tuple", data := .seq #[x0, x1, x2] } → (∀ b o, b ≠ it → s.heap.get? b = some o → h'.get? b = some o) → Q (some (.ref s.heap.objs.size)) { s with heap := h' }) :
    wpAny (model prog w) A (callSpecial? (.ref it) "__next__") Q E s := by
  have hT : s.TypeIs (.ref it) "itertools.permutations" := ⟨_, ho, rfl⟩
  refine wpAny_callSpecial?_slot (name := Str.ofString "__next__") hT p_snext (wpAny_call_entry p_snext hT p_enext ?_ (p_anext _))
  obtain ⟨po, hpo, hpc, pn, hpd⟩ := hp
  have pool1 : ∀ {A : Around} {E : Value → Shared → Prop} {Q : Array Value → Shared → Prop}, Q #[x0, x1, x2] s → wpAny (model prog w) A (Builtin.Itertools.itPoolItems (.ref pool)) Q E s := fun {A E Q} q => by
    show wpAny _ _ ((seqItems? (.ref pool)) >>= _) _ _ s
    refine wpAny_bind ?_
    show wpAny _ _ (load pool >>= _) _ _ s
    refine wpAny_bind (wpAny_load hpo ?_)
    rw [hpd]
    exact wpAny_pure (wpAny_pure q)
  show wpAny _ _ (field (.ref it) 0 >>= _) _ _ s
  refine wpAny_bind (wpAny_field ho rfl (x := .ref pool) rfl ?_)
  refine wpAny_bind (pool1 ?_)
  show wpAny _ _ ((field (.ref it) 2 >>= _) >>= _) _ _ s
  refine wpAny_bind (wpAny_bind (wpAny_field ho rfl (x := .int 3 0) rfl (wpAny_pure ?_)))
  show wpAny _ _ (Builtin.Itertools.itNumbersFrom (.ref it) 4 >>= _) _ _ s
  refine wpAny_bind (Q := _) ?_
  show wpAny _ _ (load it >>= _) _ _ s
  refine wpAny_bind (wpAny_load ho ?_)
  refine wpAny_pure ?_
  show wpAny _ _ ((field (.ref it) 1 >>= _) >>= _) _ _ s
  refine wpAny_bind (wpAny_bind (wpAny_field ho rfl (x := .int 0 0) rfl (wpAny_pure ?_)))
  show wpAny _ _ (setField (.ref it) 1 (rawInt 1) >>= _) _ _ s
  refine wpAny_bind (wpAny_setField_rec ho (show 1 < 10 by decide) fun h1 ho1 sb1 => ?_)
  show wpAny _ _ (newTuple [x0, x1, x2] >>= _) _ _ _
  refine wpAny_bind (wpAny_newTuple ?_)
  have hz : h1.objs.size = s.heap.objs.size := sb1.1
  show wpAny _ _ (field (.ref it) 3 >>= _) _ _ _
  have ho2 : (h1.push { cls := .type "tuple", data := .seq [x0, x1, x2].toArray }).get? it = some (pobj 3 pool 1 last 0) := Heap.get?_push_of_some _ ho1
  refine wpAny_bind (wpAny_field ho2 rfl (x := last) rfl ?_)
  show wpAny _ _ (setField (.ref it) 3 (.ref h1.objs.size) >>= _) _ _ _
  refine wpAny_bind (wpAny_setField_rec ho2 (show 3 < 10 by decide) fun h2 ho3 sb2 => ?_)
  refine wpAny_bind (wpAny_letGo ?_)
  have hT2 : h2.get? h1.objs.size = some { cls := .type "tuple", data := .seq #[x0, x1, x2] } := (sb2.2 _ (Ne.symm (Nat.ne_of_lt (Heap.lt_size ho1)))).trans (Heap.get?_push_size _ rfl)
  have keep : ∀ b o, b ≠ it → s.heap.get? b = some o → h2.get? b = some o := fun b o hb e => (sb2.2 b hb).trans (Heap.get?_push_of_some _ ((sb1.2 b hb).trans e))
  rw [hz] at hT2 ho3 ⊢
  exact wpAny_pure ⟨_, rfl, hQ h2 ho3 hT2 keep⟩
/-- the pool is read -/
theorem pool_items {pool : Addr} {items : Array Value} (hp : IsTup s.heap pool items) {Q : Array Value → Shared → Prop} (q : Q items s) : wpAny (model prog w) A (Builtin.Itertools.itPoolItems (.ref pool)) Q E s := by
  obtain ⟨po, hpo, hpc, pn, hpd⟩ := hp
  show wpAny _ _ ((seqItems? (.ref pool)) >>= _) _ _ s
  refine wpAny_bind ?_
  show wpAny _ _ (load pool >>= _) _ _ s
  refine wpAny_bind (wpAny_load hpo ?_)
  rw [hpd]
  exact wpAny_pure (wpAny_pure q)
set_option maxHeartbeats 8000000 in
theorem next_more3 {it pool : Addr} {last x0 x1 x2 : Value} {i : Nat} {Q : Option Value → Shared → Prop} (hi : i < 5) (ho : s.heap.get? it = some (pobj 3 pool 1 last i)) (hp : IsTup s.heap pool #[x0, x1, x2])
    (hQ : ∀ h', h'.get? it = some (pobj 3 pool 1 (.ref s.heap.objs.size) (i + 1)) → h'.get? s.heap.objs.size = some { cls := .type "tuple", data := .seq (((nums 3 (i + 1)).take 3).map fun k => #[x0, x1, x2].getD k .none).toArray } → (∀ b o, b ≠ it → s.heap.get? b = some o → h'.get? b = some o) → Q (some (.ref s.heap.objs.size)) { s with heap := h' }) :
    wpAny (model prog w) A (callSpecial? (.ref it) "__next__") Q E s := by
  have hT : s.TypeIs (.ref it) "itertools.permutations" := ⟨_, ho, rfl⟩
  refine wpAny_callSpecial?_slot (name := Str.ofString "__next__") hT p_snext (wpAny_call_entry p_snext hT p_enext ?_ (p_anext _))
  show wpAny _ _ (field (.ref it) 0 >>= _) _ _ s
  refine wpAny_bind (wpAny_field ho rfl (x := .ref pool) rfl ?_)
  refine wpAny_bind (pool_items hp ?_)
  show wpAny _ _ ((field (.ref it) 2 >>= _) >>= _) _ _ s
  refine wpAny_bind (wpAny_bind (wpAny_field ho rfl (x := .int 3 0) rfl (wpAny_pure ?_)))
  show wpAny _ _ (Builtin.Itertools.itNumbersFrom (.ref it) 4 >>= _) _ _ s
  refine wpAny_bind (Q := _) ?_
  show wpAny _ _ (load it >>= _) _ _ s
  refine wpAny_bind (wpAny_load ho ?_)
  refine wpAny_pure ?_
  show wpAny _ _ ((field (.ref it) 1 >>= _) >>= _) _ _ s
  refine wpAny_bind (wpAny_bind (wpAny_field ho rfl (x := .int 1 0) rfl (wpAny_pure ?_)))
  have fin : ∀ (a : List Nat), a = nums 3 (i + 1) → (([.ref pool, .int 1 0, .int 3 0, last] ++ (nums 3 i).map fun (k : Nat) => Value.int k 0).toArray.extract 0 4 ++ (a.map fun (n : Nat) => rawInt n).toArray) = ([.ref pool, .int 1 0, .int 3 0, last] ++ (nums 3 (i + 1)).map fun (k : Nat) => Value.int k 0).toArray → a.length = 6 → ∀ {r : Value → Sem PySem.Fin}, r = PySem.ret → wpAny (model prog w) A.in1 ((Builtin.Itertools.itSetNumbersFrom (.ref it) 4 a >>= fun _ => newTuple ((a.take 3).map fun k => #[x0, x1, x2].getD k .none) >>= fun t => field (.ref it) 3 >>= fun before => setField (.ref it) 3 t >>= fun _ => letGo [before] [t] >>= fun _ => r t)) (fun fin s' => ∃ v, fin = Fin.done (Flow.ret v) ∧ Q (some v) s') E s := by
    intro a ha he hl r hr
    subst hr
    show wpAny _ _ (updateFields it _ >>= _) _ _ s
    refine wpAny_bind (wpAny_updateFields ho rfl ?_ ?_)
    · have hl3 : ((a.take 3).map fun k => #[x0, x1, x2].getD k Value.none).length ≤ 3 := by simp; omega
      have ho1 : (s.heap.update it (Obj.mapFields fun fs => fs.extract 0 4 ++ (a.map fun (n : Nat) => rawInt n).toArray)).get? it = some (pobj 3 pool 1 last (i + 1)) := (Heap.get?_update_self _ ho rfl).trans (congrArg (fun z : Array Value => some ({ cls := .type "itertools.permutations", dict := none, data := .fields z, slots := #[] } : Obj)) he)
      have sb1 : Heap.SameBut it s.heap (s.heap.update it (Obj.mapFields fun fs => fs.extract 0 4 ++ (a.map fun (n : Nat) => rawInt n).toArray)) := Heap.SameBut.update ..
      generalize hh1 : (s.heap.update it (Obj.mapFields fun fs => fs.extract 0 4 ++ (a.map fun (n : Nat) => rawInt n).toArray)) = h1 at ho1 sb1
      refine wpAny_bind (wpAny_newTuple ?_ (by have : (3 : Nat) ≤ sizeLine := by decide
                                               omega))
      have hz : h1.objs.size = s.heap.objs.size := sb1.1
      have ho2 : (h1.push { cls := .type "tuple", data := .seq ((a.take 3).map fun k => #[x0, x1, x2].getD k Value.none).toArray }).get? it = some (pobj 3 pool 1 last (i + 1)) := Heap.get?_push_of_some _ ho1
      refine wpAny_bind (wpAny_field ho2 rfl (x := last) rfl ?_)
      refine wpAny_bind (wpAny_setField_rec ho2 (by simp) fun h2 ho3 sb2 => ?_)
      refine wpAny_bind (wpAny_letGo ?_)
      have hT2 : h2.get? h1.objs.size = some { cls := .type "tuple", data := .seq ((a.take 3).map fun k => #[x0, x1, x2].getD k Value.none).toArray } := (sb2.2 _ (Ne.symm (Nat.ne_of_lt (Heap.lt_size ho1)))).trans (Heap.get?_push_size _ rfl)
      have keep : ∀ b o, b ≠ it → s.heap.get? b = some o → h2.get? b = some o := fun b o hb e => (sb2.2 b hb).trans (Heap.get?_push_of_some _ ((sb1.2 b hb).trans e))
      rw [hz] at hT2 ho3 ⊢
      rw [ha] at hT2
      exact wpAny_pure ⟨_, rfl, hQ h2 ho3 hT2 keep⟩
    · have : (64 : Nat) ≤ sizeLine := by decide
      simp only [Array.size_append, List.size_toArray, List.length_map, Array.size_extract]
      omega
  obtain rfl | rfl | rfl | rfl | rfl : i = 0 ∨ i = 1 ∨ i = 2 ∨ i = 3 ∨ i = 4 := by omega
  all_goals exact fin _ rfl rfl rfl (r := PySem.ret) rfl
end
end PermK
end

section
set_option Elab.async false
set_option linter.all false
set_option maxRecDepth 100000
set_option maxHeartbeats 4000000
namespace PermK
open PySem PySem.Spec PyProof.Rows L2
/-- the heap behind the making -/
def permH (h1 : Heap) (k0 k1 k2 : Tok) : Heap := (h1.push { cls := .type "tuple", data := .seq #[.int 0 k0, .int 1 k1, .int 2 k2] }).push (pobj 3 h1.objs.size 0 .none 0)
section
variable {prog : Program} {w : World} {A : Around} {E : Value → Shared → Prop} {s : Shared}
set_option maxHeartbeats 8000000 in
theorem pynext_end {it pool : Addr} {last x0 x1 x2 : Value} {Q : Option Value → Shared → Prop} (hh : A.handled = none) (ho : s.heap.get? it = some (pobj 3 pool 1 last 5)) (hp : IsTup s.heap pool #[x0, x1, x2])
    (hQ : ∀ h', Heap.ExtBut it s.heap h' → Q none { s with heap := h' }) : wpAny (model prog w) A (pyNext (.ref it)) Q E s := by
  have hT : s.TypeIs (.ref it) "itertools.permutations" := ⟨_, ho, rfl⟩
  unfold pyNext
  refine wpAny_bind (wpAny_attempt (wpAny_callSpecial?_slot (name := Str.ofString "__next__") hT p_snext (wpAny_call_entry p_snext hT p_enext ?_ (p_anext _))))
  show wpAny _ _ (field (.ref it) 0 >>= _) _ _ s
  refine wpAny_bind (wpAny_field ho rfl (x := .ref pool) rfl ?_)
  refine wpAny_bind (pool_items hp ?_)
  show wpAny _ _ ((field (.ref it) 2 >>= _) >>= _) _ _ s
  refine wpAny_bind (wpAny_bind (wpAny_field ho rfl (x := .int 3 0) rfl (wpAny_pure ?_)))
  show wpAny _ _ (Builtin.Itertools.itNumbersFrom (.ref it) 4 >>= _) _ _ s
  refine wpAny_bind (Q := _) ?_
  show wpAny _ _ (load it >>= _) _ _ s
  refine wpAny_bind (wpAny_load ho ?_)
  refine wpAny_pure ?_
  show wpAny _ _ ((field (.ref it) 1 >>= _) >>= _) _ _ s
  refine wpAny_bind (wpAny_bind (wpAny_field ho rfl (x := .int 1 0) rfl (wpAny_pure ?_)))
  show wpAny _ _ (setField (.ref it) 1 (rawInt 2) >>= _) _ _ s
  refine wpAny_bind (wpAny_setField_rec ho (show 1 < 10 by decide) fun h1 ho1 sb1 => ?_)
  show wpAny _ _ (newExc (.type "StopIteration") [] >>= _) _ _ _
  refine wpAny_bind ?_
  simp only [newExc, newTuple]
  refine wpAny_bind (wpAny_newObj_type ?_ (by size_fits))
  refine wpAny_bind (m := firstArgMember _ _) (wpAny_of_eq (a := Value.none) (by first | rfl | (simp only [firstArgMember]; rfl)) ?_)
  refine wpAny_newObj_type ?_ (by size_fits)
  simp only [raiseNew]
  refine wpAny_bind (wpAny_handled ?_)
  first | rw [show A.in1.handled = none from hh] | rw [hh]
  refine wpAny_bind (wpAny_pure (wpAny_throw ?_))
  refine wpAny_bind (wpAny_isInstance (T := "StopIteration") (b := true) ⟨_, Heap.get?_push_size _ rfl, rfl⟩ isSubtype_stop ?_)
  exact wpAny_pure (hQ _ ((sb1.extBut.push _).push _))
theorem pynext_first {it pool : Addr} {last x0 x1 x2 : Value} {Q : Option Value → Shared → Prop} (ho : s.heap.get? it = some (pobj 3 pool 0 last 0)) (hp : IsTup s.heap pool #[x0, x1, x2]) (hne : pool ≠ it)
    (hQ : ∀ h', h'.get? it = some (pobj 3 pool 1 (.ref s.heap.objs.size) 0) → h'.get? s.heap.objs.size = some { cls := .type "tuple", data := .seq #[x0, x1, x2] } → (∀ b o, b ≠ it → s.heap.get? b = some o → h'.get? b = some o) → Q (some (.ref s.heap.objs.size)) { s with heap := h' }) :
    wpAny (model prog w) A (pyNext (.ref it)) Q E s := by
  unfold pyNext
  exact wpAny_bind (wpAny_attempt (next_first ho hp hne fun h' a b c => wpAny_pure (hQ h' a b c)))
theorem pynext_more {it pool : Addr} {last x0 x1 x2 : Value} {i : Nat} {Q : Option Value → Shared → Prop} (hi : i < 5) (ho : s.heap.get? it = some (pobj 3 pool 1 last i)) (hp : IsTup s.heap pool #[x0, x1, x2])
    (hQ : ∀ h', h'.get? it = some (pobj 3 pool 1 (.ref s.heap.objs.size) (i + 1)) → h'.get? s.heap.objs.size = some { cls := .type "tuple", data := .seq (((nums 3 (i + 1)).take 3).map fun k => #[x0, x1, x2].getD k .none).toArray } → (∀ b o, b ≠ it → s.heap.get? b = some o → h'.get? b = some o) → Q (some (.ref s.heap.objs.size)) { s with heap := h' }) :
    wpAny (model prog w) A (pyNext (.ref it)) Q E s := by
  unfold pyNext
  exact wpAny_bind (wpAny_attempt (next_more3 hi ho hp fun h' a b c => wpAny_pure (hQ h' a b c)))
theorem iter_perm {it : Addr} {o : Obj} {Q : Value → Shared → Prop} (ho : s.heap.get? it = some o) (hc : o.cls = .type "itertools.permutations") (h : Q (.ref it) s) : wpAny (model prog w) A (pyIter (.ref it)) Q E s := by
  have hT : s.TypeIs (.ref it) "itertools.permutations" := ⟨_, ho, hc⟩
  refine wpAny_pyIter_slot hT p_siter (wpAny_call_entry p_siter hT p_eiter ?_ (p_aiter _))
  show wpAny _ _ (ret (.ref it)) _ _ s
  exact wpAny_pure ⟨_, rfl, "itertools.permutations", _, hT, p_snext.lookup, h⟩
theorem meets_perm_new (r : Addr) : MeetsIn prog w (Builtin.«itertools.permutations.__new__» ⟨[.type "itertools.permutations", .ref r], []⟩)
    (fun A R s => A.handled = none ∧ (∃ t u v, IsRange s.heap r 0 3 1 t u v) ∧ ∀ h1 tk k0 k1 k2, (∀ b o, s.heap.get? b = some o → h1.get? b = some o) → R (.ok (.ret (.ref (h1.objs.size + 1)))) { s with heap := permH h1 k0 k1 k2, toks := tk }) :=
  .of_wp fun A R s ⟨hh, ⟨t, u, v, hr⟩, h⟩ => by
    obtain ⟨hp, g, dd, tk, os⟩ := s
    have hh1 : A.in1.handled = none := hh
    have hstr : ("itertools." ++ "permutations" : String) = "itertools.permutations" := by decide
    have hsub := p_sub
    have hd := p_nodict
    have hsm : Builtin.Range.small 0 3 1 = true := by decide
    have hn : Builtin.Range.rangeSize 0 3 1 = (3 : Nat) := by decide
    repeat (first
      | refine collect_range (A := A.in1) hh1 hr hsm hn (by decide) ?_
      | wp_step
      | rw [hstr]
      | simp only [List.head?_cons, Option.some_or, List.getElem?_cons_succ, List.getElem?_cons_zero, List.length_cons, List.length_nil, List.forIn_nil])
    intro h' tk' acc hk hacc
    obtain ⟨hsz, hit⟩ := hacc
    obtain ⟨l⟩ := acc
    obtain ⟨x0, x1, x2, rfl⟩ : ∃ x0 x1 x2, l = [x0, x1, x2] := by
      match l, hsz with
      | [a, b, c], _ => exact ⟨a, b, c, rfl⟩
    obtain ⟨k0, e0⟩ := hit 0 x0 rfl
    obtain ⟨k1, e1⟩ := hit 1 x1 rfl
    obtain ⟨k2, e2⟩ := hit 2 x2 rfl
    have f0 : x0 = .int 0 k0 := e0
    have f1 : x1 = .int 1 k1 := e1
    have f2 : x2 = .int 2 k2 := e2
    subst f0 f1 f2
    show wpAny _ _ (newTuple [Value.int 0 k0, .int 1 k1, .int 2 k2] >>= fun t => Builtin.Itertools.itNewRecord (Value.type "itertools.permutations") [t, rawInt 0, rawInt 3, Value.none, rawInt 0, rawInt 1, rawInt 2, rawInt 3, rawInt 2, rawInt 1] >>= fun v => ret v) _ _ _
    refine wpAny_bind (wpAny_newTuple ?_)
    refine wpAny_bind ?_
    unfold Builtin.Itertools.itNewRecord
    rw [show (!typeHasDict (Value.type "itertools.permutations")) = true from by rw [hd]; rfl]
    show wpAny _ _ (newObj (.type "itertools.permutations") (.fields #[.ref h'.objs.size, rawInt 0, rawInt 3, Value.none, rawInt 0, rawInt 1, rawInt 2, rawInt 3, rawInt 2, rawInt 1]) >>= fun v => pure v) _ _ _
    refine wpAny_bind (wpAny_newObj_type ?_ (by size_fits))
    refine wpAny_pure (wpAny_pure ⟨_, rfl, ?_⟩)
    have hp2 : ∀ {o : Obj}, (h'.push o).objs.size = h'.objs.size + 1 := by intro o; simp [Heap.push]
    show R (.ok (.ret (.ref (h'.push _).objs.size))) _
    rw [hp2]
    exact h h' tk' k0 k1 k2 hk
end
end PermK
end

section
set_option Elab.async false
set_option linter.all false
set_option maxRecDepth 100000
set_option maxHeartbeats 4000000
namespace PermK
open PySem PySem.Spec PyProof.Rows L2
/-- the orders of three -/
def perm3 : Nat → List Int
  | 0 => [0, 1, 2]
  | 1 => [0, 2, 1]
  | 2 => [1, 0, 2]
  | 3 => [1, 2, 0]
  | 4 => [2, 0, 1]
  | 5 => [2, 1, 0]
  | _ => []
def Itp : It := ⟨fun i _ => i < 6, fun i H v H' => ∃ T, v = .ref T ∧ H T = none ∧ H' = upd H T (.tup ((perm3 i).map V.int)), fun i _ => 6 ≤ i⟩
def pst (pool : Addr) (last : Value) : Nat → Obj
  | 0 => pobj 3 pool 0 last 0
  | i + 1 => pobj 3 pool 1 last i
theorem pst_cls {pool : Addr} {last : Value} : ∀ i, (pst pool last i).cls = .type "itertools.permutations"
  | 0 => rfl
  | _ + 1 => rfl
theorem pst_data {pool : Addr} {last : Value} : ∀ i, ∃ vs, (pst pool last i).data = .fields vs
  | 0 => ⟨_, rfl⟩
  | _ + 1 => ⟨_, rfl⟩
structure PermSt (pool it : Addr) (i : Nat) (h : Heap) : Prop where
  self : ∃ last, h.get? it = some (pst pool last i)
  pl : ∃ k0 k1 k2, IsTup h pool #[.int 0 k0, .int 1 k1, .int 2 k2]
  ne : pool ≠ it
  le : i ≤ 6
theorem perm_vals {k0 k1 k2 : Tok} {i : Nat} (hi : i < 5) : Vals ((perm3 (i + 1)).map V.int) (((nums 3 (i + 1)).take 3).map fun k => #[Value.int 0 k0, .int 1 k1, .int 2 k2].getD k .none) := by
  obtain rfl | rfl | rfl | rfl | rfl : i = 0 ∨ i = 1 ∨ i = 2 ∨ i = 3 ∨ i = 4 := by omega
  all_goals exact .cons ⟨_, rfl⟩ (.cons ⟨_, rfl⟩ (.cons ⟨_, rfl⟩ .nil))
theorem perm_len (i : Nat) : (perm3 i).length ≤ 3 := by
  match i with
  | 0 | 1 | 2 | 3 | 4 | 5 => decide
  | _ + 6 => simp [perm3]
theorem turn_perm {P : Program} {w : World} {K : PySem.W.Frag} {tg : Expr} (pool it : Addr) :
    Turn P w K tg Itp [it, pool] it (PermSt pool it) where
  mem := by simp
  obj := fun i h st b hb => by
    obtain ⟨⟨last, he⟩, ⟨k0, k1, k2, o, ho, hc, pn, hd⟩, _⟩ := st
    have e' : b = it ∨ b = pool := by simpa using hb
    rcases e' with z | z
    · rw [z]
      refine ⟨_, he, fun v q => ?_⟩
      obtain ⟨vs, e⟩ := pst_data (pool := pool) (last := last) i
      rw [e] at q; cases q
    · rw [z]; exact ⟨o, ho, fun v q => by rw [hd] at q; cases q⟩
  keep := fun i h h' st k => by
    obtain ⟨⟨last, he⟩, ⟨k0, k1, k2, o, ho, r⟩, hn, hl⟩ := st
    exact ⟨⟨last, k it (by simp) _ he⟩, ⟨k0, k1, k2, o, k pool (by simp) _ ho, r⟩, hn, hl⟩
  item := by
    intro X hP hw hK hc i pins s σ H E I hf st hg
    subst hP hw hK
    obtain ⟨⟨last, he⟩, ⟨k0, k1, k2, hp⟩, hne, hl⟩ := st
    have hg : i < 6 := hg
    have hel : it < s.heap.objs.size := Heap.lt_size he
    have hpl : pool < s.heap.objs.size := by obtain ⟨o, q, _⟩ := hp; exact Heap.lt_size q
    have fin : ∀ {h' : Heap} {vs : List Value}, h'.get? it = some (pobj 3 pool 1 (.ref s.heap.objs.size) i) → h'.get? s.heap.objs.size = some { cls := .type "tuple", data := .seq vs.toArray } → Vals ((perm3 i).map V.int) vs → (∀ b o, b ≠ it → s.heap.get? b = some o → h'.get? b = some o) →
        ∃ u, (some (Value.ref s.heap.objs.size)) = some u ∧ wpAny (model X.prog X.w) X.A (letOwnedTupleGo tg (.ref it) u) (fun _ s2 => ∃ x H', Inv X pins σ H' s2 ∧ RelV x u ∧ Itp.yld i H x H' ∧ PermSt pool it (i + 1) s2.heap ∧ ∀ b ∈ [it, pool], H' b = none) E { s with heap := h' } := by
      intro h' vs a b rv c
      refine ⟨_, rfl, go_of (s := { s with heap := h' }) a rfl rfl (by decide) ?_⟩
      have new : ObjOk X.prog X.w (upd H s.heap.objs.size (.tup ((perm3 i).map V.int))) h' s.heap.objs.size (.tup ((perm3 i).map V.int)) :=
        ⟨by rw [List.length_map]; exact Nat.le_trans (perm_len i) (by decide), vs, rv, ⟨_, b, rfl, _, rfl⟩⟩
      have I1 : Inv X pins σ (upd H s.heap.objs.size (.tup ((perm3 i).map V.int))) { s with heap := h' } :=
        I.turnedNew (t' := s.toks) (ch := [it, pool]) (fun b ob hb q => c b ob (fun z => hb (by simp [z])) q) hf (Nat.le_refl _) new
      refine ⟨.ref s.heap.objs.size, _, I1, rfl, ⟨_, rfl, I.hok.fresh (Nat.le_refl _), rfl⟩, ⟨⟨_, a⟩, ?_, hne, hg⟩, fun b hb => ?_⟩
      · obtain ⟨o, ho, r⟩ := hp
        exact ⟨k0, k1, k2, o, c pool o hne ho, r⟩
      · have hb' : b < s.heap.objs.size := by
          have e' : b = it ∨ b = pool := by simpa using hb
          rcases e' with z | z
          · rw [z]; exact hel
          · rw [z]; exact hpl
        rw [upd_ne (Nat.ne_of_lt hb')]
        exact (hf b hb).1
    cases i with
    | zero =>
      exact pynext_first he hp hne fun h' a b c => fin a b (.cons ⟨_, rfl⟩ (.cons ⟨_, rfl⟩ (.cons ⟨_, rfl⟩ .nil))) c
    | succ j =>
      have hj : j < 5 := by omega
      exact pynext_more hj he hp fun h' a b c => fin a b (perm_vals hj) c
  done := by
    intro X hP hw hK hc i pins s σ H E I hf st hg
    subst hP hw hK
    obtain ⟨⟨last, he⟩, ⟨k0, k1, k2, hp⟩, hne, hl⟩ := st
    have hg : 6 ≤ i := hg
    obtain rfl : i = 6 := by omega
    obtain ⟨f0, f1, f2, f3, f4, f5⟩ := hf it (by simp)
    exact pynext_end (I.ok.hd hc) he hp fun h' eb => ⟨rfl, I.turned (t' := s.toks) (fun b o hb q => eb b o hb q) f0 f1 f3 f4 f5⟩
  self := fun A i s Q E st h => by
    obtain ⟨⟨last, he⟩, _⟩ := st
    exact iter_perm he (pst_cls i) h
def iPerm (ta : TA) : TI := fun σ H R => ta σ H fun vs H1 => ∃ a, vs = [.ref a] ∧ H1 a = some (.rng 0 3) ∧ R Itp H1
theorem p_oargs (obj a : Value) : argsOk "object.__init__" ⟨obj :: [a], []⟩ := F.args_object_init_2 obj a
theorem pi_perm {X : Cx} {e tg : Expr} {ta : TA} {x : Str} {p pos : Pos} (hc : X.calm = true) (hg : L2.Gl X x) (hm : X.mg x = some (.type "itertools.permutations")) (ha : PA X [e] ta) (hd : (x == ("__debug__" : Str)) = false) (hs : starEach [e] X.env = [(false, eval e X.env)]) :
    PI X tg (.Call (.Name x p) [e] [] pos) (iPerm ta) := by
  refine ⟨fun pins s σ H R I h => ?_⟩
  refine Call_ (ld_glob I hg hm (PyProof.Rows.callWith_type1 (thn (ha.run pos pins s σ H _ I h) fun us s1 ⟨vs, H1, I1, r1, q1⟩ => ?_) hs rfl) hd)
  obtain ⟨a, ex, hq, q⟩ := q1
  subst ex
  cases r1 with
  | cons r rr =>
    cases rr
    obtain rfl : _ = Value.ref a := r
    obtain ⟨t, u, w, hr⟩ := (show ObjOk X.prog X.w H1 s1.heap a (.rng 0 3) from I1.hok a _ hq)
    refine callType_newIn p_called (by decide +kernel) (p_tcall _) (p_ncall _) (fun obj => p_oargs obj _) p_enew (meets_perm_new a) ⟨I1.ok.hd hc, ⟨_, _, _, hr⟩, fun h1 tk k0 k1 k2 hk => ?_⟩
    have I2 : Inv X pins σ H1 { s1 with heap := h1, toks := tk } := I1.kept hk
    have ht : (permH h1 k0 k1 k2).get? (h1.objs.size + 1) = some (pobj 3 h1.objs.size 0 .none 0) := by
      have := Heap.get?_push_size (h1.push { cls := .type "tuple", data := .seq #[.int 0 k0, .int 1 k1, .int 2 k2] }) (o := pobj 3 h1.objs.size 0 .none 0) rfl
      rw [show (h1.push { cls := .type "tuple", data := .seq #[.int 0 k0, .int 1 k1, .int 2 k2] }).objs.size = h1.objs.size + 1 from by simp [Heap.push]] at this
      exact this
    have hp : IsTup (permH h1 k0 k1 k2) h1.objs.size #[.int 0 k0, .int 1 k1, .int 2 k2] := ⟨_, Heap.get?_push_of_some _ (Heap.get?_push_size _ rfl), rfl, _, rfl⟩
    have I3 : Inv X pins σ H1 { s1 with heap := permH h1 k0 k1 k2, toks := tk } := I2.kept (t' := tk) fun b o e => Heap.get?_push_of_some _ (Heap.get?_push_of_some _ e)
    refine ⟨⟨_, ht, rfl⟩, iter_perm (s := { s1 with heap := permH h1 k0 k1 k2, toks := tk }) ht rfl ?_⟩
    refine ⟨_, [h1.objs.size + 1, h1.objs.size], _, _, H1, rfl, I3, turn_perm h1.objs.size (h1.objs.size + 1), ⟨⟨_, ht⟩, ⟨k0, k1, k2, hp⟩, Nat.ne_of_lt (Nat.lt_succ_self _), Nat.zero_le _⟩, fun b hb => ?_, q⟩
    have e' : b = h1.objs.size + 1 ∨ b = h1.objs.size := by simpa using hb
    have hle : h1.objs.size ≤ b := by
      rcases e' with z | z
      · rw [z]; exact Nat.le_add_right _ _
      · rw [z]; exact Nat.le_refl _
    exact I2.fpOk hle (I2.hok.fresh hle)
end PermK
namespace Mini
open PySem PySem.Spec PyProof.Rows L2
def itPerm3 : ItF := fun i S => some (if i < 6 then some (.tup ((PermK.perm3 i).map D.int)) else none)
def fPerm (la : FA) : FI := fun e => bnd (la e) fun ds S => match ds with
  | [.rng lo hi] => if lo = 0 ∧ hi = 3 then some (.val itPerm3 S) else none
  | _ => none
section
variable {G : Gl} {X : Cx} {E : XK} {a b tg : Expr} {fa fb : FE} {la : FA} {p pos : Pos} {ρ ρ1 : List Addr} {H H0 H1 : Hp} {S S1 : Sto} {e : Env'} {σ : L2.St} {x : Str}
theorem itOk_perm : ItOk G PermK.Itp ρ H itPerm3 := by
  intro ρ' H' S' i st rep
  refine ⟨fun hn => ?_, fun y hy => ?_⟩
  · show 6 ≤ i
    simp only [itPerm3, Option.some.injEq] at hn
    split at hn
    · cases hn
    · omega
  · simp only [itPerm3, Option.some.injEq] at hy
    split at hy
    · rename_i hl
      cases hy
      refine ⟨hl, fun x H2 ⟨T, e1, hT, e2⟩ => ?_⟩
      subst e1 e2
      exact ⟨.new hT, rep.new hT, .tup upd_same ((RVs.of_ints _))⟩
    · cases hy
theorem di_perm (hc : X.calm = true) (hg : L2.Gl X x) (hm : X.mg x = some (.type "itertools.permutations")) (ha : DA G X E [a] la) (hd : (x == ("__debug__" : Str)) = false) (hs : starEach [a] X.env = [(false, eval a X.env)]) : DI G X E tg (.Call (.Name x p) [a] [] pos) (fPerm la) :=
  pi_imp (PermK.pi_perm hc hg hm ha hd hs) fun σ H Q ⟨ρ, S, e, r, rep, re, h, q⟩ => bind_at rep re h q fun ρ1 H1 S1 ds vs st1 rep1 re1 rx h1 p1 => by
    split at h1
    · rename_i lo hi
      split at h1
      · rename_i hl
        obtain ⟨rfl, rfl⟩ := hl
        obtain ⟨v, rfl, rv⟩ := rx.one_inv
        cases rv with | rng hr =>
        cases h1
        exact ⟨_, rfl, hr, p1 ρ1 H1 _ (.refl _ _) rep1 itOk_perm⟩
      · cases h1
    · cases h1
end
end Mini
end

section
set_option Elab.async false
set_option linter.all false
set_option maxRecDepth 100000
set_option maxHeartbeats 4000000
namespace Mini
open PySem PySem.Spec PyProof.Rows L2

def putDct (kvs : List (D × D)) (k : NestedKey) (d y : D) : List (D × D) :=
  if (kvs.any fun p => decide (toKey p.1 = some k)) = true then kvs.map fun p => if toKey p.1 = some k then (p.1, y) else p else kvs ++ [(d, y)]
theorem putDct_length {kvs : List (D × D)} {k : NestedKey} {d y : D} : (putDct kvs k d y).length ≤ kvs.length + 1 := by
  unfold putDct
  split <;> simp

section
variable {K : PySem.W.Frag} {ρ : List Addr} {H : Hp} {P : Program} {w : World} {h : Heap}
theorem ER.any {kvs : List (D × D)} {xs : List (NestedKey × Addr × Value)} (r : ER K ρ H kvs xs) (k : NestedKey) : (kvs.any fun p => decide (toKey p.1 = some k)) = (atKey xs k).isSome := by
  induction r with
  | nil => rfl
  | @cons d y k' b u z kvs xs hk hd rk rz ru t ih =>
    simp only [List.any_cons, hk, Option.some.injEq]
    by_cases q : k' = k
    · simp [q, atKey]
    · simp only [q, decide_false, Bool.false_or, ih]
      simp [atKey, q]
theorem ER.puts {kvs : List (D × D)} {xs : List (NestedKey × Addr × Value)} {k : NestedKey} {y : D} {z : V} {u : Value} (r : ER K ρ H kvs xs) (rz : RV K ρ H y z) (ru : RelV z u) :
    ER K ρ H (kvs.map fun p => if toKey p.1 = some k then (p.1, y) else p) (xs.map (putAt k u)) := by
  induction r with
  | nil => exact .nil
  | @cons d' y' k' b' u' z' kvs xs hk hd rk rz' ru' t ih =>
    simp only [List.map_cons, hk, Option.some.injEq, putAt]
    split
    · exact .cons hk hd rk rz ru ih
    · exact .cons hk hd rk rz' ru' ih
theorem ER.app {kvs : List (D × D)} {xs : List (NestedKey × Addr × Value)} {k : NestedKey} {d y : D} {b : Addr} {z : V} {u : Value} (r : ER K ρ H kvs xs) (hk : toKey d = some k) (hd : k.depth ≤ 8) (rk : RV K ρ H d (.ref b)) (rz : RV K ρ H y z) (ru : RelV z u) :
    ER K ρ H (kvs ++ [(d, y)]) (xs ++ [(k, b, u)]) := by
  induction r with
  | nil => exact .cons hk hd rk rz ru .nil
  | cons hk' hd' rk' rz' ru' t ih => exact .cons hk' hd' rk' rz' ru' ih
theorem ER.put {kvs : List (D × D)} {xs : List (NestedKey × Addr × Value)} {k : NestedKey} {d y : D} {b : Addr} {z : V} {u : Value} (r : ER K ρ H kvs xs) (hk : toKey d = some k) (hd : k.depth ≤ 8) (rk : RV K ρ H d (.ref b)) (rz : RV K ρ H y z) (ru : RelV z u) :
    ER K ρ H (putDct kvs k d y) (storedH xs k b u) := by
  unfold putDct storedH
  rw [r.any k]
  split
  · exact r.puts rz ru
  · exact r.app hk hd rk rz ru
mutual
theorem nested_of (ok : HOk P w H h) : ∀ (d : D) (v : V) (u : Value) (k : NestedKey), RV K ρ H d v → RelV v u → toKey d = some k → NestedIs h k u
  | .non, _, _, _, r, q, e => by cases r; cases e; cases q; exact .none
  | .bl b, _, _, _, r, q, e => by cases r; cases e; cases q; exact .bool rfl
  | .int i, _, _, _, r, q, e => by cases r; cases e; obtain ⟨t, rfl⟩ := q; exact .int i t
  | .str x, _, _, _, r, q, e => by cases r; cases e; obtain ⟨t, rfl⟩ := q; exact .text x t
  | .tup xs, _, _, k, r, q, e => by
    cases r with | tup ha rs =>
    rename_i a vs
    obtain rfl : _ = Value.ref a := q
    simp only [toKey] at e
    cases hks : toKeys xs with
    | none => rw [hks] at e; cases e
    | some ks =>
      rw [hks] at e
      cases e
      obtain ⟨_, its, rv, o, ho, hc, n, hd⟩ := (show ObjOk P w H h a (.tup vs) from ok a _ ha)
      exact .tup ho hc hd (nested_all ok xs vs its ks rs rv hks)
  | .rng _ _, _, _, _, _, _, e => by cases e
  | .obj _, _, _, _, _, _, e => by cases e
  | .rol _, _, _, _, _, _, e => by cases e
theorem nested_all (ok : HOk P w H h) : ∀ (ds : List D) (vs : List V) (us : List Value) (ks : List NestedKey), RVs K ρ H ds vs → Vals vs us → toKeys ds = some ks → NestedAll h ks us
  | [], _, _, _, r, q, e => by cases r; cases q; cases e; exact .nil
  | d :: ds, _, _, ks, r, q, e => by
    cases r with | cons r rs =>
    cases q with | cons q qs =>
    simp only [toKeys] at e
    split at e
    · rename_i k ks' h1 h2
      cases e
      exact .cons (nested_of ok d _ _ _ r q h1) (nested_all ok ds _ _ _ rs qs h2)
    · cases e
end
theorem ER.is (ok : HOk P w H h) {kvs : List (D × D)} {xs : List (NestedKey × Addr × Value)} (r : ER K ρ H kvs xs) : ∀ x ∈ xs, (nestedKind P w).is h x.1 x.2.1 := by
  induction r with
  | nil => intro x hx; cases hx
  | @cons d y k b u z kvs xs hk hd rk rz ru t ih =>
    intro x hx
    rcases List.mem_cons.mp hx with e | hx
    · rw [e]; exact ⟨nested_of ok d _ _ _ rk rfl hk, hd⟩
    · exact ih x hx
theorem dN_ok {a : Addr} {es : Array DictEntry} {ep : Nat} (hr : h.DictRaw a es ep) : ObjOk P w H h a (dN a es ep) :=
  ⟨hr, let ⟨o, ho, _⟩ := hr; ⟨o, ho⟩, fun _ _ x e => x.at e⟩
end
section
variable {G : Gl} {X : Cx} {E : XK} {pins : List (Addr × Obj)} {σ : L2.St} {H : Hp} {s : Shared} {ρ : List Addr} {a : Addr} {kvs : List (D × D)} {es : Array DictEntry} {ep : Nat} {xs : List (NestedKey × Addr × Value)}
theorem RDct.dict (I : Inv X pins σ H s) (hP : X.prog = G.P) (hw : X.w = G.w) (ha : H a = some (dN a es ep)) (r : RDct G ρ H a kvs es xs) : s.heap.DictOfH (nestedKind G.P G.w) a xs := by
  obtain ⟨⟨o, ho, hc, hd⟩, _, _⟩ := (show ObjOk X.prog X.w H s.heap a (dN a es ep) from I.hok a _ ha)
  have ok : HOk G.P G.w H s.heap := by rw [← hP, ← hw]; exact I.hok
  exact ⟨o, es, ep, ho, hc, hd, r.es, r.er.is ok, r.nd⟩
/-- what stands behind a store -/
theorem RDct.after (I : Inv X pins σ H s) (hP : X.prog = G.P) (hw : X.w = G.w) (ha : H a = some (dN a es ep)) (r : RDct G ρ H a kvs es xs) {d y : D} {k : NestedKey} {b : Addr} {z : V} {u : Value} (hk : toKey d = some k) (hd : k.depth ≤ 8) (rk : RV G.K ρ H d (.ref b)) (rz : RV G.K ρ H y z) (ru : RelV z u)
    {h' : Heap} {tk : Nat} (hm : h'.DictOfH (nestedKind G.P G.w) a (storedH xs k b u)) (sb : Heap.SameBut a s.heap h') :
    ∃ es' ep', Inv X pins σ (upd H a (dN a es' ep')) { s with heap := h', toks := tk } ∧ RDct G ρ (upd H a (dN a es' ep')) a (putDct kvs k d y) es' (storedH xs k b u) := by
  obtain ⟨o, es', ep', ho, hc, hdat, he, _, hn⟩ := hm
  refine ⟨es', ep', d_write I (by rw [ha]; exact True.intro) sb ⟨o, ho⟩ (dN_ok ⟨o, ho, hc, hdat⟩), r.sys, he, hn, ?_⟩
  exact (r.er.put hk hd rk rz ru).ext ⟨fun _ _ q => q, fun c w q i => by
    rw [upd_ne (fun z => by subst z; rw [ha] at q; cases q; exact i)]; exact q⟩
theorem dct_setItem {A : Around} {F : Value → Shared → Prop} (I : Inv X pins σ H s) (hP : X.prog = G.P) (hw : X.w = G.w) (hu : A.units + 20 < cLine) (ha : H a = some (dN a es ep)) (r : RDct G ρ H a kvs es xs) (hl : kvs.length < lim) {d y : D} {k : NestedKey} {b : Addr} {z : V} {u : Value} (hk : toKey d = some k) (hd : k.depth ≤ 8) (rk : RV G.K ρ H d (.ref b)) (rz : RV G.K ρ H y z) (ru : RelV z u)
    {Q : Unit → Shared → Prop} (h : ∀ s' es' ep' xs', Inv X pins σ (upd H a (dN a es' ep')) s' → RDct G ρ (upd H a (dN a es' ep')) a (putDct kvs k d y) es' xs' → Q () s') : wpAny (model X.prog X.w) A (setItem (.ref a) (.ref b) u) Q F s := by
  have dd := r.dict I hP hw ha
  have ok : HOk G.P G.w H s.heap := by rw [← hP, ← hw]; exact I.hok
  rw [hP, hw]
  refine wpAny_setItem_heap (knd := nestedKind G.P G.w) (hsz := by rw [← r.er.len]; exact Nat.le_trans (Nat.le_of_lt hl) (by decide)) (show A.in1.units + 8 < cLine from (by show A.units + 1 + 8 < cLine; omega)) ⟨nested_of ok d _ _ _ rk rfl hk, hd⟩ dd fun h' hm sb => ?_
  obtain ⟨es', ep', I', r'⟩ := r.after (tk := _) I hP hw ha hk hd rk rz ru hm sb
  exact h _ es' ep' _ I' r'
theorem dct_set {A : Around} {F : Value → Shared → Prop} (I : Inv X pins σ H s) (hP : X.prog = G.P) (hw : X.w = G.w) (hu : A.units + 20 < cLine) (ha : H a = some (dN a es ep)) (r : RDct G ρ H a kvs es xs) (hl : kvs.length < lim) {d y : D} {k : NestedKey} {b : Addr} {z : V} {u : Value} (hk : toKey d = some k) (hd : k.depth ≤ 8) (rk : RV G.K ρ H d (.ref b)) (rz : RV G.K ρ H y z) (ru : RelV z u)
    {Q : Unit → Shared → Prop} (h : ∀ s' es' ep' xs', Inv X pins σ (upd H a (dN a es' ep')) s' → RDct G ρ (upd H a (dN a es' ep')) a (putDct kvs k d y) es' xs' → Q () s') : wpAny (model X.prog X.w) A (dictSet a (.ref b) u) Q F s := by
  have dd := r.dict I hP hw ha
  have ok : HOk G.P G.w H s.heap := by rw [← hP, ← hw]; exact I.hok
  rw [hP, hw]
  refine wpAny_dictSet_heap (knd := nestedKind G.P G.w) (hsz := by rw [← r.er.len]; exact Nat.le_trans (Nat.le_of_lt hl) (by decide)) (show A.units + 8 < cLine from (by omega)) ⟨nested_of ok d _ _ _ rk rfl hk, hd⟩ dd fun h' hm sb => ?_
  obtain ⟨es', ep', I', r'⟩ := r.after (tk := _) I hP hw ha hk hd rk rz ru hm sb
  exact h _ es' ep' _ I' r'
end

/-! ### {}, d[k] = v -/
def fDct0 : FE := fun _ S => some (.val (.obj S.length) (S ++ [.dct []]))
def wDct : D → D → D → Sto → Option Sto := fun o i d S => match o, i with
  | .obj n, .tup ds => match S[n]? with
    | some (.dct kvs) => match toKey (.tup ds) with
      | some k => if k.depth ≤ 8 ∧ kvs.length < lim then some (S.set n (.dct (putDct kvs k (.tup ds) d))) else none
      | none => none
    | _ => none
  | _, _ => none
/-- a store of an item, by what it does -/
def tSemSet (X : Cx) : TSet := fun o i v H Q => ∀ (pins : List (Addr × Obj)) (s : Shared) (σ : L2.St) (ov iv u : Value), Inv X pins σ H s → RelV o ov → RelV i iv → RelV v u →
  wpAny (model X.prog X.w) X.A (setItem ov iv u) (fun _ s' => ∃ H', Inv X pins σ H' s' ∧ Q H') X.xe s
theorem pset_sem {X : Cx} : PSet X (tSemSet X) := fun pins s σ H o i v ov iv u Q I ro ri rv h => h pins s σ ov iv u I ro ri rv
section
variable {G : Gl} {X : Cx} {E : XK} {pos : Pos} {ρ : List Addr} {H : Hp} {S : Sto}
theorem Rep.dct (rep : Rep G ρ H S) {n : Nat} {a : Addr} {kvs : List (D × D)} (h : ρ[n]? = some a) (hS : S[n]? = some (.dct kvs)) : ∃ es ep xs, H a = some (dN a es ep) ∧ RDct G ρ H a kvs es xs := by
  obtain ⟨b, hb, r⟩ := rep.ob n _ hS
  rw [h] at hb; cases hb
  exact r
theorem RDct.ext {ρ1 : List Addr} {H1 : Hp} {a : Addr} {kvs : List (D × D)} {es : Array DictEntry} {xs : List (NestedKey × Addr × Value)} (r : RDct G ρ H a kvs es xs) (e : Ext ρ H ρ1 H1) : RDct G ρ1 H1 a kvs es xs := ⟨r.sys, r.es, r.nd, r.er.ext e⟩
theorem pe_dnew0 : PE X (.Dict [] [] pos) (fun _ H Q => ∀ p, H p = none → (p == sysModules) = false → Q (.ref p) (upd H p (dN p #[] 0))) := ⟨fun pins s σ H Q I h => by
  refine wpAny_Dict_empty ⟨.ref s.heap.objs.size, _, I.laid (a := s.heap.objs.size) (o := dN s.heap.objs.size #[] 0) (t' := s.toks) (fun _ _ q => Heap.get?_push_of_some _ q) (Nat.le_refl _) (dN_ok ⟨_, Heap.get?_push_size _ rfl, ⟨rfl, rfl, rfl⟩, rfl⟩), rfl, h _ (I.hok.fresh (Nat.le_refl _)) ?_⟩
  exact beq_eq_false_iff_ne.mpr (Ne.symm (Nat.ne_of_lt I.big))⟩
theorem de_dict0 : DE G X E (.Dict [] [] pos) fDct0 := pe_imp pe_dnew0 fun σ H Q ⟨ρ, S, e, r, rep, re, h, p⟩ => by
  intro q hq hs
  cases h
  have st := Step.new (ρ := ρ) (o := dN q #[] 0) hq
  have hn : q ∉ ρ := fun hm => by
    obtain ⟨u, hu, _⟩ := rep.mem hm
    rw [hq] at hu; cases hu
  refine p (ρ ++ [q]) _ _ (st.pushAt hq) ((rep.new hq).push hn ⟨#[], 0, [], upd_same, hs, rfl, List.nodup_nil, .nil⟩) (.obj ?_)
  rw [← rep.len]; simp
theorem setD_dct (hP : X.prog = G.P) (hw : X.w = G.w) (hu : X.A.units + 20 < cLine) : SetD G (tSemSet X) wDct := by
  intro ρ H S S' o i d ov iv v Q rep ro ri rd h k
  unfold wDct at h
  split at h
  · rename_i n ds
    split at h
    · rename_i kvs hS
      split at h
      · rename_i ky hky
        split at h
        · rename_i hl
          cases h
          cases ro with | obj hn =>
          rename_i a
          obtain ⟨es, ep, xs, ha, r⟩ := rep.dct hn hS
          intro pins s σ ov iv u I r1 r2 r3
          obtain rfl : ov = Value.ref a := r1
          have ri' := ri
          cases ri with | tup hb rs =>
          rename_i b vs
          obtain rfl : iv = Value.ref b := r2
          refine dct_setItem I hP hw hu ha r hl.2 hky hl.1 ri' rd r3 fun s' es' ep' xs' I' r' => ⟨_, I', ?_⟩
          have st := Step.write (u := dN a es' ep') hn ha id
          exact k ρ _ st (rep.write hn ha id ⟨es', ep', xs', upd_same, r'⟩)
        · cases h
      · cases h
    · cases h
  · cases h
end
end Mini
end

section
set_option Elab.async false
set_option linter.all false
set_option maxRecDepth 100000
set_option maxHeartbeats 4000000
namespace Mini
open PySem PySem.Spec PyProof.Rows L2

/-! ### dict comprehensions, any keys -/
/-- a store into the dict at D, by what it does -/
def DSt (X : Cx) (H5 : Hp) (D : Addr) (y z : V) (Nx : Hp → Prop) : Prop :=
  ∀ (X' : Cx) (pins : List (Addr × Obj)) (s : Shared) (σ : L2.St) (u r : Value) (Q : Unit → Shared → Prop) (F : Value → Shared → Prop), X'.prog = X.prog → X'.w = X.w → X'.A = X.A → L2.Inv X' pins σ H5 s → RelV y u → RelV z r →
    (∀ s' H', L2.Inv X' pins σ H' s' → Nx H' → Q () s') → wpAny (model X'.prog X'.w) X'.A (dictSet D u r) Q F s
section
variable {X : Cx}
def tDcN (X : Cx) (wi : TI) (g : TG) (tt : TT) (tk tv : TE) (vs : List Nat) : TE := fun σ H Q => wi σ H fun J H1 => ∀ D, H1 D = none → (D == sysModules) = false → ∃ W : Nat → Nat → Hp → Prop, (∃ m, W 0 m (upd H1 D (dN D #[] 0))) ∧ ∀ i m H, W i m H →
  (J.stop i H ∧ Q (.ref D) H) ∨ (J.go i H ∧ ∃ Nx : Hp → Prop, (∀ H', Nx H' → ∃ m', m' < m ∧ W (i + 1) m' H') ∧ ∀ x H', J.yld i H x H' → g x (wipe σ vs) H' fun σ2 H2 => wipe σ2 vs = wipe σ vs ∧ tt σ2 H2 fun b H3 =>
    if b = true then tk σ2 H3 fun y H4 => tv σ2 H4 fun z H5 => DSt X H5 D y z Nx else Nx H3)
theorem dcn_core {pins : List (Addr × Obj)} {s : Shared} {σ : L2.St} {H : Hp} {Q : VK} {kx vx tg iter : Expr} {ifs : List Expr} {scope : Scope} {own : List (Str × Nat)} {pos pos' : Pos} {wi : TI} {g : TG} {tt : TT} {tk tv : TE} {use : Option (Value → Sem Unit)} {Qf : Value → Shared → Prop}
    (hc : X.calm = true) (hN : X.N.Nodup) (I : L2.Inv X pins σ H s) (hi : PI X tg iter wi) (ok : BlkOk X.N X.env.scope scope own)
    (hg : ∀ (s : Shared) (H : Hp) (C : Addr) (cl : List (Str × Addr)) (fp : List Addr), PG (X.blk s H scope (compEnvC scope cl C X.env) fp) tg g) (ht : ∀ (s : Shared) (H : Hp) (C : Addr) (cl : List (Str × Addr)) (fp : List Addr), PTs (X.blk s H scope (compEnvC scope cl C X.env) fp) ifs tt)
    (hk : ∀ (s : Shared) (H : Hp) (C : Addr) (cl : List (Str × Addr)) (fp : List Addr), PE (X.blk s H scope (compEnvC scope cl C X.env) fp) kx tk)
    (he : ∀ (s : Shared) (H : Hp) (C : Addr) (cl : List (Str × Addr)) (fp : List Addr), PE (X.blk s H scope (compEnvC scope cl C X.env) fp) vx tv) (hs : ∀ x, foldedSetIterable iter X.env x = pure x)
    (h : tDcN X wi g tt tk tv (own.map (·.2)) σ H Q)
    (hRR : ∀ D C s' m H', L2.Inv X pins σ H' s' → Q (.ref D) H' → s'.heap.Ns C m → FpOk X pins H' C → compPost (model X.prog X.w) X.A X.xe use Qf (.ref D) C (.ok .next) s') :
    wpAny (model X.prog X.w) X.A (comprehension (.DictComp kx vx [⟨tg, iter, ifs, 0⟩] scope pos) scope X.env pos' newDict false (eval iter X.env) use) Qf X.xe s := by
  have hfree : ∀ y ∈ scope.names, y.2 = .free → ∃ c, X.env.cells.lookup y.1 = some c := fun y hy e => by
    rcases ok.free y hy e with k | k
    · exact I.ok.has _ (.inl k)
    · exact I.ok.has _ (.inr k)
  refine wpAny_comprehension_free (use := use) rfl hs (closure_ok hfree) ok.kind (fun y hy e => by rw [ok.uniq y hy, e])
    (thn (hi.run pins s σ H _ I h) fun xv s1 hx => thn hx fun itv s2 h2 => ?_)
  obtain ⟨it, fp, tn, J, H2, e, I2, T, st2, f2, q⟩ := h2
  subst e
  refine wpAny_newObj_type (newEnv_comp ?_)
  generalize hD : s2.heap.objs.size = D
  have hDn : H2 D = none := I2.hok.fresh (Nat.le_of_eq hD)
  have hDs : (D == sysModules) = false := by
    rw [← hD]
    exact beq_eq_false_iff_ne.mpr (Ne.symm (Nat.ne_of_lt I2.big))
  obtain ⟨W, ⟨m0, w0⟩, turn⟩ := q D hDn hDs
  -- the new list
  generalize hs3 : ({ s2 with heap := s2.heap.push { cls := .type "dict", data := .dict #[] } } : Shared) = s3
  have I3 : L2.Inv X pins σ (upd H2 D (dN D #[] 0)) s3 := by
    rw [← hs3]
    refine I2.laid (t' := s2.toks) (fun b o e => Heap.get?_push_of_some _ e) (Nat.le_of_eq hD) ?_
    rw [← hD]
    exact dN_ok ⟨_, Heap.get?_push_size _ rfl, ⟨rfl, rfl, rfl⟩, rfl⟩
  have h3 : s3.heap = s2.heap.push { cls := .type "dict", data := .dict #[] } := by rw [← hs3]
  have sz : ∀ b ∈ fp, b < s2.heap.objs.size := fun b hb => by
    obtain ⟨o, e, _⟩ := T.obj _ _ st2 b hb
    exact Heap.lt_size e
  have f3 : ∀ b ∈ fp, FpOk X pins (upd H2 D (dN D #[] 0)) b ∧ b < s3.heap.objs.size := fun b hb => by
    have hlt := sz b hb
    refine ⟨⟨?_, (f2 b hb).2⟩, by rw [h3, Heap.size_push]; exact Nat.lt_succ_of_lt hlt⟩
    rw [upd_ne (by rw [← hD]; exact Nat.ne_of_lt hlt)]
    exact (f2 b hb).1
  have st3 : tn 0 s3.heap := T.keep _ _ _ st2 fun b _ o e => by rw [h3]; exact Heap.get?_push_of_some _ e
  have I4 := block_start I3 ok hN f3
  have pg := hg s3 (upd H2 D (dN D #[] 0)) s3.heap.objs.size (cellsFrom (s3.heap.objs.size + 1) scope.names (cloFrom X.env.cells scope.names [])) fp
  have pt := ht s3 (upd H2 D (dN D #[] 0)) s3.heap.objs.size (cellsFrom (s3.heap.objs.size + 1) scope.names (cloFrom X.env.cells scope.names [])) fp
  have pk := hk s3 (upd H2 D (dN D #[] 0)) s3.heap.objs.size (cellsFrom (s3.heap.objs.size + 1) scope.names (cloFrom X.env.cells scope.names [])) fp
  have pe := he s3 (upd H2 D (dN D #[] 0)) s3.heap.objs.size (cellsFrom (s3.heap.objs.size + 1) scope.names (cloFrom X.env.cells scope.names [])) fp
  show codeAny _ _ (.compStart (.DictComp kx vx [⟨tg, iter, ifs, 0⟩] scope pos) 0 (.ref it) (.ref D) (compEnvC scope (cellsFrom (s3.heap.objs.size + 1) scope.names (cloFrom X.env.cells scope.names [])) s3.heap.objs.size X.env)) (compPost (model X.prog X.w) X.A X.xe use Qf (.ref D) s3.heap.objs.size) { s3 with heap := pushCells (s3.heap.push { cls := .type "dict", data := .dict #[] }) scope.names }
  have nfp : ∀ b ∈ fp, (upd H2 D (dN D #[] 0)) b = none := fun b hb => (f3 b hb).1.1
  generalize hce : compEnvC scope (cellsFrom (s3.heap.objs.size + 1) scope.names (cloFrom X.env.cells scope.names [])) s3.heap.objs.size X.env = ce at I4 pg pt pk pe ⊢
  have cL : ce.locals = s3.heap.objs.size := by subst hce; rfl
  generalize hH3 : upd H2 D (dN D #[] 0) = H3 at I3 I4 pg pt pk pe w0 nfp f3
  generalize hs4 : ({ s3 with heap := pushCells (s3.heap.push { cls := .type "dict", data := .dict #[] }) scope.names } : Shared) = s4 at I4 ⊢
  have st4 : tn 0 s4.heap := T.keep _ _ _ st3 fun b _ o e => by rw [← hs4]; exact pushCells_keeps _ _ _ _ (Heap.get?_push_of_some _ e)
  have stat : ∀ {σ' : L2.St} {H' : Hp} {s' : Shared}, L2.Inv (X.blk s3 H3 scope ce fp) [] σ' H' s' → (∀ b ∈ fp, H' b = none) → ∀ b ∈ fp, FpOk (X.blk s3 H3 scope ce fp) [] H' b := fun {σ' H' s'} I' hn b hb =>
    ⟨hn b hb, (I'.ok.exf b hb).1, I'.ok.exfs b hb, .inl hb, fun x c e => (I'.ok.exf b hb).2 x c e, fun p hp => absurd (show p ∈ ([] : List (Addr × Obj)) ++ [] from hp) (by simp)⟩
  have loop : codeAny (model X.prog X.w) X.A (.compLoop (.DictComp kx vx [⟨tg, iter, ifs, 0⟩] scope pos) 0 (.ref it) (.ref D) ce) (compPost (model X.prog X.w) X.A X.xe use Qf (.ref D) s3.heap.objs.size) s4 := by
    refine compLoop_anyD (fun n s' => ∃ i H', L2.Inv (X.blk s3 H3 scope ce fp) [] (wipe σ (own.map (·.2))) H' s' ∧ tn i s'.heap ∧ (∀ b ∈ fp, H' b = none) ∧ W i n H') ?_ m0 ⟨0, H3, I4, st4, nfp, w0⟩
    rintro n s5 ⟨i, H5, I5, st5, n5, w5⟩
    rcases turn i n H5 w5 with ⟨stop, qq⟩ | ⟨go, Nx, hNx, step⟩
    · have td := T.done (X.blk s3 H3 scope ce fp) rfl rfl rfl hc i [] s5 _ H5 (fun _ _ => False) I5 (stat I5 n5) st5 stop
      refine thnF td fun r s6 ⟨hr, I6⟩ => ?_
      subst hr
      -- back in the def's context
      have I7 : L2.Inv X pins σ H5 s6 := I3.call' (ch := fp) I6.os I6.base I6.hok I6.bare fun b hb => ⟨(f3 b hb).1.2.2.2.1, (f3 b hb).1.2.1, (f3 b hb).1.2.2.2.2.1, (f3 b hb).1.2.2.2.2.2⟩
      have nC : H5 s3.heap.objs.size = none := by
        have z : H5 ce.locals = none := I6.free
        rw [cL] at z
        exact z
      obtain ⟨m, hn, _⟩ := I6.loc
      have hn : s6.heap.Ns ce.locals m := hn
      rw [cL] at hn
      exact hRR D s3.heap.objs.size s6 m H5 I7 qq hn (I3.fpOk (Nat.le_refl _) nC)
    · have ti := T.item (X.blk s3 H3 scope ce fp) rfl rfl rfl hc i [] s5 _ H5 (fun _ _ => False) I5 (stat I5 n5) st5 go
      refine thnF ti fun r s6 ⟨u, hr, h6⟩ => ?_
      subst hr
      refine thnF h6 fun _ s7 ⟨x, H7, I7, r7, y7, st7, n7⟩ => ?_
      have I7' := I7.pinned (stat I7 n7) (T.obj _ _ st7)
      refine thnF (pg.run _ s7 _ H7 x u _ I7' r7 (step x H7 y7)) fun _ s8 ⟨σ8, H8, I8, hw8, q8⟩ => ?_
      refine thnF (pt.run _ s8 σ8 H8 _ I8 q8) fun b s9 ⟨H9, I9, q9⟩ => ?_
      -- the turn's end
      have fin : ∀ {s' : Shared} {H' : Hp}, L2.Inv (X.blk s3 H3 scope ce fp) ([] ++ pinsAt fp s7.heap) σ8 H' s' → Nx H' → ∃ m, m < n ∧ ∃ i H', L2.Inv (X.blk s3 H3 scope ce fp) [] (wipe σ (own.map (·.2))) H' s' ∧ tn i s'.heap ∧ (∀ b ∈ fp, H' b = none) ∧ W i m H' := fun {s' H'} I' nx => by
        obtain ⟨m', hm, w'⟩ := hNx H' nx
        have pin' : ∀ b ∈ fp, ∀ o, s7.heap.get? b = some o → s'.heap.get? b = some o ∧ H' b = none := fun b hb o e =>
          let z := I'.pin (b, o) (List.mem_append_right _ (List.mem_append_right _ (mem_pinsAt hb e)))
          ⟨z.1, z.2.1⟩
        have hl : (wipe σ (own.map (·.2))).length = σ8.length := by rw [← hw8, wipe_length]
        refine ⟨m', hm, i + 1, H', (I'.unpinned (pins := [])).weak hl (fun j v e => ?_), T.keep _ _ _ st7 fun b hb o e => (pin' b hb o e).1, fun b hb => ?_, w'⟩
        · rw [← hw8] at e
          exact (wipe_some e).1
        · obtain ⟨o, e, _⟩ := T.obj _ _ st7 b hb
          exact (pin' b hb o e).2
      cases b with
      | false =>
        simp only [Bool.false_eq_true, if_false] at q9 ⊢
        exact fin I9 q9
      | true =>
        simp only [if_true] at q9 ⊢
        refine thnF (pk.run _ s9 σ8 H9 _ I9 q9) fun z s10 ⟨yk, H10, I10, r10, q10⟩ => ?_
        refine thnF (pe.run _ s10 σ8 H10 _ I10 q10) fun z2 s11 ⟨yv, H11, I11, r11, ds⟩ => ?_
        exact ds (X.blk s3 H3 scope ce fp) _ _ _ _ _ _ _ rfl rfl rfl I11 r10 r11 fun s12 H12 I12 nx => fin I12 nx
  exact codeAny_compStart_dict loop (T.self X.A 0 _ _ _ st4 loop)
theorem pe_dcn {kx vx tg iter : Expr} {ifs : List Expr} {scope : Scope} {own : List (Str × Nat)} {pos : Pos} {wi : TI} {g : TG} {tt : TT} {tk tv : TE} (hc : X.calm = true) (hN : X.N.Nodup) (hi : PI X tg iter wi) (ok : BlkOk X.N X.env.scope scope own)
    (hg : ∀ (s : Shared) (H : Hp) (C : Addr) (cl : List (Str × Addr)) (fp : List Addr), PG (X.blk s H scope (compEnvC scope cl C X.env) fp) tg g) (ht : ∀ (s : Shared) (H : Hp) (C : Addr) (cl : List (Str × Addr)) (fp : List Addr), PTs (X.blk s H scope (compEnvC scope cl C X.env) fp) ifs tt)
    (hk : ∀ (s : Shared) (H : Hp) (C : Addr) (cl : List (Str × Addr)) (fp : List Addr), PE (X.blk s H scope (compEnvC scope cl C X.env) fp) kx tk)
    (he : ∀ (s : Shared) (H : Hp) (C : Addr) (cl : List (Str × Addr)) (fp : List Addr), PE (X.blk s H scope (compEnvC scope cl C X.env) fp) vx tv) (hs : ∀ x, foldedSetIterable iter X.env x = pure x) :
    PE X (.DictComp kx vx [⟨tg, iter, ifs, 0⟩] scope pos) (tDcN X wi g tt tk tv (own.map (·.2))) := by
  refine ⟨fun pins s σ H Q I h => ?_⟩
  rw [arm_eval_DictComp]
  refine dcn_core hc hN I hi ok hg ht hk he hs h fun D C s' m H' I' q hn f => ⟨m, hn, fun h'' sb => ?_⟩
  obtain ⟨f0, f1, f2, f3, f4, f5⟩ := f
  exact ⟨.ref D, H', I'.turned (t' := s'.toks) (fun b o hb e => (sb.2 b hb).trans e) f0 f1 f3 f4 f5, rfl, q⟩
end
def compDN (it : ItF) (g : FG) (ft : FB) (fk fv : FE) (e0 : Env') : Nat → Nat → List (D × D) → Sto → Option (Res (List (D × D)))
  | 0, _, _, _ => none
  | n + 1, i, acc, S => match it i S with
    | none => none
    | some none => some (.val acc S)
    | some (some d) => match g d e0 with
      | none => none
      | some e1 => match ft e1 S with
        | some (.val true S1) => match fk e1 S1 with
          | some (.val (.tup ds) S2) => match fv e1 S2 with
            | some (.val y S3) => match toKey (.tup ds) with
              | some k => if k.depth ≤ 8 ∧ acc.length < lim then compDN it g ft fk fv e0 n (i + 1) (putDct acc k (.tup ds) y) S3 else none
              | none => none
            | _ => none
          | _ => none
        | some (.val false S1) => compDN it g ft fk fv e0 n (i + 1) acc S1
        | _ => none
def fCompD (fi : FI) (g : FG) (ft : FB) (fk fv : FE) (vs : List Nat) : FE := fun e => bnd (fi e) fun it S => match compDN it g ft fk fv (wipeE e vs) (lim + 1) 0 [] S with
  | some (.val kvs S1) => some (.val (.obj S1.length) (S1 ++ [.dct kvs]))
  | _ => none
section
variable {G : Gl} {X : Cx} {E : XK} {tg iter kx vx : Expr} {ifs : List Expr} {scope : Scope} {own : List (Str × Nat)} {pos : Pos} {fi : FI} {gg : FG} {ft : FB} {fk fv : FE} {is : List Nat}
theorem de_dc (hP : X.prog = G.P) (hw : X.w = G.w) (hu : X.A.units + 20 < cLine) (hc : X.calm = true) (hN : X.N.Nodup) (hi : DI G X E tg iter fi) (ok : BlkOk X.N X.env.scope scope own)
    (hg : ∀ (s : Shared) (H : Hp) (C : Addr) (cl : List (Str × Addr)) (fp : List Addr), DG G (X.blk s H scope (compEnvC scope cl C X.env) fp) tg is gg)
    (ht : ∀ (s : Shared) (H : Hp) (C : Addr) (cl : List (Str × Addr)) (fp : List Addr), PTs (X.blk s H scope (compEnvC scope cl C X.env) fp) ifs (Lf G rB NoX ft))
    (hk : ∀ (s : Shared) (H : Hp) (C : Addr) (cl : List (Str × Addr)) (fp : List Addr), DE G (X.blk s H scope (compEnvC scope cl C X.env) fp) NoX kx fk)
    (he : ∀ (s : Shared) (H : Hp) (C : Addr) (cl : List (Str × Addr)) (fp : List Addr), DE G (X.blk s H scope (compEnvC scope cl C X.env) fp) NoX vx fv)
    (his : ∀ j ∈ is, j ∈ own.map (·.2)) (hs : ∀ x, foldedSetIterable iter X.env x = pure x) :
    DE G X E (.DictComp kx vx [⟨tg, iter, ifs, 0⟩] scope pos) (fCompD fi gg ft fk fv (own.map (·.2))) :=
  pe_imp (pe_dcn hc hN hi ok hg ht hk he hs) fun σ H Q ⟨ρ, S, e, r, rep, re, h, p⟩ => bind_at rep re h p fun ρ1 H1 S1 it J st1 rep1 re1 rx h1 p1 => by
    intro D' hD hDs
    split at h1
    · rename_i kvsE SE hcmp
      cases h1
      refine ⟨fun i m H2 => ∃ ρ2 S2 acc es ep xs, Step ρ1 H1 ρ2 H2 ∧ Rep G ρ2 H2 S2 ∧ D' ∉ ρ2 ∧ H2 D' = some (dN D' es ep) ∧ RDct G ρ2 H2 D' acc es xs ∧ compDN it gg ft fk fv (wipeE e (own.map (·.2))) m i acc S2 = some (.val kvsE SE),
        ⟨lim + 1, ρ1, S1, [], #[], 0, [], (Step.new hD), rep1.new hD, fun hm => ?_, upd_same, ⟨hDs, rfl, List.nodup_nil, .nil⟩, hcmp⟩, ?_⟩
      · obtain ⟨u, hu, _⟩ := rep1.mem hm
        rw [hD] at hu; cases hu
      rintro i m H2 ⟨ρ2, S2, acc, es, ep, xs, st2, rep2, nD, hD2, rd, h2⟩
      cases m with
      | zero => cases h2
      | succ n =>
        have okI := rx ρ2 H2 S2 i st2.ext rep2
        unfold compDN at h2
        split at h2
        · cases h2
        · rename_i hit
          cases h2
          refine .inl ⟨okI.1 hit, ?_⟩
          refine p1 (ρ2 ++ [D']) H2 _ (st2.pushAt hD) (rep2.push nD ⟨es, ep, xs, hD2, rd.ext .push⟩) (.obj ?_)
          rw [← rep2.len]; simp
        · rename_i d hit
          obtain ⟨go, yl⟩ := okI.2 d hit
          split at h2
          · cases h2
          · rename_i e1 hgd
            refine .inr ⟨go, fun H' => ∃ ρ2 S2 acc es ep xs, Step ρ1 H1 ρ2 H' ∧ Rep G ρ2 H' S2 ∧ D' ∉ ρ2 ∧ H' D' = some (dN D' es ep) ∧ RDct G ρ2 H' D' acc es xs ∧ compDN it gg ft fk fv (wipeE e (own.map (·.2))) n (i + 1) acc S2 = some (.val kvsE SE), fun H' q => ⟨n, Nat.lt_succ_self n, q⟩, fun y H3 hy => ?_⟩
            obtain ⟨st3, rep3, rdd⟩ := yl y H3 hy
            have re3 : RE G.K ρ2 H3 (wipeE e (own.map (·.2))) (wipe σ (own.map (·.2))) := ((re1.mono st2).mono st3).wipe _
            obtain ⟨nD3, hD3⟩ := st3.stays nD hD2
            refine ⟨ρ2, S2, _, d, e1, rep3, re3, rdd, hgd, fun σ4 re4 w4 => ⟨by rw [w4 _ his]; exact wipe_idem _ _ fun _ m => m, ?_⟩⟩
            cases hft : ft e1 S2 with
            | none => rw [hft] at h2; cases h2
            | some q =>
              rw [hft] at h2
              refine ⟨ρ2, S2, e1, q, rep3, re4, hft, ?_⟩
              cases q with
              | exc c fs S3 => cases h2
              | val b S3 =>
                rintro ρ5 H5 b' st5 rep5 rfl
                obtain ⟨nD5, hD5⟩ := st5.stays nD3 hD3
                have rd5 := rd.ext (st3.trans st5).ext
                cases b with
                | false => exact ⟨ρ5, S3, acc, es, ep, xs, (st2.trans st3).trans st5, rep5, nD5, hD5, rd5, h2⟩
                | true =>
                  simp only at h2
                  cases hfk : fk e1 S3 with
                  | none => rw [hfk] at h2; cases h2
                  | some q =>
                    rw [hfk] at h2
                    refine ⟨ρ5, S3, e1, q, rep5, re4.mono st5, hfk, ?_⟩
                    cases q with
                    | exc c fs S4 => cases h2
                    | val kd S4 =>
                      intro ρ6 H6 kv st6 rep6 rk
                      obtain ⟨nD6, hD6⟩ := st6.stays nD5 hD5
                      cases kd with
                      | tup ds =>
                        simp only at h2
                        cases hfv : fv e1 S4 with
                        | none => rw [hfv] at h2; cases h2
                        | some q =>
                          rw [hfv] at h2
                          refine ⟨ρ6, S4, e1, q, rep6, (re4.mono st5).mono st6, hfv, ?_⟩
                          cases q with
                          | exc c fs S5 => cases h2
                          | val z S5 =>
                            intro ρ7 H7 zv st7 rep7 rz
                            obtain ⟨nD7, hD7⟩ := st7.stays nD6 hD6
                            have rd7 := (rd5.ext st6.ext).ext st7.ext
                            simp only at h2
                            split at h2
                            · rename_i k hk
                              split at h2
                              · rename_i hl
                                have rk7 := rk.mono st7
                                intro X' pins s' σ' u u2 Q' F hp' hw' hA' I' ru ru2 fin
                                have rk8 := rk7
                                cases rk7 with | tup hb rs =>
                                obtain rfl : u = Value.ref _ := ru
                                refine dct_set I' (hp'.trans hP) (hw'.trans hw) (by rw [hA']; exact hu) hD7 rd7 hl.2 hk hl.1 rk8 rz ru2 fun s8 es' ep' xs' I8 rd8 => fin s8 _ I8 ?_
                                exact ⟨ρ7, S5, _, es', ep', xs', ((((st2.trans st3).trans st5).trans st6).trans st7).chg hD, rep7.chg nD7 hD7 id, nD7, upd_same, rd8, h2⟩
                              · cases h2
                            · cases h2
                      | _ => cases h2
    · cases h1
end
end Mini
end

section
set_option Elab.async false
set_option linter.all false
set_option maxRecDepth 100000
set_option maxHeartbeats 4000000
/-! sets of nested tuples of whole numbers -/
namespace NSet
open PySem PySem.Spec PyProof.Rows L2

mutual
/-- no text, no None within -/
def numK : NestedKey → Bool
  | .none => false
  | .num _ => true
  | .text _ => false
  | .tup ks => numKs ks
def numKs : List NestedKey → Bool
  | [] => true
  | k :: ks => numK k && numKs ks
end
/-- the tuple at a is the key k -/
structure IsN (h : Heap) (k : NestedKey) (a : Addr) : Prop where
  is : NestedIs h k (.ref a)
  dp : k.depth ≤ 8
  num : numK k = true
section
variable {P : Program} {w : World} {A : Around} {E : Value → Shared → Prop} {s : Shared}
theorem IsN.inj {h : Heap} {a : Addr} {x y : NestedKey} (hx : IsN h x a) (hy : IsN h y a) : x = y := NestedIs.inj _ _ _ hx.is hy.is
mutual
theorem ofA_q : ∀ (k : NestedKey) (v : Value) (n : Nat) (A : Around) (E : Value → Shared → Prop) (s : Shared) (Q : Bool → Shared → Prop), NestedIs s.heap k v → k.depth ≤ n → Q false s → wpAny (model P w) A (ofAClassStatement n v) Q E s
  | .none, _, n, A, E, s, Q, x, _, h => by cases x; cases n <;> exact wpAny_pure h
  | .num i, _, n, A, E, s, Q, x, _, h => by cases x <;> (cases n <;> exact wpAny_pure h)
  | .text y, _, n, A, E, s, Q, x, _, h => by cases x; cases n <;> exact wpAny_pure h
  | .tup ks, _, n, A, E, s, Q, x, hn, h => by
    cases x with | @tup b o vs m _ ho hc hd hk =>
    simp only [NestedKey.depth] at hn
    cases n with
    | zero => omega
    | succ n =>
      unfold ofAClassStatement
      refine wpAny_bind (wpAny_typeOf (T := "tuple") ⟨o, ho, hc⟩ ?_)
      dsimp only
      have e : (("tuple" : String) == "tuple") = true := by decide
      simp only [e, if_true, Bool.not_true, Bool.false_eq_true, if_false]
      try refine wpAny_bind (wpAny_pure ?_)
      try simp only [Bool.not_true, Bool.false_eq_true, if_false]
      show wpAny _ _ (seqItems? (.ref b) >>= _) _ _ s
      refine wpAny_bind (wpAny_seqItems ho hd ?_)
      dsimp only
      refine wpAny_bind ?_
      show wpAny _ _ (forIn vs _ _) _ _ s
      rw [← Array.forIn_toList]
      refine wpAny_forIn_list _ (fun rest r s' => r.1 = none ∧ s' = s ∧ ∀ v ∈ rest, ∀ (A : Around) (E : Value → Shared → Prop) (Q : Bool → Shared → Prop), Q false s → wpAny (model P w) A (ofAClassStatement n v) Q E s) _ ?_ ?_ _ _ ⟨rfl, rfl, fun v hv A E Q h => ofA_qs ks _ n A E s hk (by omega) v hv Q h⟩
      · rintro v rest r s' ⟨hr, rfl, hall⟩
        refine wpAny_bind (hall v List.mem_cons_self _ _ _ ?_)
        simp only [Bool.false_eq_true, if_false]
        exact wpAny_pure ⟨rfl, rfl, fun u hu' => hall u (List.mem_cons_of_mem _ hu')⟩
      · rintro ⟨r1, r2⟩ s' ⟨hr, rfl, _⟩
        simp only at hr
        subst hr
        exact wpAny_pure h
theorem ofA_qs : ∀ (ks : List NestedKey) (vs : List Value) (n : Nat) (A : Around) (E : Value → Shared → Prop) (s : Shared), NestedAll s.heap ks vs → NestedKey.depthAll ks ≤ n → ∀ v ∈ vs, ∀ (Q : Bool → Shared → Prop), Q false s → wpAny (model P w) A (ofAClassStatement n v) Q E s
  | [], _, n, A, E, s, x, _, v, hv, Q, h => by cases x; cases hv
  | k :: ks, _, n, A, E, s, x, hn, v, hv, Q, h => by
    cases x with | cons x1 x2 =>
    simp only [NestedKey.depthAll] at hn
    rcases List.mem_cons.mp hv with e | hv
    · rw [e]; exact ofA_q k _ n A E s Q x1 (by omega) h
    · exact ofA_qs ks _ n A E s x2 (by omega) v hv Q h
end
mutual
theorem hashBy_q : ∀ (k : NestedKey) (v : Value) (n : Nat) (A : Around) (E : Value → Shared → Prop) (s : Shared) (Q : Bool → Shared → Prop), NestedIs s.heap k v → k.depth ≤ n → numK k = true → Q true s → wpAny (model P w) A (hashByValue n v) Q E s
  | .none, _, n, A, E, s, Q, x, _, z, h => by cases z
  | .num i, _, n, A, E, s, Q, x, _, _, h => by cases x <;> (cases n <;> exact wpAny_pure h)
  | .text y, _, n, A, E, s, Q, x, _, z, h => by cases z
  | .tup ks, _, n, A, E, s, Q, x, hn, z, h => by
    cases x with | @tup b o vs m _ ho hc hd hk =>
    simp only [NestedKey.depth] at hn
    simp only [numK] at z
    cases n with
    | zero => omega
    | succ n =>
      unfold hashByValue
      refine wpAny_bind (wpAny_specialOf (T := "tuple") ⟨o, ho, hc⟩ F.slot_tuple_hash.lookup ?_)
      show wpAny _ _ (seqItems? (.ref b) >>= _) _ _ s
      refine wpAny_bind (wpAny_seqItems ho hd ?_)
      refine wpAny_bind ?_
      show wpAny _ _ (forIn vs _ _) _ _ s
      rw [← Array.forIn_toList]
      refine wpAny_forIn_list _ (fun rest r s' => r.1 = none ∧ s' = s ∧ ∀ v ∈ rest, ∀ (A : Around) (E : Value → Shared → Prop) (Q : Bool → Shared → Prop), Q true s → wpAny (model P w) A (hashByValue n v) Q E s) _ ?_ ?_ _ _ ⟨rfl, rfl, fun v hv A E Q h => hashBy_qs ks _ n A E s hk (by omega) z v hv Q h⟩
      · rintro v rest r s' ⟨hr, rfl, hall⟩
        refine wpAny_bind (hall v List.mem_cons_self _ _ _ ?_)
        simp only [Bool.not_true, Bool.false_eq_true, if_false]
        exact wpAny_pure ⟨rfl, rfl, fun u hu' => hall u (List.mem_cons_of_mem _ hu')⟩
      · rintro ⟨r1, r2⟩ s' ⟨hr, rfl, _⟩
        simp only at hr
        subst hr
        exact wpAny_pure h
theorem hashBy_qs : ∀ (ks : List NestedKey) (vs : List Value) (n : Nat) (A : Around) (E : Value → Shared → Prop) (s : Shared), NestedAll s.heap ks vs → NestedKey.depthAll ks ≤ n → numKs ks = true → ∀ v ∈ vs, ∀ (Q : Bool → Shared → Prop), Q true s → wpAny (model P w) A (hashByValue n v) Q E s
  | [], _, n, A, E, s, x, _, _, v, hv, Q, h => by cases x; cases hv
  | k :: ks, _, n, A, E, s, x, hn, z, v, hv, Q, h => by
    cases x with | cons x1 x2 =>
    simp only [NestedKey.depthAll] at hn
    simp only [numKs, Bool.and_eq_true] at z
    rcases List.mem_cons.mp hv with e | hv
    · rw [e]; exact hashBy_q k _ n A E s Q x1 (by omega) z.1 h
    · exact hashBy_qs ks _ n A E s x2 (by omega) z.2 v hv Q h
end
theorem ofAClass_tup {k : NestedKey} {b : Addr} {Q : Bool → Shared → Prop} (hk : IsN s.heap k b) (h : Q false s) : wpAny (model P w) A (ofAClassStatement 8 (.ref b)) Q E s := ofA_q k _ 8 A E s Q hk.is hk.dp h
theorem hashBy_tup {k : NestedKey} {b : Addr} {Q : Bool → Shared → Prop} (hk : IsN s.heap k b) (h : Q true s) : wpAny (model P w) A (hashByValue 8 (.ref b)) Q E s := hashBy_q k _ 8 A E s Q hk.is hk.dp hk.num h
theorem quiet_tup {k : NestedKey} {b : Addr} {Q : Bool → Shared → Prop} (hk : IsN s.heap k b) (h : Q true s) : wpAny (model P w) A (eqIsQuiet 8 (.ref b)) Q E s := quiet_key k _ 8 s hk.is hk.dp A E Q h
theorem eqB_tup {x y : NestedKey} {a b : Addr} {Q : Bool → Shared → Prop} (hu : A.units + 8 < cLine) (hx : IsN s.heap x a) (hy : IsN s.heap y b) (h : Q (decide (x = y)) s) : wpAny (model P w) A (eqBool (.ref a) (.ref b)) Q E s :=
  (nestedKind P w).eqBool hu ⟨hx.is, hx.dp⟩ ⟨hy.is, hy.dp⟩ h
theorem hash_tup {k : NestedKey} {a : Addr} {Q : Int → Shared → Prop} (hu : A.units + 8 < cLine) (hx : IsN s.heap k a) (h : Q (k.hash w) { s with toks := s.toks + k.draws }) : wpAny (model P w) A (pyHash (.ref a)) Q E s :=
  (nestedKind P w).pyHash hu ⟨hx.is, hx.dp⟩ h
/-- a search among tuples shows nothing -/
theorem seen_tup {k : NestedKey} {b : Addr} {Q : Bool → Shared → Prop} (hk : IsN s.heap k b) {ys : List Value} (hy : ∀ y ∈ ys, ∃ k' c, y = Value.ref c ∧ IsN s.heap k' c) (h : Q false s) :
    wpAny (model P w) A (searchCouldBeSeen (.ref b) ys) Q E s := by
  unfold searchCouldBeSeen
  refine wpAny_bind ?_
  refine wpAny_forIn_list _ (fun rest r s' => r.1 = none ∧ s' = s ∧ ∀ y ∈ rest, ∃ k' c, y = Value.ref c ∧ IsN s.heap k' c) _ ?_ ?_ _ _ ⟨rfl, rfl, hy⟩
  · rintro v rest r s' ⟨hr, rfl, hall⟩
    obtain ⟨k', c, rfl, hc⟩ := hall v List.mem_cons_self
    have rest' : ∀ y ∈ rest, ∃ k' c, y = Value.ref c ∧ IsN s'.heap k' c := fun u hu' => hall u (List.mem_cons_of_mem _ hu')
    dsimp only
    by_cases hv : (b == c || (carriedByValue (.ref b) && carriedByValue (.ref c))) = true
    · refine wp_if_pos hv ?_
      exact wpAny_pure ⟨rfl, rfl, rest'⟩
    · refine wp_if_neg hv ?_
      refine wpAny_bind (quiet_tup hk ?_)
      simp only [Bool.not_true, Bool.false_eq_true, if_false]
      refine wpAny_bind (quiet_tup hc ?_)
      simp only [Bool.not_true, Bool.false_eq_true, if_false]
      refine wpAny_bind (ofAClass_tup hk ?_)
      simp only [Bool.false_eq_true, if_false]
      refine wpAny_bind (ofAClass_tup hc ?_)
      simp only [Bool.false_eq_true, if_false]
      exact wpAny_pure ⟨rfl, rfl, rest'⟩
  · rintro ⟨r1, r2⟩ s' ⟨hr, rfl, _⟩
    simp only at hr
    subst hr
    exact wpAny_pure h

/-! ### the set of tuples -/
def rowsOf (w : World) (L : List (Addr × NestedKey)) : List (Int × Value) := L.map fun p => (NestedKey.hash w p.2, Value.ref p.1)
structure SetTR (w : World) (h : Heap) (a : Addr) (L : List (Addr × NestedKey)) (es : Array (Int × Value)) (ep : Nat) (t : SetTable) : Prop where
  ob : ∃ o, h.get? a = some o ∧ o.ExactSet ∧ o.data = .set es ep t
  rows : es.toList = rowsOf w L
  tab : TabOk t (L.map fun p => NestedKey.hash w p.2)
  nd : (L.map (·.2)).Nodup
  tup : ∀ p ∈ L, IsN h p.2 p.1
  plain : t.plain = true
  led : w.params.followText "set-order" = true ∨ t.led = true
  room : L.length * 5 < t.mask * 3
  few : L.length < 64
variable {a : Addr} {L : List (Addr × NestedKey)} {es : Array (Int × Value)} {ep : Nat} {t : SetTable}
theorem SetTR.size (R : SetTR w s.heap a L es ep t) : es.size = L.length := by
  have h := congrArg List.length R.rows
  unfold rowsOf at h
  rw [Array.length_toList, List.length_map] at h
  exact h
theorem SetTR.fits (R : SetTR w s.heap a L es ep t) : t.fits es.size = true := by
  have h1 := R.tab.sz
  rw [List.length_map] at h1
  have h2 := R.size
  have h3 := R.room
  unfold SetTable.fits SetTable.fill
  rw [R.tab.dm, Bool.and_eq_true, beq_iff_eq, decide_eq_true_eq]
  show t.place.size = es.size ∧ t.place.size + 0 ≤ t.mask
  omega
theorem SetTR.entry (R : SetTR w s.heap a L es ep t) {i : Nat} {p : Addr × NestedKey} (h : L[i]? = some p) : es[i]? = some (NestedKey.hash w p.2, Value.ref p.1) := by
  rw [← Array.getElem?_toList, R.rows]
  unfold rowsOf
  rw [List.getElem?_map, h] <;> rfl
theorem SetTR.gw (R : SetTR w s.heap a L es ep t) : ¬ t.gaveWay = true := by
  unfold SetTable.gaveWay
  rw [mask_odd R.tab.mok]
  decide
/-- THE SEARCH: from the c-th step of the way on -/
theorem search_from (R : SetTR w s.heap a L es ep t) {x : Addr} {k : NestedKey} (hx : IsN s.heap k x) (hu : A.units + 8 < cLine) {K : Nat} (hKf : K < 10 * SetTable.turns t.mask)
    (hK : way t.mask (NestedKey.hash w k) K ∉ t.place.toList) (hKb : ∀ c, c < K → way t.mask (NestedKey.hash w k) c ∈ t.place.toList) {Q : SetFound → Shared → Prop}
    (hin : k ∈ L.map (·.2) → Q (.there none) s) (hout : k ∉ L.map (·.2) → Q (.free (way t.mask (NestedKey.hash w k) K) false) s) :
    ∀ (f c : Nat) (stand : Option SetTable.Probe), stand.getD (t.probeStart (NestedKey.hash w k)) = nth t.mask (runAt t.mask (SetTable.bits (NestedKey.hash w k) % (t.mask + 1)) (SetTable.bits (NestedKey.hash w k))) c → c ≤ K → K - c < f →
      (∀ (i : Nat) p, L[i]? = some p → p.2 = k → ∃ c', c ≤ c' ∧ c' < K ∧ t.place.toList[i]? = some (way t.mask (NestedKey.hash w k) c')) →
      wpAny (model P w) A (setSearchFrom a (.ref x) (NestedKey.hash w k) true f stand) Q E s
  | 0, c, stand, _, _, hf, _ => absurd hf (Nat.not_lt_zero _)
  | f + 1, c, stand, hst, hc, hf, hre => by
    obtain ⟨o, ho, hex, hd⟩ := R.ob
    rw [setSearchFrom_succ]
    refine wpAny_bind (wpAny_setState_of ho hd R.fits ?_)
    dsimp only
    refine wp_if_neg R.gw ?_
    try refine wpAny_bind (wpAny_pure ?_)
    have hnd : (nth t.mask (runAt t.mask (SetTable.bits (NestedKey.hash w k) % (t.mask + 1)) (SetTable.bits (NestedKey.hash w k))) c).dummy = none := by
      have key : ∀ (n : Nat) (p : SetTable.Probe), p.dummy = none → (nth t.mask p n).dummy = none := by
        intro n
        induction n with
        | zero => intro p h; exact h
        | succ n ih =>
          intro p h
          refine ih (adv t.mask p) ?_
          unfold adv
          split <;> exact h
      exact key c _ rfl
    have sh : ∀ q, nth t.mask (nth t.mask (runAt t.mask (SetTable.bits (NestedKey.hash w k) % (t.mask + 1)) (SetTable.bits (NestedKey.hash w k))) c) q = nth t.mask (runAt t.mask (SetTable.bits (NestedKey.hash w k) % (t.mask + 1)) (SetTable.bits (NestedKey.hash w k))) (c + q) := fun q => (nth_add t.mask c _ q).symm
    have e1 : ∀ q, (nth t.mask (nth t.mask (runAt t.mask (SetTable.bits (NestedKey.hash w k) % (t.mask + 1)) (SetTable.bits (NestedKey.hash w k))) c) q).j = way t.mask (NestedKey.hash w k) (c + q) := fun q => congrArg SetTable.Probe.j (sh q)
    have spec := go_spec t R.tab.ris R.tab.dm (fun i => (es[i]?.map (·.1)).getD 0) (NestedKey.hash w k) (10 * SetTable.turns t.mask) (K - c) _ hnd (by omega)
      (fun q hq => by rw [e1]; exact hKb (c + q) (by omega)) (by rw [e1, show c + (K - c) = K by omega]; exact hK)
    have hashAt : ∀ (i : Nat) p, L[i]? = some p → (fun i => (es[i]?.map (·.1)).getD 0) i = NestedKey.hash w p.2 := fun i p hp => by
      show (es[i]?.map (·.1)).getD 0 = _
      rw [R.entry hp] <;> rfl
    rcases spec with ⟨q, i, hq, hi, hh, hno, hpr⟩ | ⟨hno, hpr⟩
    · -- a candidate
      have hpr' : t.probe (fun i => (es[i]?.map (·.1)).getD 0) (NestedKey.hash w k) (stand.getD (t.probeStart (NestedKey.hash w k))) = some (.candidate (way t.mask (NestedKey.hash w k) (c + q)) i (nth t.mask (runAt t.mask (SetTable.bits (NestedKey.hash w k) % (t.mask + 1)) (SetTable.bits (NestedKey.hash w k))) (c + (q + 1)))) := by
        rw [hst, ← e1, ← sh]
        exact hpr
      rw [hpr']
      dsimp only
      rw [e1] at hi
      -- the entry
      have hil : i < L.length := by
        have h1 : i < t.place.toList.length := (List.getElem?_eq_some_iff.mp hi).1
        have h2 := R.tab.sz
        rw [List.length_map] at h2
        rw [Array.length_toList] at h1
        omega
      have hp : L[i]? = some L[i] := List.getElem?_eq_getElem hil
      generalize hpe : L[i] = p at hp
      have hmem : p ∈ L := List.mem_of_getElem? hp
      have hpt := R.tup p hmem
      have rest : wpAny (model P w) A (searchRest a (.ref x) (NestedKey.hash w k) true f es t (way t.mask (NestedKey.hash w k) (c + q)) i (nth t.mask (runAt t.mask (SetTable.bits (NestedKey.hash w k) % (t.mask + 1)) (SetTable.bits (NestedKey.hash w k))) (c + (q + 1)))) Q E s := by
        unfold searchRest
        rw [R.entry hp]
        dsimp only
        refine wpAny_bind (wpAny_holding (eqB_tup hu hpt hx ?_))
        refine wpAny_bind (wpAny_setState_of ho hd R.fits ?_)
        dsimp only
        by_cases hkk : p.2 = k
        · refine wp_if_pos (by simp [hkk]) ?_
          refine wpAny_pure (hin ?_)
          exact List.mem_map.mpr ⟨p, hmem, hkk⟩
        · refine wp_if_neg (by simp [hkk]) ?_
          try refine wpAny_bind (wpAny_pure ?_)
          rw [sameMem]
          dsimp only
          have hsl : t.slot (way t.mask (NestedKey.hash w k) (c + q)) = .live i := slot_live R.tab.ris hi
          simp only [if_true, hsl, R.entry hp]
          refine wpAny_bind (wpAny_isSame_ref_self (wpAny_bind (wpAny_pure ?_)))
          simp only [if_true]
          refine wp_if_neg (by simp [hkk]) ?_
          refine search_from R hx hu hKf hK hKb hin hout f (c + (q + 1)) _ rfl (by omega) (by omega) fun i0 p0 h0 hk0 => ?_
          obtain ⟨c', a1, a2, a3⟩ := hre i0 p0 h0 hk0
          refine ⟨c', ?_, a2, a3⟩
          -- it isn't passed
          rcases Nat.lt_or_ge c' (c + q) with z | z
          · exfalso
            refine hno (c' - c) i0 (by omega) (by rw [e1, show c + (c' - c) = c' by omega]; exact a3) ?_
            exact (hashAt i0 p0 h0).trans (congrArg (NestedKey.hash w) hk0)
          · rcases Nat.lt_or_ge (c + q) c' with y | y
            · omega
            · exfalso
              have ec : c' = c + q := Nat.le_antisymm y z
              rw [ec] at a3
              have s0 := slot_live R.tab.ris a3
              rw [hsl] at s0
              injection s0 with s0
              rw [← s0, hp] at h0
              exact hkk ((congrArg Prod.snd (Option.some.inj h0)).trans hk0)
      by_cases hl : t.led = true
      · refine wp_if_neg (by simp [hl]) ?_
        try refine wpAny_bind (wpAny_pure ?_)
        exact rest
      · refine wp_if_pos (by simp [hl]) ?_
        refine wpAny_bind (seen_tup hx (fun y hy => ?_) ?_)
        · obtain ⟨e, he, ee⟩ := List.mem_map.mp hy
          have he1 : e ∈ es ∧ e.1 = NestedKey.hash w k := by simpa using he
          have he2 : e ∈ es.toList := by simpa using he1.1
          rw [R.rows] at he2
          obtain ⟨p2, hp2, e2⟩ := List.mem_map.mp he2
          refine ⟨p2.2, p2.1, ?_, R.tup p2 hp2⟩
          rw [← ee, ← e2]
        · refine wp_if_neg (by decide) ?_
          try refine wpAny_bind (wpAny_pure ?_)
          exact rest
    · -- the empty slot
      have hpr' : t.probe (fun i => (es[i]?.map (·.1)).getD 0) (NestedKey.hash w k) (stand.getD (t.probeStart (NestedKey.hash w k))) = some (.empty (way t.mask (NestedKey.hash w k) K) none) := by
        have e2 : way t.mask (NestedKey.hash w k) K = (nth t.mask (nth t.mask (runAt t.mask (SetTable.bits (NestedKey.hash w k) % (t.mask + 1)) (SetTable.bits (NestedKey.hash w k))) c) (K - c)).j := by
          rw [e1, show c + (K - c) = K by omega]
        rw [hst, e2]
        exact hpr
      rw [hpr']
      dsimp only
      refine wpAny_pure (hout fun hm => ?_)
      obtain ⟨p0, h0, hk0⟩ := List.mem_map.mp hm
      obtain ⟨i0, hi0, e0⟩ := List.getElem_of_mem h0
      have h00 : L[i0]? = some p0 := by rw [List.getElem?_eq_getElem hi0, e0]
      obtain ⟨c', a1, a2, a3⟩ := hre i0 p0 h00 hk0
      refine hno (c' - c) i0 (by omega) (by rw [e1, show c + (c' - c) = c' by omega]; exact a3) ?_
      exact (hashAt i0 p0 h00).trans (congrArg (NestedKey.hash w) hk0)

/-- the search as adding asks for it -/
theorem search_at (R : SetTR w s.heap a L es ep t) {x : Addr} {k : NestedKey} (hx : IsN s.heap k x) (hu : A.units + 8 < cLine) {Q : SetFound → Shared → Prop}
    (hin : k ∈ L.map (·.2) → Q (.there none) s)
    (hout : ∀ K, k ∉ L.map (·.2) → way t.mask (NestedKey.hash w k) K ∉ t.place.toList → (∀ c, c < K → way t.mask (NestedKey.hash w k) c ∈ t.place.toList) → Q (.free (way t.mask (NestedKey.hash w k) K) false) s) :
    wpAny (model P w) A (setSearch a (.ref x) (NestedKey.hash w k) true) Q E s := by
  have hroom := R.room
  obtain ⟨K, hKf, hK, hKb⟩ := R.tab.first (by rw [List.length_map]; omega) (NestedKey.hash w k)
  have hbig : K < 100000 := by
    have : 10 * SetTable.turns t.mask ≤ 1420 := by
      unfold SetTable.turns
      rcases R.tab.mok with e | e | e <;> omega
    omega
  unfold setSearch
  refine search_from R hx hu hKf hK hKb hin (fun hn => hout K hn hK hKb) 100000 0 none rfl (Nat.zero_le _) (by omega) fun i p hp hk => ?_
  have hi : (L.map fun p => NestedKey.hash w p.2)[i]? = some (NestedKey.hash w k) := by rw [List.getElem?_map, hp, ← hk] <;> rfl
  have hil : i < t.place.toList.length := by
    have h1 : i < L.length := (List.getElem?_eq_some_iff.mp hp).1
    have h2 := R.tab.sz
    rw [List.length_map] at h2
    rw [Array.length_toList]
    omega
  have hj := List.getElem?_eq_getElem hil
  obtain ⟨c, hc, e⟩ := R.tab.before hK hi hj
  exact ⟨c, Nat.zero_le _, hc, by rw [hj, e]⟩
theorem isT_same {h h' : Heap} {k : NestedKey} {a b : Addr} {o : Obj} {es : Array (Int × Value)} {ep : Nat} {t : SetTable} (hb : IsN h k b) (ho : h.get? a = some o) (hd : o.data = .set es ep t) (hs : Heap.SameBut a h h') : IsN h' k b :=
  ⟨NestedIs.at (fun b ob vs n hb hc => (hs.2 b fun e => by subst e; rw [ho] at hb; cases hb; rw [hd] at hc; cases hc).trans hb) _ _ hb.is, hb.dp, hb.num⟩
theorem isT_keep {h h' : Heap} {k : NestedKey} {b : Addr} (x : IsN h k b) (hk : ∀ c o, h.get? c = some o → h'.get? c = some o) : IsN h' k b :=
  ⟨NestedIs.at (fun b ob vs n hb _ => hk b ob hb) _ _ x.is, x.dp, x.num⟩
theorem rows_put (L : List (Addr × NestedKey)) (p : Nat) (x : Addr) (k : NestedKey) : rowsOf w (L.take p ++ (x, k) :: L.drop p) = (rowsOf w L).take p ++ (NestedKey.hash w k, Value.ref x) :: (rowsOf w L).drop p := by
  unfold rowsOf
  rw [List.map_append, List.map_cons, List.map_take, List.map_drop]
theorem order_rows (L : List (Addr × NestedKey)) (es : Array (Int × Value)) (order : Array Nat) (hr : es.toList = rowsOf w L) (hp : order.toList.Perm (List.range L.length)) :
    ∃ L2, (order.filterMap (es[·]?)).toList = rowsOf w L2 ∧ L2.Perm L ∧ (L2.map fun p => NestedKey.hash w p.2) = order.toList.map fun i => (es.map (·.1)).getD i 0 := by
  have hsz : es.size = L.length := by
    have h := congrArg List.length hr
    unfold rowsOf at h
    rw [Array.length_toList, List.length_map] at h
    exact h
  have ent : ∀ i (h : i < L.length), es[i]? = some (NestedKey.hash w (L[i]).2, Value.ref (L[i]).1) := fun i h => by
    rw [← Array.getElem?_toList, hr]
    unfold rowsOf
    rw [List.getElem?_map, List.getElem?_eq_getElem h] <;> rfl
  have key : ∀ l : List Nat, (∀ i ∈ l, i < L.length) → ∃ L2 : List (Addr × NestedKey), l.filterMap (fun i => es[i]?) = rowsOf w L2 ∧ L2 = l.filterMap (fun i => L[i]?) ∧ (L2.map fun p => NestedKey.hash w p.2) = l.map fun i => (es.map (·.1)).getD i 0 := by
    intro l
    induction l with
    | nil => intro _; exact ⟨[], rfl, rfl, rfl⟩
    | cons i l ih =>
      intro hl
      have hi := hl i List.mem_cons_self
      obtain ⟨L2, e1, e2, e3⟩ := ih fun j hj => hl j (List.mem_cons_of_mem _ hj)
      refine ⟨L[i] :: L2, ?_, ?_, ?_⟩
      · rw [List.filterMap_cons_some (ent i hi), e1] <;> rfl
      · rw [List.filterMap_cons_some (List.getElem?_eq_getElem hi), e2]
      · rw [List.map_cons, List.map_cons, e3]
        have hi2 : i < (es.map (·.1)).size := by rw [Array.size_map, hsz]; exact hi
        have e4 : (es.map (·.1)).getD i 0 = NestedKey.hash w (L[i]).2 := by
          have e5 : (es.map (·.1))[i]? = some (NestedKey.hash w (L[i]).2) := by rw [Array.getElem?_map, ent i hi] <;> rfl
          simp [Array.getD_eq_getD_getElem?, e5]
        rw [e4]
  obtain ⟨L2, e1, e2, e3⟩ := key order.toList fun i hi => List.mem_range.mp (hp.mem_iff.mp hi)
  refine ⟨L2, by first | (rw [Array.toList_filterMap]; exact e1) | simpa using e1, ?_, e3⟩
  have h1 : L2.Perm ((List.range L.length).filterMap fun i => L[i]?) := by
    rw [e2]
    exact hp.filterMap _
  have h2 : (List.range L.length).filterMap (fun i => L[i]?) = L := by
    have key2 : ∀ n, n ≤ L.length → (List.range n).filterMap (fun i => L[i]?) = L.take n := by
      intro n
      induction n with
      | zero => intro _; rfl
      | succ n ih =>
        intro hn
        have hlt : n < L.length := hn
        rw [List.range_succ, List.filterMap_append, ih (Nat.le_of_lt hlt), List.take_succ, List.getElem?_eq_getElem hlt]
        rw [List.filterMap_cons_some (List.getElem?_eq_getElem hlt)] <;> rfl
    rw [key2 L.length (Nat.le_refl _), List.take_length]
  rw [h2] at h1
  exact h1

variable {a : Addr} {L : List (Addr × NestedKey)} {es : Array (Int × Value)} {ep : Nat} {t : SetTable}
/-- the table laid anew, larger -/
theorem relay_at {o : Obj} (ho : s.heap.get? a = some o) (hex : o.ExactSet) (hd : o.data = .set es ep t) (hrows : es.toList = rowsOf w L) (hsz : t.place.size = es.size) (hdm : t.dummies = #[]) (hfl : es.size ≤ t.mask)
    (nd : (L.map (·.2)).Nodup) (tup : ∀ p ∈ L, IsN s.heap p.2 p.1) (pl : t.plain = true) (ld : w.params.followText "set-order" = true ∨ t.led = true) (few : L.length < 64) {wanted M : Nat}
    (hw : SetTable.sizeAbove wanted - 1 = M) (hM : MaskOk M) (hw2 : SetTable.sizeAbove wanted ≤ 128) (hn : L.length * 5 < M * 3) {Q : Unit → Shared → Prop}
    (hQ : ∀ h' L' es' ep' t', Heap.SameBut a s.heap h' → SetTR w h' a L' es' ep' t' → L'.Perm L → Q () { s with heap := h' }) : wpAny (model P w) A (setRelay a wanted) Q E s := by
  have hsl : es.size = L.length := by
    have h := congrArg List.length hrows
    unfold rowsOf at h
    rw [Array.length_toList, List.length_map] at h
    exact h
  have hfits : t.fits es.size = true := by
    unfold SetTable.fits SetTable.fill
    rw [hdm, Bool.and_eq_true, beq_iff_eq, decide_eq_true_eq]
    show t.place.size = es.size ∧ t.place.size + 0 ≤ t.mask
    omega
  obtain ⟨t', order, e, hp, T, em, el, ep', ed⟩ := relaid_ok t (hs := es.map (·.1)) (wanted := wanted) hw hM (by rw [Array.size_map, hsl]; omega)
  rw [Array.size_map, hsl] at hp
  obtain ⟨L2, r1, r2, r3⟩ := order_rows L es order hrows hp
  rw [← r3] at T
  have hs2 : (order.filterMap (es[·]?)).size = es.size := by
    have h := congrArg List.length r1
    unfold rowsOf at h
    rw [Array.length_toList, List.length_map, r2.length_eq] at h
    rw [h, hsl]
  rw [setRelay_eq]
  refine wpAny_bind (wpAny_setState_of ho hd hfits ?_)
  dsimp only
  refine wp_if_neg (by rw [sizeLine_eq]; omega) ?_
  try refine wpAny_bind (wpAny_pure ?_)
  rw [e]
  dsimp only
  refine wpAny_bind ?_
  refine wp_if_neg (by rw [hs2]; simp) ?_
  try refine wpAny_bind (wpAny_pure ?_)
  refine wpAny_pure ?_
  dsimp only
  refine wpAny_storeSet_of ho hd ?_ (by rw [hs2, hsl, sizeLine_eq]; omega)
  have sb : Heap.SameBut a s.heap (s.heap.update a (Obj.putSet (order.filterMap (es[·]?)) t')) := Heap.SameBut.update ..
  refine hQ _ L2 (order.filterMap (es[·]?)) (ep + 1) t' sb ?_ r2
  refine ⟨⟨_, store_at ho hd, ⟨hex.1, hex.2.1, hex.2.2⟩, rfl⟩, r1, T, ?_, fun p hpm => isT_same (tup p (r2.mem_iff.mp hpm)) ho hd sb, by rw [ep']; exact pl, by rw [el]; exact ld, ?_, by rw [r2.length_eq]; exact few⟩
  · exact (r2.map (·.2)).nodup_iff.mpr nd
  · rw [r2.length_eq, em]
    exact hn

/-- ADDING -/
theorem add_at (R : SetTR w s.heap a L es ep t) {x : Addr} {k : NestedKey} (hx : IsN s.heap k x) (hu : A.units + 8 < cLine) (hfew : L.length + 1 < 64) {Q : Bool → Shared → Prop}
    (hQ : ∀ b h' L' es' ep' t', Heap.SameBut a s.heap h' → SetTR w h' a L' es' ep' t' → (k ∈ L.map (·.2) → L' = L) → (k ∉ L.map (·.2) → L'.Perm ((x, k) :: L)) → Q b { s with heap := h' }) :
    wpAny (model P w) A (setAddHashed a (.ref x) (NestedKey.hash w k)) Q E s := by
  obtain ⟨o, ho, hex, hd⟩ := R.ob
  have hsl := R.size
  have hroom := R.room
  unfold setAddHashed
  refine wpAny_holding ?_
  rw [show (100000 : Nat) = 99999 + 1 from rfl, setAddHashedIn_succ]
  refine wpAny_bind (wpAny_setState_of ho hd R.fits ?_)
  dsimp only
  refine wp_if_neg (by simp [byScan, Value.scannable]) ?_
  try refine wpAny_bind (wpAny_pure ?_)
  refine wpAny_bind (search_at R hx hu (fun hm => ?_) fun K hm hK hb => ?_)
  · dsimp only
    exact wpAny_pure (hQ false s.heap L es ep t (Heap.SameBut.refl a s.heap) R (fun _ => rfl) fun z => absurd hm z)
  · dsimp only
    refine wpAny_bind (wpAny_setState_of ho hd R.fits ?_)
    dsimp only
    obtain ⟨q1, q2, q3, q4, q5, q6, q7, q8, q9⟩ := R.tab.put hK hb
    have hp1 : (t.put (way t.mask (NestedKey.hash w k) K)).1.plain = true := by rw [q6]; exact R.plain
    generalize hpt : t.put (way t.mask (NestedKey.hash w k) K) = pt at q1 q3 q4 q5 q6 q7 q8 q9 hp1 ⊢
    obtain ⟨t1, p⟩ := pt
    dsimp only at q1 q3 q4 q5 q6 q7 q8 q9 hp1 ⊢
    subst q1
    first
      | (refine wpAny_bind ?_; refine wp_if_pos hp1 ?_; refine hashBy_tup hx ?_)
      | refine wp_if_pos hp1 (wpAny_bind (hashBy_tup hx ?_))
    simp only [if_true]
    have hin : (SetTable.insertAt es (SetTable.below t.place (way t.mask (NestedKey.hash w k) K)) (NestedKey.hash w k, Value.ref x)).toList = rowsOf w (L.take (SetTable.below t.place (way t.mask (NestedKey.hash w k) K)) ++ (x, k) :: L.drop (SetTable.below t.place (way t.mask (NestedKey.hash w k) K))) := by
      rw [SetTable.toList_insertAt, rows_put, R.rows]
    generalize hpp : SetTable.below t.place (way t.mask (NestedKey.hash w k) K) = p at q2 q3 hin ⊢
    have pm := put_perm L p (x, k)
    have hlen : (L.take p ++ (x, k) :: L.drop p).length = L.length + 1 := pm.length_eq
    have hhs : (L.take p ++ (x, k) :: L.drop p).map (fun p => NestedKey.hash w p.2) = (L.map fun p => NestedKey.hash w p.2).take p ++ NestedKey.hash w k :: (L.map fun p => NestedKey.hash w p.2).drop p := by
      rw [List.map_append, List.map_cons, List.map_take, List.map_drop]
    rw [← hhs] at q3
    have nd1 : ((L.take p ++ (x, k) :: L.drop p).map (·.2)).Nodup := by
      refine (pm.map (·.2)).nodup_iff.mpr ?_
      rw [List.map_cons]
      exact List.nodup_cons.mpr ⟨hm, R.nd⟩
    have hes : (SetTable.insertAt es p (NestedKey.hash w k, Value.ref x)).size = L.length + 1 := by
      have h := congrArg List.length hin
      unfold rowsOf at h
      rw [Array.length_toList, List.length_map, hlen] at h
      exact h
    generalize SetTable.insertAt es p (NestedKey.hash w k, Value.ref x) = es1 at hin hes ⊢
    generalize L.take p ++ (x, k) :: L.drop p = L1 at pm hlen q3 nd1 hin
    refine wpAny_bind (wpAny_storeSet_of ho hd ?_ (by rw [hes, sizeLine_eq]; omega))
    have sb : Heap.SameBut a s.heap (s.heap.update a (Obj.putSet es1 t1)) := Heap.SameBut.update ..
    have ho1 := store_at (es' := es1) (t' := t1) ho hd
    generalize s.heap.update a (Obj.putSet es1 t1) = h1 at sb ho1 ⊢
    have tup1 : ∀ p ∈ L1, IsN h1 p.2 p.1 := fun p hp => by
      rcases List.mem_cons.mp (pm.mem_iff.mp hp) with e | hp
      · rw [e]; exact isT_same hx ho hd sb
      · exact isT_same (R.tup p hp) ho hd sb
    have ld1 : w.params.followText "set-order" = true ∨ t1.led = true := by rw [q5]; exact R.led
    by_cases hf : t1.tooFull = true
    · first
        | (refine wpAny_bind ?_; refine wp_if_pos (by simp [hf]) ?_)
        | (refine wp_if_pos (by simp [hf]) ?_; refine wpAny_bind ?_)
      have hfull : (L.length + 1) * 5 ≥ t1.mask * 3 := by
        have h := hf
        unfold SetTable.tooFull at h
        rw [decide_eq_true_eq, q9, List.length_map] at h
        exact h
      rw [hsl]
      have hsz1 : t1.place.size = es1.size := by
        have h := q3.sz
        rw [List.length_map, hlen] at h
        rw [h, hes]
      have cases2 : (t.mask = 7 ∧ L.length = 4) ∨ (t.mask = 31 ∧ L.length = 18) := by
        rcases R.tab.mok with e | e | e
        · left; rw [q4, e] at hfull; rw [e] at hroom; exact ⟨e, by omega⟩
        · right; rw [q4, e] at hfull; rw [e] at hroom; exact ⟨e, by omega⟩
        · exfalso; rw [q4, e] at hfull; omega
      have go : ∀ M, SetTable.sizeAbove (SetTable.grown (L.length + 1)) - 1 = M → MaskOk M → SetTable.sizeAbove (SetTable.grown (L.length + 1)) ≤ 128 → (L.length + 1) * 5 < M * 3 →
          wpAny (model P w) A (setRelay a (SetTable.grown (L.length + 1))) (fun _ s' => wpAny (model P w) A (pure true) Q E s') E { s with heap := h1 } := fun M h1' h2' h3' h4' => by
        refine relay_at (s := { s with heap := h1 }) ho1 ⟨hex.1, hex.2.1, hex.2.2⟩ rfl hin hsz1 q3.dm (by rw [hes, q4]; rcases cases2 with ⟨e, e2⟩ | ⟨e, e2⟩ <;> omega) nd1 tup1 hp1 ld1 (by rw [hlen]; exact hfew) h1' h2' h3' (by rw [hlen]; exact h4') ?_
        intro h2 L2 es2 ep2 t2 sb2 R2 pm2
        refine wpAny_pure (hQ true h2 L2 es2 ep2 t2 (sb.trans sb2) R2 (fun z => absurd z hm) fun _ => pm2.trans pm)
      rcases cases2 with ⟨_, e2⟩ | ⟨_, e2⟩
      · refine go 31 (by rw [e2, size_20]) (.inr (.inl rfl)) (by rw [e2, size_20]; decide) (by omega)
      · refine go 127 (by rw [e2, size_76]) (.inr (.inr rfl)) (by rw [e2, size_76]; decide) (by omega)
    · first
        | refine wp_if_neg (by simp [hf]) ?_
        | (refine wpAny_bind ?_; refine wp_if_neg (by simp [hf]) ?_; refine wpAny_pure ?_)
      refine wpAny_pure (hQ true h1 L1 es1 (ep + 1) t1 sb ⟨⟨_, ho1, ⟨hex.1, hex.2.1, hex.2.2⟩, rfl⟩, hin, q3, nd1, tup1, hp1, ld1, ?_, by rw [hlen]; exact hfew⟩ (fun z => absurd z hm) fun _ => pm)
      have h := hf
      unfold SetTable.tooFull at h
      rw [decide_eq_true_eq, q9, List.length_map] at h
      rw [hlen]
      omega
/-- what the set has got from the first i items -/
structure Got (ks : List (Addr × NestedKey)) (i : Nat) (L : List (Addr × NestedKey)) : Prop where
  sub : ∀ p ∈ L, p ∈ ks.take i
  all : ∀ p ∈ ks.take i, p.2 ∈ L.map (·.2)
  len : L.length ≤ i
theorem Got.zero (ks : List (Addr × NestedKey)) : Got ks 0 [] := ⟨fun p h => (by cases h), fun p h => (by simp at h), Nat.le_refl _⟩
theorem Got.same {ks L : List (Addr × NestedKey)} {i : Nat} {x : Addr × NestedKey} (g : Got ks i L) (h : ks[i]? = some x) (hm : x.2 ∈ L.map (·.2)) : Got ks (i + 1) L := by
  refine ⟨fun p hp => ?_, fun p hp => ?_, Nat.le_succ_of_le g.len⟩
  · rw [take_next h]
    exact List.mem_append_left _ (g.sub p hp)
  · rw [take_next h] at hp
    rcases List.mem_append.mp hp with z | z
    · exact g.all p z
    · rw [List.mem_singleton.mp z]; exact hm
theorem Got.more {ks L L' : List (Addr × NestedKey)} {i : Nat} {x : Addr × NestedKey} (g : Got ks i L) (h : ks[i]? = some x) (pm : L'.Perm (x :: L)) : Got ks (i + 1) L' := by
  refine ⟨fun p hp => ?_, fun p hp => ?_, ?_⟩
  · rw [take_next h]
    rcases List.mem_cons.mp (pm.mem_iff.mp hp) with e | z
    · rw [e]; exact List.mem_append_right _ (List.mem_singleton.mpr rfl)
    · exact List.mem_append_left _ (g.sub p z)
  · rw [(pm.map (·.2)).mem_iff, List.map_cons]
    rw [take_next h] at hp
    rcases List.mem_append.mp hp with z | z
    · exact List.mem_cons_of_mem _ (g.all p z)
    · rw [List.mem_singleton.mp z]; exact List.mem_cons_self
  · rw [pm.length_eq, List.length_cons]
    exact Nat.succ_le_succ g.len

theorem SetTR.keep {h h' : Heap} {a : Addr} {L : List (Addr × NestedKey)} {es : Array (Int × Value)} {ep : Nat} {t : SetTable} (R : SetTR w h a L es ep t) (ha : ∀ o, h.get? a = some o → h'.get? a = some o) (ht : ∀ p ∈ L, IsN h' p.2 p.1) : SetTR w h' a L es ep t := by
  obtain ⟨o, ho, r⟩ := R.ob
  exact ⟨⟨o, ha o ho, r⟩, R.rows, R.tab, R.nd, ht, R.plain, R.led, R.room, R.few⟩
/-- a new set -/
theorem setTR_fresh {h : Heap} {a : Addr} (ho : h.get? a = some { cls := .type "set", dict := none, data := .set #[] 0 (.fresh 0 0 (!w.params.followText "set-order")) }) : SetTR w h a [] #[] 0 (.fresh 0 0 (!w.params.followText "set-order")) where
  ob := ⟨_, ho, ⟨rfl, rfl, rfl⟩, rfl⟩
  rows := rfl
  tab := ⟨List.Pairwise.nil, rfl, rfl, .inl rfl, fun x hx => (by cases hx), fun i h j hi => (by simp at hi)⟩
  nd := List.nodup_nil
  tup := fun p hp => (by cases hp)
  plain := rfl
  led := by
    show _ ∨ (!w.params.followText "set-order") = true
    cases w.params.followText "set-order"
    · exact .inr rfl
    · exact .inl rfl
  room := by
    show 0 * 5 < 7 * 3
    decide
  few := by
    show 0 < 64
    decide

/-- set.update's loop -/
theorem set_update_tups {I : Addr} {fp wr : List Addr} {G : Array GenState → Array GenState → Prop} {n : Nat} {Pv : Nat → Value → Prop} {St : Nat → Shared → Prop} {R : Result → Shared → Prop}
    (W : WalksS P w A.in1 I fp wr G n Pv St) (S : Addr) (hSf : S ∉ fp) (ks : List (Addr × NestedKey)) (hn : n = ks.length) (hfew : ks.length < 64) (hval : ∀ i v, Pv i v → ∃ p, ks[i]? = some p ∧ v = .ref p.1)
    (h0 : Heap) (hk : ∀ p ∈ ks, IsN h0 p.2 p.1) (hS0 : h0.get? S = none) (hw0 : ∀ b ∈ wr, h0.get? b = none) (hu : A.in1.units + 8 < cLine) :
    ∀ (k i : Nat) (s : Shared), n - i = k → i ≤ n → St i s → (∀ b o, h0.get? b = some o → s.heap.get? b = some o) → (∃ L es ep t, SetTR w s.heap S L es ep t ∧ Got ks i L) →
      (∀ s' L es ep t, Moved (S :: wr) G s s' → SetTR w s'.heap S L es ep t → Got ks n L → (∀ b o, h0.get? b = some o → s'.heap.get? b = some o) → R (.ok (.ret .none)) s') →
      codeAny (model P w) A (.builtin "set.update.loop" ⟨[.ref S, .ref I], []⟩) R s := by
  have hSw : S ∉ wr := fun h => hSf (W.sub _ h)
  have hsub : ∀ b ∈ wr, b ∈ S :: wr := fun b hb => List.mem_cons_of_mem _ hb
  have keepM : ∀ {s s' : Shared}, Moved wr G s s' → (∀ b o, h0.get? b = some o → s.heap.get? b = some o) → ∀ b o, h0.get? b = some o → s'.heap.get? b = some o := fun hm hkp b o e =>
    hm.heap b o (fun hb => by rw [hw0 b hb] at e; cases e) (hkp b o e)
  intro k
  induction k with
  | zero =>
    intro i s hk' hi hst hkp ⟨L, es, ep, t, hS, g⟩ hR
    have hin : i = n := by omega
    subst hin
    refine codeAny_builtin F.entry_set_update_loop ?_
    rw [Around.under_plainId F.plain_set_update_loop _]
    show wpAny _ A.in1 (pyNext (.ref I) >>= _) _ _ s
    refine wpAny_bind (W.done s _ _ hst fun s' hm => ?_)
    show wpAny _ A.in1 (ret Value.none) _ _ s'
    have hkp' := keepM hm hkp
    have sub : ∀ p ∈ L, p ∈ ks := fun p hp => List.mem_of_mem_take (g.sub p hp)
    exact wpAny_pure (hR s' L es ep t (hm.mono hsub) (hS.keep (fun o e => hm.heap S o hSw e) fun p hp => isT_keep (hk p (sub p hp)) hkp') g hkp')
  | succ k ih =>
    intro i s hk' hi hst hkp ⟨L, es, ep, t, hS, g⟩ hR
    have hlt : i < n := by omega
    refine codeAny_builtin F.entry_set_update_loop ?_
    rw [Around.under_plainId F.plain_set_update_loop _]
    show wpAny _ A.in1 (pyNext (.ref I) >>= _) _ _ s
    refine wpAny_bind (W.item i s _ _ hlt hst fun v s' hP hst' hm => ?_)
    obtain ⟨p, hp, rfl⟩ := hval i v hP
    have hkp' := keepM hm hkp
    have sub : ∀ p ∈ L, p ∈ ks := fun p hp => List.mem_of_mem_take (g.sub p hp)
    have hS' : SetTR w s'.heap S L es ep t := hS.keep (fun o e => hm.heap S o hSw e) fun q hq => isT_keep (hk q (sub q hq)) hkp'
    have hx : IsN s'.heap p.2 p.1 := isT_keep (hk p (List.mem_of_getElem? hp)) hkp'
    show wpAny _ A.in1 (holding [Value.ref p.1] (setAdd S (.ref p.1)) >>= _) _ _ s'
    refine wpAny_bind (wpAny_holding ?_)
    unfold setAdd
    refine wpAny_holding ?_
    refine wpAny_bind (hash_tup hu hx ?_)
    refine add_at (s := { s' with toks := s'.toks + p.2.draws }) hS' hx hu (by have := g.len; omega) fun b h' L' es' ep' t' hsb hS2 c1 c2 => ?_
    have g' : Got ks (i + 1) L' := by
      rcases Classical.em (p.2 ∈ L.map (·.2)) with c | c
      · rw [c1 c]; exact g.same hp c
      · exact g.more hp (c2 c)
    have hkp2 : ∀ b o, h0.get? b = some o → h'.get? b = some o := fun b o e => (hsb.2 b (fun z => by rw [z, hS0] at e; cases e)).trans (hkp' b o e)
    refine wpAny_pure ⟨plainId_quiet F.plain_set_update_loop _, ih (i + 1) _ (by omega) hlt (W.frame _ s' _ _ hst' (Nat.le_add_right _ _) fun b hb o e => ?_) hkp2 ⟨L', es', ep', t', hS2, g'⟩ fun s'' L2 es2 ep2 t2 hm'' hS'' g'' hkp'' => ?_⟩
    · rw [hsb.2 b (fun h : b = S => hSf (by rw [← h]; exact hb))]; exact e
    · refine hR s'' L2 es2 ep2 t2 (Moved.trans W.gtrans ((hm.mono hsub).then_heap (Nat.le_add_right _ _) fun b o hb e => ?_) hm'') hS'' g'' hkp''
      rw [hsb.2 b (fun h : b = S => hb (by rw [h]; exact List.mem_cons_self))]; exact e

set_option maxRecDepth 100000 in
set_option maxHeartbeats 3200000 in
/-- set(xs) -/
theorem call_set_tups {l : Addr} {items : Array Value} (ks : List (Addr × NestedKey)) {Q : Value → Shared → Prop} (hh : A.handled = none) (hl : s.heap.IsList l items) (hit : items.toList = ks.map fun p => Value.ref p.1)
    (hk : ∀ p ∈ ks, IsN s.heap p.2 p.1) (hfew : ks.length < 64) (hu : A.units + 20 < cLine)
    (h : ∀ (h' : Heap) (tk : Nat) L es ep t, SetTR w h' s.heap.objs.size L es ep t → Got ks ks.length L → (∀ b o, s.heap.get? b = some o → h'.get? b = some o) → Q (.ref s.heap.objs.size) { s with heap := h', toks := tk }) :
    wpAny (model P w) A (call (.type "set") [.ref l]) Q E s := by
  have hisz : items.size = ks.length := by
    have q := congrArg List.length hit
    rw [Array.length_toList, List.length_map] at q
    exact q
  obtain ⟨c, tl, hmro⟩ := F.called_set.mro
  have hmade := F.called_set.made
  have hsub := F.called_set.sub
  refine wpAny_call (codeAny_of_tree ?_)
  show wpAny _ _ (callAny (.type "set") _) _ _ _
  refine wpAny_pure ⟨Code.quiet_builtin _ (by decide +kernel), codeAny_builtin F.entry_type_call ?_⟩
  rw [Around.under_plain (weight_type_call_type "set" [.ref l] []) rfl]
  have h1 := F.called_set.notType
  have h2 := F.called_set.canCreate
  have hct := F.typeCall_set_1 (.ref l)
  repeat (any_goals (first | assumption | wp_step))

  refine codeAny_mono (code_set_led1 (.ref l) (E := E) (Q₁ := fun obj s₁ => obj = .ref s.heap.objs.size ∧ s₁ = { s with heap := s.heap.push { cls := .type "set", dict := none, data := .set #[] 0 (.fresh 0 0 (!w.params.followText "set-order")) } }) ⟨rfl, rfl⟩) fun r s₁ hr => ?_
  cases r with
  | error e => exact hr
  | ok fl =>
    cases fl with
    | ret obj =>
      obtain ⟨rfl, rfl⟩ := hr
      have hS : (s.heap.push { cls := .type "set", dict := none, data := .set #[] 0 (.fresh 0 0 (!w.params.followText "set-order")) }).get? s.heap.objs.size = some { cls := .type "set", dict := none, data := .set #[] 0 (.fresh 0 0 (!w.params.followText "set-order")) } := Heap.get?_push_size _ rfl
      have hT : Shared.TypeIs { s with heap := s.heap.push { cls := .type "set", dict := none, data := .set #[] 0 (.fresh 0 0 (!w.params.followText "set-order")) } } (.ref s.heap.objs.size) "set" := ⟨_, hS, rfl⟩
      have hli := F.called_set.init.lookup
      have hbi := F.called_set.init.bind (.ref s.heap.objs.size)
      repeat (any_goals (first | assumption | wp_step))

      refine codeAny_mono (codeAny_call_builtin (R := wants (fun r s₂ => r = .none ∧ ∃ h' tk L es ep t, s₂ = { s with heap := h', toks := tk } ∧ SetTR w h' s.heap.objs.size L es ep t ∧ Got ks ks.length L ∧
          (∀ b o, s.heap.get? b = some o → h'.get? b = some o)) E) F.called_set.init.plain F.entry_set_init (check_set_init_1 hT ?_)) fun r₂ s₂ hr₂ => ?_
      · obtain ⟨ol, hol, hcl, nl, hdl⟩ := hl
        obtain ⟨ocls, odict, odata, oslots⟩ := ol
        simp only at hcl hdl
        subst hcl; subst hdl
        have hol' : (s.heap.push { cls := .type "set", dict := none, data := .set #[] 0 (.fresh 0 0 (!w.params.followText "set-order")) }).get? l = some { cls := .type "list", dict := odict, data := .seq items nl, slots := oslots } := Heap.get?_push_of_some _ hol
        have hsls := F.sub_list_set
        have hslf := F.sub_list_frozenset
        have hne : (Value.type "list" == Value.type "dict") = false := by decide
        have hl1 : (s.heap.push { cls := .type "set", dict := none, data := .set #[] 0 (.fresh 0 0 (!w.params.followText "set-order")) }).IsList l items := ⟨_, hol', rfl, nl, rfl⟩
        unfold Builtin.«set.__init__» noKeywords Builtin.Frozenset.updateFrom
        generalize hPI : pyIter = PI
        wp_walk
        subst hPI

        refine wpAny_pyIter_list hl1 ?_
        refine wpAny_bind (wpAny_runValue ?_)
        have hlS : l < s.heap.objs.size := Heap.lt_size hol
        have hh3 : A.in1.in1.in1.handled = none := by simp [hh]
        have hz1 : (s.heap.push { cls := .type "set", dict := none, data := .set #[] 0 (.fresh 0 0 (!w.params.followText "set-order")) }).objs.size = s.heap.objs.size + 1 := Heap.size_push ..
        have hneI : l ≠ (s.heap.push { cls := .type "set", dict := none, data := .set #[] 0 (.fresh 0 0 (!w.params.followText "set-order")) }).objs.size := by
          rw [Heap.size_push]; exact Nat.ne_of_lt (Nat.lt_succ_of_lt hlS)
        have hSf : s.heap.objs.size ∉ [(s.heap.push { cls := .type "set", dict := none, data := .set #[] 0 (.fresh 0 0 (!w.params.followText "set-order")) }).objs.size, l] := by
          rw [Heap.size_push]; simp only [List.mem_cons, List.mem_singleton, List.not_mem_nil, or_false, not_or]
          exact ⟨Nat.ne_of_lt (Nat.lt_succ_self _), Nat.ne_of_gt hlS⟩
        have hval : ∀ (i : Nat) (v : Value), items[i]? = some v → ∃ p, ks[i]? = some p ∧ v = .ref p.1 := fun i v hv => by
          have q : items.toList[i]? = some v := by rw [Array.getElem?_toList]; exact hv
          rw [hit, List.getElem?_map] at q
          cases hq : ks[i]? with
          | none => rw [hq] at q; cases q
          | some p =>
            rw [hq] at q
            exact ⟨p, rfl, (Option.some.inj q).symm⟩
        have none_of : ∀ b, s.heap.objs.size ≤ b → s.heap.get? b = none := fun b hb => by
          cases q : s.heap.get? b with
          | none => rfl
          | some o => exact absurd (Nat.lt_of_lt_of_le (Heap.lt_size q) hb) (Nat.lt_irrefl _)
        refine set_update_tups ((Walks.list hh3 _ l hneI items).toS) s.heap.objs.size
          hSf ks hisz hfew hval s.heap hk (none_of _ (Nat.le_refl _)) (fun b hb => none_of b (by
            rw [List.mem_singleton.mp hb, Heap.size_push]
            exact Nat.le_succ _)) (show A.in1.in1.in1.units + 8 < cLine from (by show A.units + 1 + 1 + 1 + 8 < cLine; omega)) (items.size - 0) 0 _ (by omega) (Nat.zero_le _)
          ⟨⟨_, Heap.get?_push_size _ rfl, rfl, rfl⟩, (hl1.push _)⟩ (fun b o e => Heap.get?_push_of_some _ (Heap.get?_push_of_some _ e)) ?hS0 ?hR
        case hS0 =>
          have hget : ((s.heap.push { cls := .type "set", dict := none, data := .set #[] 0 (.fresh 0 0 (!w.params.followText "set-order")) }).push { cls := .type "list_iterator", data := .fields #[.ref l, .int 0 0] }).get? s.heap.objs.size
              = some { cls := .type "set", dict := none, data := .set #[] 0 (.fresh 0 0 (!w.params.followText "set-order")) } := Heap.get?_push_of_some _ hS
          exact ⟨[], #[], 0, _, setTR_fresh hget, Got.zero ks⟩
        case hR =>
          intro s' L es ep t hm hS' g' hkp
          obtain ⟨h', g2, d', tk', os'⟩ := s'
          have eg : g2 = s.gens := hm.gens
          have ed : d' = s.drawn := hm.drawn
          have eo : os' = s.os := hm.os
          subst eg; subst ed; subst eo
          show wpAny _ _ _ _ _ _
          refine wpAny_pure ?_
          show wpAny _ _ (ret Value.none) _ _ _
          rw [hisz] at g'
          exact wpAny_pure ⟨rfl, h', tk', L, es, ep, t, rfl, hS', g', hkp⟩

      · cases r₂ with
        | error e => exact hr₂
        | ok fl₂ =>
          cases fl₂ with
          | ret r =>
            obtain ⟨rfl, h', tk, L, es, ep, t, rfl, hS', g', hk'⟩ := hr₂
            repeat (any_goals (first | assumption | wp_step))
            exact h _ _ _ _ _ _ hS' g' hk'
          | _ => exact hr₂.elim
    | _ => exact hr.elim

end
end NSet
end

section
set_option Elab.async false
set_option linter.all false
set_option maxRecDepth 100000
set_option maxHeartbeats 4000000
namespace Mini
open PySem PySem.Spec PyProof.Rows L2 PySem.W

/-! ### nested tuples of whole numbers -/
mutual
def ntD : D → Bool
  | .int _ => true
  | .tup xs => ntDs xs
  | .non => false
  | .bl _ => false
  | .str _ => false
  | .rng _ _ => false
  | .obj _ => false
  | .rol _ => false
def ntDs : List D → Bool
  | [] => true
  | d :: ds => ntD d && ntDs ds
end
mutual
def encD : D → PyData
  | .int i => .int i
  | .tup xs => .tuple (encDs xs)
  | .non => .none
  | .bl _ => .none
  | .str _ => .none
  | .rng _ _ => .none
  | .obj _ => .none
  | .rol _ => .none
def encDs : List D → List PyData
  | [] => []
  | d :: ds => encD d :: encDs ds
end
mutual
theorem nt_key : ∀ d : D, ntD d = true → ∃ k, toKey d = some k ∧ NSet.numK k = true
  | .int i, _ => ⟨.num i, rfl, rfl⟩
  | .tup xs, h => by
    obtain ⟨ks, h1, h2⟩ := nt_keys xs (by simpa [ntD] using h)
    exact ⟨.tup ks, by simp [toKey, h1], by simpa [NSet.numK] using h2⟩
  | .non, h => by cases h
  | .bl _, h => by cases h
  | .str _, h => by cases h
  | .rng _ _, h => by cases h
  | .obj _, h => by cases h
  | .rol _, h => by cases h
theorem nt_keys : ∀ ds : List D, ntDs ds = true → ∃ ks, toKeys ds = some ks ∧ NSet.numKs ks = true
  | [], _ => ⟨[], rfl, rfl⟩
  | d :: ds, h => by
    simp only [ntDs, Bool.and_eq_true] at h
    obtain ⟨k, h1, h2⟩ := nt_key d h.1
    obtain ⟨ks, h3, h4⟩ := nt_keys ds h.2
    exact ⟨k :: ks, by simp [toKeys, h1, h3], by simp [NSet.numKs, h2, h4]⟩
end
mutual
theorem nt_inj : ∀ (x y : D) (k : NestedKey), ntD x = true → ntD y = true → toKey x = some k → toKey y = some k → x = y
  | .int i, y, k, _, hy, e1, e2 => by
    cases e1
    cases y with
    | int j => simp [toKey] at e2; rw [e2]
    | tup ys =>
      simp only [toKey, Option.map_eq_some_iff] at e2
      obtain ⟨_, _, e⟩ := e2
      cases e
    | _ => cases hy
  | .tup xs, y, k, hx, hy, e1, e2 => by
    simp only [toKey, Option.map_eq_some_iff] at e1
    obtain ⟨ks, h1, rfl⟩ := e1
    cases y with
    | int j => simp [toKey] at e2
    | tup ys =>
      simp only [toKey, Option.map_eq_some_iff] at e2
      obtain ⟨ks', h2, e⟩ := e2
      cases e
      rw [nt_injs xs ys ks (by simpa [ntD] using hx) (by simpa [ntD] using hy) h1 h2]
    | _ => cases hy
  | .non, _, _, h, _, _, _ => by cases h
  | .bl _, _, _, h, _, _, _ => by cases h
  | .str _, _, _, h, _, _, _ => by cases h
  | .rng _ _, _, _, h, _, _, _ => by cases h
  | .obj _, _, _, h, _, _, _ => by cases h
  | .rol _, _, _, h, _, _, _ => by cases h
theorem nt_injs : ∀ (xs ys : List D) (ks : List NestedKey), ntDs xs = true → ntDs ys = true → toKeys xs = some ks → toKeys ys = some ks → xs = ys
  | [], ys, ks, _, _, e1, e2 => by
    cases e1
    cases ys with
    | nil => rfl
    | cons y ys =>
      simp only [toKeys] at e2
      split at e2 <;> cases e2
  | x :: xs, ys, ks, hx, hy, e1, e2 => by
    simp only [toKeys] at e1
    split at e1
    · rename_i k ks' h1 h2
      cases e1
      cases ys with
      | nil => cases e2
      | cons y ys =>
        simp only [toKeys] at e2
        split at e2
        · rename_i k2 ks2 h3 h4
          cases e2
          simp only [ntDs, Bool.and_eq_true] at hx hy
          rw [nt_inj x y _ hx.1 hy.1 h1 h3, nt_injs xs ys _ hx.2 hy.2 h2 h4]
        · cases e2
    · cases e1
end
mutual
theorem enc_inj : ∀ (x y : D), ntD x = true → ntD y = true → encD x = encD y → x = y
  | .int i, y, _, hy, e => by
    cases y with
    | int j => simp [encD] at e; rw [e]
    | tup ys => simp [encD] at e
    | _ => cases hy
  | .tup xs, y, hx, hy, e => by
    cases y with
    | int j => simp [encD] at e
    | tup ys =>
      simp only [encD, PyData.tuple.injEq] at e
      rw [enc_injs xs ys (by simpa [ntD] using hx) (by simpa [ntD] using hy) e]
    | _ => cases hy
  | .non, _, h, _, _ => by cases h
  | .bl _, _, h, _, _ => by cases h
  | .str _, _, h, _, _ => by cases h
  | .rng _ _, _, h, _, _ => by cases h
  | .obj _, _, h, _, _ => by cases h
  | .rol _, _, h, _, _ => by cases h
theorem enc_injs : ∀ (xs ys : List D), ntDs xs = true → ntDs ys = true → encDs xs = encDs ys → xs = ys
  | [], ys, _, _, e => by
    cases ys with
    | nil => rfl
    | cons y ys => simp [encDs] at e
  | x :: xs, ys, hx, hy, e => by
    cases ys with
    | nil => simp [encDs] at e
    | cons y ys =>
      simp only [encDs, List.cons.injEq] at e
      simp only [ntDs, Bool.and_eq_true] at hx hy
      rw [enc_inj x y hx.1 hy.1 e.1, enc_injs xs ys hx.2 hy.2 e.2]
end
mutual
/-- the signs tell alike data apart, whatever follows -/
theorem toks_inj : ∀ (x y : D) (l m : List (Int ⊕ List Nat)), ntD x = true → ntD y = true → alike (encD x) (encD y) = true → keyToks (encD x) ++ l = keyToks (encD y) ++ m → x = y ∧ l = m
  | .int i, y, l, m, _, hy, ha, e => by
    cases y with
    | int j => simp [encD, keyToks] at e; exact ⟨by rw [e.1], e.2⟩
    | tup ys => simp [encD, alike] at ha
    | _ => cases hy
  | .tup xs, y, l, m, hx, hy, ha, e => by
    cases y with
    | int j => simp [encD, alike] at ha
    | tup ys =>
      simp only [encD, alike] at ha
      simp only [encD, keyToks] at e
      obtain ⟨h1, h2⟩ := toks_injs xs ys l m (by simpa [ntD] using hx) (by simpa [ntD] using hy) ha e
      exact ⟨by rw [h1], h2⟩
    | _ => cases hy
  | .non, _, _, _, h, _, _, _ => by cases h
  | .bl _, _, _, _, h, _, _, _ => by cases h
  | .str _, _, _, _, h, _, _, _ => by cases h
  | .rng _ _, _, _, _, h, _, _, _ => by cases h
  | .obj _, _, _, _, h, _, _, _ => by cases h
  | .rol _, _, _, _, h, _, _, _ => by cases h
theorem toks_injs : ∀ (xs ys : List D) (l m : List (Int ⊕ List Nat)), ntDs xs = true → ntDs ys = true → alikeAll (encDs xs) (encDs ys) = true → keyToksAll (encDs xs) ++ l = keyToksAll (encDs ys) ++ m → xs = ys ∧ l = m
  | [], ys, l, m, _, _, _, e => by
    cases ys with
    | nil => simp [encDs, keyToksAll] at e; exact ⟨rfl, e⟩
    | cons y ys => simp [encDs, keyToksAll] at e
  | x :: xs, ys, l, m, hx, hy, ha, e => by
    cases ys with
    | nil => simp [encDs, keyToksAll] at e
    | cons y ys =>
      simp only [encDs, keyToksAll, List.cons_append, List.cons.injEq, List.append_assoc, true_and] at e
      simp only [ntDs, Bool.and_eq_true] at hx hy
      simp only [encDs, alikeAll, Bool.and_eq_true] at ha
      obtain ⟨h1, h2⟩ := toks_inj x y _ _ hx.1 hy.1 ha.1 e
      obtain ⟨h3, h4⟩ := toks_injs xs ys l m hx.2 hy.2 ha.2 h2
      exact ⟨by rw [h1, h3], h4⟩
end
/-- the order of sorted -/
def leD : D → D → Bool := dataLe false encD
theorem leD_anti {x y : D} (hx : ntD x = true) (hy : ntD y = true) (ha : alike (encD x) (encD y) = true) (h1 : leD x y = true) (h2 : leD y x = true) : x = y := by
  have e : keyToks (encD x) = keyToks (encD y) := by
    have a : dataLt (encD y) (encD x) = false := by simpa [leD, dataLe_eq] using h1
    have b : dataLt (encD x) (encD y) = false := by simpa [leD, dataLe_eq] using h2
    exact (listOrd itemOrd).total _ _ b a
  exact (toks_inj x y [] [] hx hy ha (by simpa using e)).1
theorem leD_total : TotalLe leD := sortLe_total (listOrd itemOrd) false (fun b : D => keyToks (encD b))
theorem sorted_one {α : Type} {le : α → α → Bool} : ∀ {l m : List α}, l.Pairwise (fun a b => le a b = true) → m.Pairwise (fun a b => le a b = true) → l.Perm m → (∀ x ∈ l, ∀ y ∈ l, le x y = true → le y x = true → x = y) → l = m
  | [], m, _, _, p, _ => by rw [List.nil_perm.mp p]
  | x :: l, m, hl, hm, p, anti => by
    cases m with
    | nil => exact absurd p.length_eq (by simp)
    | cons y m =>
      have hxm : x ∈ y :: m := p.mem_iff.mp List.mem_cons_self
      have hyl : y ∈ x :: l := p.mem_iff.mpr List.mem_cons_self
      have e : x = y := by
        rcases List.mem_cons.mp hxm with e | hx
        · exact e
        rcases List.mem_cons.mp hyl with e | hy
        · exact e.symm
        exact anti x List.mem_cons_self y hyl ((List.pairwise_cons.mp hl).1 y hy) ((List.pairwise_cons.mp hm).1 x hx)
      subst e
      rw [sorted_one (List.pairwise_cons.mp hl).2 (List.pairwise_cons.mp hm).2 (List.Perm.cons_inv p) fun a ha b hb => anti a (List.mem_cons_of_mem _ ha) b (List.mem_cons_of_mem _ hb)]

def sameK (x y : D) : Bool := decide (toKey x = toKey y)
def dedD : List D → List D
  | [] => []
  | d :: r => if r.any (sameK d) then dedD r else d :: dedD r
def isTupD : D → Bool
  | .tup _ => true
  | _ => false
def fullTup : D → Bool
  | .tup (_ :: _) => true
  | _ => false
def keyDepth (d : D) : Nat := match toKey d with
  | some k => k.depth
  | none => 100
def okSet (xs : List D) : Bool := decide (xs.length < 64) && (xs.all fun d => isTupD d && ntD d && decide (keyDepth d ≤ 8) && decide ((encD d).depth ≤ 8)) && (decide ((dedD xs).length < 2) || xs.all fullTup) && xs.all fun x => xs.all fun y => alike (encD x) (encD y)
def sortD (xs : List D) : List D := (dedD xs).mergeSort leD
theorem dedD_sub : ∀ {xs : List D} {d : D}, d ∈ dedD xs → d ∈ xs
  | [], _, h => h
  | x :: xs, d, h => by
    unfold dedD at h
    split at h
    · exact List.mem_cons_of_mem _ (dedD_sub h)
    · rcases List.mem_cons.mp h with e | h
      · rw [e]; exact List.mem_cons_self
      · exact List.mem_cons_of_mem _ (dedD_sub h)
theorem dedD_all : ∀ {xs : List D} {d : D}, (∀ x ∈ xs, ntD x = true) → d ∈ xs → d ∈ dedD xs
  | [], _, _, h => h
  | x :: xs, d, hn, h => by
    unfold dedD
    have hn' : ∀ y ∈ xs, ntD y = true := fun y hy => hn y (List.mem_cons_of_mem _ hy)
    rcases List.mem_cons.mp h with e | h
    · subst e
      split
      · rename_i q
        obtain ⟨y, hy, q⟩ := List.any_eq_true.mp q
        have q : toKey d = toKey y := by simpa [sameK] using q
        obtain ⟨k, hk, _⟩ := nt_key d (hn d List.mem_cons_self)
        rw [nt_inj d y k (hn d List.mem_cons_self) (hn' y hy) hk (q ▸ hk)]
        exact dedD_all hn' hy
      · exact List.mem_cons_self
    · split
      · exact dedD_all hn' h
      · exact List.mem_cons_of_mem _ (dedD_all hn' h)
theorem dedD_nodup : ∀ xs : List D, (dedD xs).Nodup
  | [] => List.nodup_nil
  | x :: xs => by
    unfold dedD
    split
    · exact dedD_nodup xs
    · rename_i q
      refine List.nodup_cons.mpr ⟨fun h => q (List.any_eq_true.mpr ⟨x, dedD_sub h, ?_⟩), dedD_nodup xs⟩
      simp [sameK]
theorem nodup_perm {α : Type} : ∀ {l m : List α}, l.Nodup → m.Nodup → (∀ x, x ∈ l ↔ x ∈ m) → l.Perm m := by
  classical
  intro l m hl hm h
  exact (List.perm_ext_iff_of_nodup hl hm).mpr h
end Mini
end

section
set_option Elab.async false
set_option linter.all false
set_option maxRecDepth 100000
set_option maxHeartbeats 4000000
namespace Mini
open PySem PySem.Spec PyProof.Rows L2 PySem.W
/-- the set at a, without the tuples themselves -/
structure SetN0 (w : World) (h : Heap) (a : Addr) (L : List (Addr × NestedKey)) : Prop where
  ex : ∃ (es : Array (Int × Value)) (ep : Nat) (t : SetTable), (∃ o, h.get? a = some o ∧ o.ExactSet ∧ o.data = .set es ep t) ∧ ∀ h' : Heap, (∀ o, h.get? a = some o → h'.get? a = some o) → (∀ p ∈ L, NSet.IsN h' p.2 p.1) → NSet.SetTR w h' a L es ep t
def setNO (w : World) (a : Addr) (L : List (Addr × NestedKey)) : HO := .ext fun h => SetN0 w h a L
theorem setN0_of {w : World} {h : Heap} {a : Addr} {L : List (Addr × NestedKey)} {es : Array (Int × Value)} {ep : Nat} {t : SetTable} (R : NSet.SetTR w h a L es ep t) : SetN0 w h a L :=
  ⟨es, ep, t, R.ob, fun h' k ht => R.keep k ht⟩
theorem setNO_new {P : Program} {w : World} {H : Hp} {h : Heap} {a : Addr} {L : List (Addr × NestedKey)} (R : SetN0 w h a L) : ObjOk P w H h a (setNO w a L) := by
  have ⟨es, ep, t, ⟨o, ho, r⟩, q⟩ := R.ex
  refine ⟨R, ⟨o, ho⟩, fun h1 h2 p k => ?_⟩
  have ⟨es', ep', t', ⟨o', ho', r'⟩, q'⟩ := SetN0.ex p
  exact ⟨es', ep', t', ⟨o', k o' ho', r'⟩, fun h3 k3 ht => q' h3 (fun o e => k3 o (k o e)) ht⟩
section
variable {K : PySem.W.Frag} {ρ : List Addr} {H : Hp} {P : Program} {w : World} {h : Heap}
theorem isN_of (ok : HOk P w H h) {d : D} {a : Addr} {k : NestedKey} (r : RV K ρ H d (.ref a)) (hk : toKey d = some k) (hn : ntD d = true) (hd : k.depth ≤ 8) : NSet.IsN h k a := by
  refine ⟨nested_of ok d _ _ _ r rfl hk, hd, ?_⟩
  obtain ⟨k', h1, h2⟩ := nt_key d hn
  rw [hk] at h1; cases h1
  exact h2
mutual
theorem reads_of (ok : HOk P w H h) : ∀ (d : D) (v : V) (u : Value), RV K ρ H d v → RelV v u → ntD d = true → Reads h u (encD d) []
  | .int i, _, _, r, q, _ => by cases r; obtain ⟨t, rfl⟩ := q; exact .int i t
  | .tup xs, _, _, r, q, hn => by
    cases r with | tup ha rs =>
    rename_i a vs
    obtain rfl : _ = Value.ref a := q
    obtain ⟨_, its, rv, o, ho, hc, n, hd⟩ := (show ObjOk P w H h a (.tup vs) from ok a _ ha)
    exact .tuple ho hc hd (by simpa using reads_all ok xs vs its rs rv (by simpa [ntD] using hn))
  | .non, _, _, _, _, h => by cases h
  | .bl _, _, _, _, _, h => by cases h
  | .str _, _, _, _, _, h => by cases h
  | .rng _ _, _, _, _, _, h => by cases h
  | .obj _, _, _, _, _, h => by cases h
  | .rol _, _, _, _, _, h => by cases h
theorem reads_all (ok : HOk P w H h) : ∀ (ds : List D) (vs : List V) (us : List Value), RVs K ρ H ds vs → Vals vs us → ntDs ds = true → ReadsAll h us (encDs ds) []
  | [], _, _, r, q, _ => by cases r; cases q; exact .nil
  | d :: ds, _, _, r, q, hn => by
    cases r with | cons r rs =>
    cases q with | cons q qs =>
    simp only [ntDs, Bool.and_eq_true] at hn
    exact .cons (as := []) (bs := []) (reads_of ok d _ _ r q hn.1) (reads_all ok ds _ _ rs qs hn.2)
end
theorem RVs.mem : ∀ {ds : List D} {vs : List V} {v : V}, RVs K ρ H ds vs → v ∈ vs → ∃ d ∈ ds, RV K ρ H d v
  | _, _, _, .nil, h => by cases h
  | _, _, v, .cons r t, h => by
    rcases List.mem_cons.mp h with e | h
    · subst e; exact ⟨_, List.mem_cons_self, r⟩
    · obtain ⟨d, h1, h2⟩ := RVs.mem t h
      exact ⟨d, List.mem_cons_of_mem _ h1, h2⟩
theorem okSet_mem {xs : List D} {d : D} (h : okSet xs = true) (hd : d ∈ xs) : isTupD d = true ∧ ntD d = true ∧ keyDepth d ≤ 8 ∧ (encD d).depth ≤ 8 := by
  simp only [okSet, Bool.and_eq_true, List.all_eq_true, decide_eq_true_eq] at h
  have q := h.1.1.2 d hd
  exact ⟨q.1.1.1, q.1.1.2, q.1.2, q.2⟩
/-- the rows that stand for these -/
structure Rows (K : PySem.W.Frag) (ρ : List Addr) (H : Hp) (xs : List D) (L : List (Addr × NestedKey)) : Prop where
  sub : ∀ q ∈ L, ∃ d ∈ xs, RV K ρ H d (.ref q.1) ∧ toKey d = some q.2
  all : ∀ d ∈ xs, ∃ q ∈ L, toKey d = some q.2
  nd : (L.map (·.2)).Nodup
theorem rows_list {xs : List D} : ∀ {vs : List V}, RVs K ρ H xs vs → (∀ d ∈ xs, isTupD d = true ∧ ntD d = true ∧ keyDepth d ≤ 8 ∧ (encD d).depth ≤ 8) → ∃ ks : List (Addr × NestedKey), vs = ks.map (fun p => V.ref p.1) ∧ ks.length = xs.length ∧ ∀ (i : Nat) (p : Addr × NestedKey), ks[i]? = some p → ∃ d, xs[i]? = some d ∧ RV K ρ H d (.ref p.1) ∧ toKey d = some p.2 := by
  induction xs with
  | nil => intro vs r _; cases r; exact ⟨[], rfl, rfl, fun i p h => by simp at h⟩
  | cons x xs ih =>
    intro vs r hn
    cases r with | cons r rs =>
    obtain ⟨ks, e, hl, hk⟩ := ih rs fun d hd => hn d (List.mem_cons_of_mem _ hd)
    obtain ⟨h1, h2, _⟩ := hn x List.mem_cons_self
    obtain ⟨k, hk1, _⟩ := nt_key x h2
    cases x with
    | tup ys =>
      have r' := r
      cases r with | tup ha _ =>
      rename_i a _ _
      refine ⟨(a, k) :: ks, by rw [e]; rfl, by simp [hl], fun i p h => ?_⟩
      cases i with
      | zero => simp at h; subst h; exact ⟨_, rfl, r', hk1⟩
      | succ i =>
        obtain ⟨d, h3, h4⟩ := hk i p (by simpa using h)
        exact ⟨d, by simpa using h3, h4⟩
    | _ => cases h1
end
def rSetN (K : PySem.W.Frag) (w : World) : List V → Hp → VK → Prop := fun vs H Q => ∃ (l : Addr) (ys : List V) (ρ : List Addr) (xs : List D), vs = [V.ref l] ∧ SqL K H l ys ∧ RVs K ρ H xs ys ∧ okSet xs = true ∧
  ∀ p L, H p = none → Rows K ρ H xs L → Q (.ref p) (upd H p (setNO w p L))
section
variable {X : Cx} {pins : List (Addr × Obj)} {σ : L2.St} {H : Hp} {s : Shared}
theorem refs_out : ∀ {ks : List (Addr × NestedKey)} {us : List Value}, Vals (ks.map fun p => V.ref p.1) us → us = ks.map fun p => Value.ref p.1
  | [], _, r => by cases r; rfl
  | p :: ks, _, r => by
    cases r with | cons a t =>
    rw [refs_out t]
    rw [show _ = Value.ref p.1 from a]; rfl
theorem keyDepth_le {d : D} {k : NestedKey} (h : toKey d = some k) (hd : keyDepth d ≤ 8) : k.depth ≤ 8 := by
  unfold keyDepth at hd
  rw [h] at hd
  exact hd
theorem cr_setN (hc : X.calm = true) (hu : X.A.units + 64 < cLine) : CallR X (.type "set") (rSetN X.K X.w) := by
  intro pins s σ H vs us Q I r h
  obtain ⟨l, ys, ρ, xs, rfl, hl, rv, hok, q⟩ := h
  rw [Vals.ref1 r]
  obtain ⟨its, vs', pl, hz⟩ := I.list hl
  have hm : ∀ d ∈ xs, isTupD d = true ∧ ntD d = true ∧ keyDepth d ≤ 8 ∧ (encD d).depth ≤ 8 := fun d hd => okSet_mem hok hd
  obtain ⟨ks, e, hlen, hk⟩ := rows_list rv hm
  have hn : H s.heap.objs.size = none := I.hok.fresh (Nat.le_refl _)
  have hits : its = ks.map fun p => Value.ref p.1 := by
    rw [e] at vs'
    exact refs_out vs'
  have hfew : xs.length < 64 := by
    simp only [okSet, Bool.and_eq_true, decide_eq_true_eq] at hok
    exact hok.1.1.1
  refine NSet.call_set_tups (P := X.prog) (w := X.w) ks (I.ok.hd hc) pl.isList (by simpa using hits) (fun p hp => ?_) (by omega) (by omega) fun h' tk L es ep t R g k => ?_
  · obtain ⟨i, hi⟩ := List.mem_iff_getElem?.mp hp
    obtain ⟨d, h1, h2, h3⟩ := hk i p hi
    obtain ⟨_, h4, h5, _⟩ := hm d (List.mem_of_getElem? h1)
    exact isN_of I.hok h2 h3 h4 (keyDepth_le h3 h5)
  · refine ⟨.ref s.heap.objs.size, upd H s.heap.objs.size (setNO X.w s.heap.objs.size L), I.laid (t' := tk) k (Nat.le_refl _) (setNO_new (setN0_of R)), rfl, q _ L hn ⟨fun p hp => ?_, fun d hd => ?_, R.nd⟩⟩
    · have hp' : p ∈ ks := List.mem_of_mem_take (g.sub p hp)
      obtain ⟨i, hi⟩ := List.mem_iff_getElem?.mp hp'
      obtain ⟨d, h1, h2, h3⟩ := hk i p hi
      exact ⟨d, List.mem_of_getElem? h1, h2, h3⟩
    · obtain ⟨i, hi⟩ := List.mem_iff_getElem?.mp hd
      have hil : i < ks.length := by rw [hlen]; exact (List.getElem?_eq_some_iff.mp hi).1
      have hp : ks[i]? = some ks[i] := List.getElem?_eq_getElem hil
      obtain ⟨d', h1, h2, h3⟩ := hk i _ hp
      rw [hi] at h1; cases h1
      have := g.all ks[i] (by rw [List.take_length]; exact List.getElem_mem hil)
      obtain ⟨p, hpL, e2⟩ := List.mem_map.mp this
      exact ⟨p, hpL, by rw [e2]; exact h3⟩
def rSortN (K : PySem.W.Frag) (w : World) : List V → Hp → VK → Prop := fun vs H Q => ∃ (a : Addr) (L : List (Addr × NestedKey)) (ρ : List Addr) (xs : List D), vs = [V.ref a] ∧ H a = some (setNO w a L) ∧ Rows K ρ H xs L ∧ okSet xs = true ∧
  ∀ p zs, H p = none → RVs K ρ H (sortD xs) zs → Q (.ref p) (upd H p (.lst zs))
/-- the rows with what they stand for -/
theorem rows_pairs {K : PySem.W.Frag} {ρ : List Addr} {xs : List D} : ∀ {L : List (Addr × NestedKey)}, (∀ q ∈ L, ∃ d ∈ xs, RV K ρ H d (.ref q.1) ∧ toKey d = some q.2) → ∃ bs : List (Addr × D), bs.map (·.1) = L.map (·.1) ∧ (bs.map fun b => toKey b.2) = L.map (fun q => some q.2) ∧ ∀ b ∈ bs, b.2 ∈ xs ∧ RV K ρ H b.2 (.ref b.1)
  | [], _ => ⟨[], rfl, rfl, fun b h => by cases h⟩
  | q :: L, h => by
    obtain ⟨d, h1, h2, h3⟩ := h q List.mem_cons_self
    obtain ⟨bs, e1, e2, e3⟩ := rows_pairs (L := L) fun q' hq => h q' (List.mem_cons_of_mem _ hq)
    refine ⟨(q.1, d) :: bs, by simp [e1], by simp [e2, h3], fun b hb => ?_⟩
    rcases List.mem_cons.mp hb with e | hb
    · rw [e]; exact ⟨h1, h2⟩
    · exact e3 b hb
theorem pick_perm {α β : Type} {f : α → β} : ∀ {vs : List β} {bs : List α}, vs.Perm (bs.map f) → ∃ bs' : List α, vs = bs'.map f ∧ bs'.Perm bs := by
  intro vs bs h
  generalize hm : bs.map f = ms at h
  induction h generalizing bs with
  | nil => 
    cases bs with
    | nil => exact ⟨[], rfl, .refl _⟩
    | cons _ _ => cases hm
  | cons x p ih =>
    cases bs with
    | nil => cases hm
    | cons b bs =>
      simp only [List.map_cons, List.cons.injEq] at hm
      obtain ⟨bs', e, q⟩ := ih hm.2
      exact ⟨b :: bs', by rw [e, List.map_cons, hm.1], q.cons b⟩
  | swap x y l =>
    cases bs with
    | nil => cases hm
    | cons b bs =>
      cases bs with
      | nil => simp at hm
      | cons c bs =>
        simp only [List.map_cons, List.cons.injEq] at hm
        exact ⟨c :: b :: bs, by rw [List.map_cons, List.map_cons, hm.1, hm.2.1, hm.2.2], List.Perm.swap _ _ _⟩
  | trans p q ih1 ih2 =>
    obtain ⟨b1, e1, p1⟩ := ih2 hm
    obtain ⟨b2, e2, p2⟩ := ih1 e1.symm
    exact ⟨b2, e2, p2.trans p1⟩
theorem eachIs_refs {bs : List (Addr × D)} : EachIs (fun v (b : Addr × D) => v = Value.ref b.1) (bs.map fun b => Value.ref b.1) bs := by
  induction bs with
  | nil => exact .nil
  | cons b bs ih => exact .cons rfl ih
theorem refs_eachIs : ∀ {out : List Value} {bs : List (Addr × D)}, EachIs (fun v (b : Addr × D) => v = Value.ref b.1) out bs → out = bs.map fun b => Value.ref b.1
  | _, _, .nil => rfl
  | _, _, .cons a t => by rw [refs_eachIs t, a]; rfl
theorem eachIs_of {R : Value → (Addr × D) → Prop} : ∀ {bs : List (Addr × D)}, (∀ b ∈ bs, R (.ref b.1) b) → EachIs R (bs.map fun b => Value.ref b.1) bs
  | [], _ => .nil
  | b :: bs, h => .cons (h b List.mem_cons_self) (eachIs_of fun c hc => h c (List.mem_cons_of_mem _ hc))
theorem map_mergeSort {α β : Type} {le : β → β → Bool} (f : α → β) (T : TotalLe le) (l : List α) : (l.mergeSort fun a b => le (f a) (f b)).map f = (l.map f).mergeSort le := by
  refine sort_unique T ?_ fun c => ?_
  · refine List.pairwise_map.mpr ?_
    exact sort_pairwise (le := fun a b => le (f a) (f b)) ⟨fun a b c => T.trans _ _ _, fun a b => T.total _ _⟩ l
  · rw [List.filter_map, List.filter_map]
    congr 1
    have key : ∀ c : β, ((l.mergeSort fun a b => le (f a) (f b)).filter (sameRank le c ∘ f)) = l.filter (sameRank le c ∘ f) := by
      intro c
      by_cases h : ∃ a ∈ l, sameRank le c (f a) = true
      · obtain ⟨a, ha, q⟩ := h
        have st := sort_stable (le := fun a b => le (f a) (f b)) ⟨fun a b c => T.trans _ _ _, fun a b => T.total _ _⟩ l a
        have e : (sameRank le c ∘ f) = sameRank (fun a b => le (f a) (f b)) a := by
          funext x
          unfold sameRank at q
          simp only [Bool.and_eq_true] at q
          simp only [Function.comp, sameRank]
          apply Bool.eq_iff_iff.mpr
          simp only [Bool.and_eq_true]
          exact ⟨fun z => ⟨T.trans _ _ _ q.2 z.1, T.trans _ _ _ z.2 q.1⟩, fun z => ⟨T.trans _ _ _ q.1 z.1, T.trans _ _ _ z.2 q.2⟩⟩
        rw [e]
        exact st
      · have z : ∀ a ∈ l, ¬ (sameRank le c ∘ f) a = true := fun a ha q => h ⟨a, ha, q⟩
        rw [List.filter_eq_nil_iff.mpr z, List.filter_eq_nil_iff.mpr fun a ha => z a ((List.mergeSort_perm l _).mem_iff.mp ha)]
    exact key c
theorem cr_sortN (hc : X.calm = true) (hu : X.A.units + 64 < cLine) : CallR X (.builtin "sorted") (rSortN X.K X.w) := by
  intro pins s σ H vs us Q I r h
  obtain ⟨a, L, ρ, xs, rfl, ha, rows, hok, q⟩ := h
  have R0 : SetN0 X.w s.heap a L := (I.hok a _ ha).1
  obtain ⟨es, ep, t, ⟨o, ho, hex, hd⟩, q0⟩ := R0.ex
  have hm : ∀ d ∈ xs, isTupD d = true ∧ ntD d = true ∧ keyDepth d ≤ 8 ∧ (encD d).depth ≤ 8 := fun d hd => okSet_mem hok hd
  have R : NSet.SetTR X.w s.heap a L es ep t := q0 s.heap (fun _ e => e) fun p hp => by
    obtain ⟨d, h1, h2, h3⟩ := rows.sub p hp
    obtain ⟨_, h4, h5, _⟩ := hm d h1
    exact isN_of I.hok h2 h3 h4 (keyDepth_le h3 h5)
  rw [Vals.ref1 r]
  obtain ⟨bs, e1, e2, e3⟩ := rows_pairs rows.sub
  have hsz := R.size
  have hfew := R.few
  have hh : X.A.handled = none := I.ok.hd hc
  refine PySem.Calls.call_function_entry kind_sorted plain_sorted entry_sorted (args_sorted1 _) ?_
  unfold Builtin.«sorted»
  refine wpAny_bind (m := checkCount "sorted" 1 1 _) (wpAny_pure ?_)
  refine wpAny_bind (collect_set (A := X.A.in1) hh ⟨o, ho, hex.1, hd⟩ R.fits (by unfold scanBound; omega) R.tab.ris R.led fun s1 vs k1 hz g1 o1 pm => ?_)
  have hes : es.toList.map (·.2) = bs.map fun b => Value.ref b.1 := by
    rw [R.rows]
    unfold NSet.rowsOf
    rw [List.map_map]
    have : (L.map fun p => Value.ref p.1) = (bs.map (·.1)).map Value.ref := by rw [e1, List.map_map]; rfl
    rw [List.map_map] at this
    exact this
  rw [hes] at pm
  obtain ⟨cs, rfl, pc⟩ := pick_perm pm
  have cm : ∀ b ∈ cs, b.2 ∈ xs ∧ RV X.K ρ H b.2 (.ref b.1) := fun b hb => e3 b (pc.mem_iff.mp hb)
  -- the distinct ones
  have hkeys : (bs.map fun b => toKey b.2).Nodup := by
    rw [e2]
    have := rows.nd
    rw [List.Nodup, List.pairwise_map] at this ⊢
    exact this.imp fun h e => h (Option.some.inj e)
  have hnd : (bs.map (·.2)).Nodup := by
    rw [List.Nodup, List.pairwise_map] at hkeys ⊢
    exact hkeys.imp fun h e => h (by rw [e])
  have hmem : ∀ d, d ∈ bs.map (·.2) ↔ d ∈ xs := fun d => by
    constructor
    · intro h
      obtain ⟨b, hb, rfl⟩ := List.mem_map.mp h
      exact (e3 b hb).1
    · intro h
      obtain ⟨p, hp, e⟩ := rows.all d h
      have h1 : some p.2 ∈ L.map (fun q => some q.2) := List.mem_map.mpr ⟨p, hp, rfl⟩
      rw [← e2] at h1
      obtain ⟨b, hb, eb⟩ := List.mem_map.mp h1
      have := nt_inj d b.2 p.2 (hm d h).2.1 (hm b.2 (e3 b hb).1).2.1 e eb
      rw [this]
      exact List.mem_map.mpr ⟨b, hb, rfl⟩
  have pD : (cs.map (·.2)).Perm (dedD xs) := (pc.map (·.2)).trans (nodup_perm hnd (dedD_nodup xs) fun d => by
    rw [hmem d]
    exact ⟨fun h => dedD_all (fun x hx => (hm x hx).2.1) h, fun h => dedD_sub h⟩)
  have alk : ∀ x ∈ xs, ∀ y ∈ xs, alike (encD x) (encD y) = true := by
    simp only [okSet, Bool.and_eq_true, List.all_eq_true] at hok
    exact hok.2
  have full : (dedD xs).length < 2 ∨ ∀ d ∈ xs, fullTup d = true := by
    simp only [okSet, Bool.and_eq_true, Bool.or_eq_true, List.all_eq_true, decide_eq_true_eq] at hok
    exact hok.1.2
  have sortedD : ∀ zs : List (Addr × D), zs = cs.mergeSort (dataLe false fun b => encD b.2) → zs.map (·.2) = sortD xs := by
    intro zs hzs
    have e : zs.map (·.2) = (cs.map (·.2)).mergeSort leD := by
      rw [hzs]
      exact map_mergeSort (le := leD) (·.2) leD_total cs
    rw [e]
    unfold sortD
    refine sorted_one (sort_pairwise leD_total _) (sort_pairwise leD_total _) (((List.mergeSort_perm _ _).trans pD).trans (List.mergeSort_perm _ _).symm) fun x hx y hy h1 h2 => ?_
    have mx : ∀ z, z ∈ (cs.map (·.2)).mergeSort leD → z ∈ xs := fun z hz => dedD_sub (pD.mem_iff.mp ((List.mergeSort_perm _ _).mem_iff.mp hz))
    exact leD_anti (hm x (mx x hx)).2.1 (hm y (mx y hy)).2.1 (alk x (mx x hx) y (mx y hy)) h1 h2
  have clen : cs.length = L.length := by
    have := congrArg List.length e1
    rw [pc.length_eq]
    simpa using this
  have lcs : cs.length < 64 := by omega
  have hzz : (64 : Nat) ≤ sizeLine := by decide
  refine wpAny_bind (wpAny_newList ?_ (by rw [List.length_map]; omega))
  have hoL : (s1.heap.push (seqObj "list" (cs.map fun b => Value.ref b.1).toArray 0)).get? s1.heap.objs.size = some (seqObj "list" (cs.map fun b => Value.ref b.1).toArray 0) := Heap.get?_push_size _ rfl
  have old : ∀ b ob, s.heap.get? b = some ob → (s1.heap.push (seqObj "list" (cs.map fun b => Value.ref b.1).toArray 0)).get? b = some ob := fun b ob e => Heap.get?_push_of_some _ (k1 b ob e)
  -- the end
  have fin : ∀ (out : List Value) (zs : List (Addr × D)), out = zs.map (fun b => Value.ref b.1) → zs = cs.mergeSort (dataLe false fun b => encD b.2) →
      EP X pins σ Q (.ref s1.heap.objs.size) { s1 with heap := sortedHeap (s1.heap.push (seqObj "list" (cs.map fun b => Value.ref b.1).toArray 0)) s1.heap.objs.size (cs.map fun b => Value.ref b.1) out.toArray } := by
    intro out zs hout hzs
    obtain ⟨c, hcg⟩ := sortedHeap_at (vs := cs.map fun b => Value.ref b.1) (out := out.toArray) hoL
    have zmem : ∀ b ∈ zs, b.2 ∈ xs ∧ RV X.K ρ H b.2 (.ref b.1) := fun b hb => by
      rw [hzs] at hb
      exact cm b ((List.mergeSort_perm _ _).mem_iff.mp hb)
    have zlen : zs.length < 64 := by
      rw [hzs, (List.mergeSort_perm _ _).length_eq]; exact lcs
    have hn : H s1.heap.objs.size = none := I.hok.fresh hz
    have kk : ∀ b u, s.heap.get? b = some u → (sortedHeap (s1.heap.push (seqObj "list" (cs.map fun b => Value.ref b.1).toArray 0)) s1.heap.objs.size (cs.map fun b => Value.ref b.1) out.toArray).get? b = some u := fun b u e => by
      have q2 := k1 b u e
      have hlt := Heap.lt_size q2
      rw [sortedHeap_old (Nat.ne_of_lt hlt) (by rw [size_push']; exact Nat.lt_succ_of_lt hlt)]
      exact Heap.get?_push_of_some _ q2
    have hv : Vals (zs.map fun b => V.ref b.1) out := by
      rw [hout]
      clear hout hzs zmem zlen hcg kk
      induction zs with
      | nil => exact .nil
      | cons z zs ih => exact .cons rfl ih
    have J : L2.Inv X pins σ (upd H s1.heap.objs.size (.lst (zs.map fun b => V.ref b.1))) { s with heap := sortedHeap (s1.heap.push (seqObj "list" (cs.map fun b => Value.ref b.1).toArray 0)) s1.heap.objs.size (cs.map fun b => Value.ref b.1) out.toArray, gens := s1.gens, drawn := s1.drawn, toks := s1.toks } :=
      I.call (ch := []) (Un.laid kk hz hn) (I.hok.laid kk hz ⟨by rw [List.length_map]; omega, out, c, hv, hcg⟩) (by rw [g1]; exact I.bare) (fun _ z => nomatch z)
    have e : ({ s1 with heap := sortedHeap (s1.heap.push (seqObj "list" (cs.map fun b => Value.ref b.1).toArray 0)) s1.heap.objs.size (cs.map fun b => Value.ref b.1) out.toArray } : Shared) = { s with heap := sortedHeap (s1.heap.push (seqObj "list" (cs.map fun b => Value.ref b.1).toArray 0)) s1.heap.objs.size (cs.map fun b => Value.ref b.1) out.toArray, gens := s1.gens, drawn := s1.drawn, toks := s1.toks } := by
      cases s1
      cases s
      cases o1
      rfl
    rw [e]
    refine ⟨.ref s1.heap.objs.size, _, J, rfl, q _ _ hn ?_⟩
    rw [← sortedD zs hzs]
    clear hout hzs zlen hcg kk hv J e
    induction zs with
    | nil => exact .nil
    | cons z zs ih => exact .cons (zmem z List.mem_cons_self).2 (ih fun b hb => zmem b (List.mem_cons_of_mem _ hb))
  by_cases h2 : cs.length < 2
  · -- no question is asked
    refine wpAny_bind (wpAny_holding (wpAny_call_entry slot_list_sort ⟨_, hoL, rfl⟩ entry_list_sort (SrtO.list_sort_ord (ltv := fun _ _ => false) ⟨fun _ _ _ => rfl, fun _ _ _ _ _ => rfl⟩ hoL (by rw [List.length_map]; omega) (fun z => absurd z (by rw [List.length_map]; omega)) fun out hs hb => ⟨_, rfl, ?_⟩) (args_list_sort _)))
    refine wpAny_pure ⟨_, rfl, ?_⟩
    have eo : out = cs.map fun b => Value.ref b.1 := by
      have pl := hb.perm
      match cs, h2, pl with
      | [], _, pl => exact List.perm_nil.mp pl
      | [b], _, pl => exact List.perm_singleton.mp pl
    refine fin out cs eo ?_
    match cs, h2 with
    | [], _ => simp
    | [b], _ => simp
  · -- the sort
    have full' : ∀ d ∈ xs, fullTup d = true := by
      rcases full with z | z
      · exfalso
        have := pD.length_eq
        rw [List.length_map] at this
        omega
      · exact z
    refine wpAny_bind (wpAny_holding (list_sort_data (s := { s1 with heap := s1.heap.push (seqObj "list" (cs.map fun b => Value.ref b.1).toArray 0) }) (enc := fun b : Addr × D => encD b.2) (R := fun v b => v = Value.ref b.1) hoL eachIs_refs (eachIs_of fun b hb => ?_) ?_ ?_ (by omega) (fun b hb => ?_) fun out hl he => ?_))
    · obtain ⟨h1, h3⟩ := cm b hb
      refine ⟨[], ?_, by simp⟩
      exact PyProof.Rows.Reads.keeps old (reads_of I.hok b.2 _ (.ref b.1) h3 rfl (hm b.2 h1).2.1)
    · intro d hd d' hd'
      obtain ⟨b, hb, rfl⟩ := List.mem_map.mp hd
      obtain ⟨b', hb', rfl⟩ := List.mem_map.mp hd'
      exact alk _ (cm b hb).1 _ (cm b' hb').1
    · refine .inl fun d hd => ?_
      obtain ⟨b, hb, rfl⟩ := List.mem_map.mp hd
      have := full' b.2 (cm b hb).1
      cases hb2 : b.2 with
      | tup ys =>
        rw [hb2] at this
        cases ys with
        | nil => cases this
        | cons y ys => exact ⟨encD y, encDs ys, rfl⟩
      | _ => rw [hb2] at this; cases this
    · have := (hm b.2 (cm b hb).1).2.2.2
      show X.A.units + 1 + 1 + (encD b.2).depth < cLine
      omega
    · exact wpAny_pure ⟨_, rfl, fin out _ (refs_eachIs he) rfl⟩
end
/-! ### sorted(set(xs)), xs a new list -/
def fSortSet (la : FA) : FA := fun e => bnd (la e) fun xs S => if okSet xs = true then some (.val (sortD xs) S) else none
section
variable {G : Gl} {X : Cx} {E : XK} {a : Expr} {la : FA} {p q pos pos2 : Pos}
theorem dl_sortSet (hK : X.K = G.K) (hc : X.calm = true) (hu : X.A.units + 64 < cLine) (hg : L2.Gl X "sorted") (hm : X.mg "sorted" = none) (hg2 : L2.Gl X "set") (hm2 : X.mg "set" = none) (ha : DL G X E a la)
    (hs : starEach [a] X.env = (false, eval a X.env) :: starEach [] X.env) : DL G X E (.Call (.Name "sorted" p) [.Call (.Name "set" q) [a] [] pos2] [] pos) (fSortSet la) :=
  pe_imp (pe_callB (cr_sortN hc hu) hg hm PyProof.Rows.boot_sorted (pa_cons (pe_callTy (cr_setN hc hu) hg2 hm2 PyProof.Rows.boot_set (pa_cons ha pa_nil hs) (by decide) (by decide) hs rfl) pa_nil rfl) (by decide) (by decide) rfl rfl) fun σ H Q ⟨ρ, S, e, r, rep, re, h, pq⟩ => bind_at rep re h pq fun ρ1 H1 S1 ds v st1 rep1 re1 rx h1 p1 => by
    obtain ⟨l, vs, rfl, h0, hn, hq, rv⟩ := rx
    split at h1
    · rename_i hok
      refine ⟨l, vs, ρ1, ds, rfl, SqL.of hq, by rw [hK]; exact rv, hok, fun z L hz rows => ?_⟩
      have st2 := Step.new (ρ := ρ1) (o := setNO X.w z L) hz
      have rep2 := rep1.new (o := setNO X.w z L) hz
      refine ⟨z, L, ρ1, ds, rfl, upd_same, ⟨fun w hw => ?_, rows.all, rows.nd⟩, hok, fun y zs hy rs => ?_⟩
      · obtain ⟨d, h2, h3, h4⟩ := rows.sub w hw
        exact ⟨d, h2, h3.mono st2, h4⟩
      · rw [hK] at rs
        exact newL_at rep2 h1 (p1.mono st2) (fun w => st1.trk _ (st2.trk _ w)) hy rs
    · cases h1
end
end Mini
end

section
set_option Elab.async false
set_option linter.all false
set_option maxRecDepth 100000
set_option maxHeartbeats 4000000
namespace Mini
open PySem PySem.Spec PyProof.Rows L2 PySem.W PySem.Calls
/-! ### sorted(xs, key=f), f a def of the text -/
section
variable {prog : Program} {w : World} {A : Around} {E : Value → Shared → Prop} {s : Shared} {κ : PyProof.Rows.KeyKind} {a kS : Addr} {vs : List Value} {keys : Array Value} {e e1 : Nat} {P : PySem.Fin → Shared → Prop}
abbrev doneHeap (h : Heap) (kS a : Addr) (out : List Value) : Heap := (h.update kS (Obj.mapSeq fun _ => (#[] : Array Value))).update a (Obj.mapSeq fun _ => out.toArray)
theorem key_tailN {st : SortSt} {out : List Value} (nk : s.heap.get? kS = some (seqObj "list" keys e)) (na : s.heap.get? a = some (seqObj "list" #[] e1)) (hka : kS ≠ a) (hsz : keys.size ≤ sizeLine) (hz : out.length ≤ sizeLine) (hfl : failedOf st = none)
    (ho : (arrOf st).map (·.2) = out.toArray) (h : P (.done (.ret .none)) { s with heap := doneHeap s.heap kS a out }) : wpAny (model prog w) A (ksk_tail a false e1 (.ref kS) st) P E s := by
  have na1 : (s.heap.update kS (Obj.mapSeq fun _ => (#[] : Array Value))).get? a = some (seqObj "list" #[] e1) := ((Heap.SameBut.update s.heap kS (Obj.mapSeq fun _ => (#[] : Array Value))).2 a hka.symm).trans na
  unfold ksk_tail
  try dsimp only
  rw [if_neg (by decide), ho]
  refine wpAny_bind (listUpdate_at nk rfl ?_ hsz (Nat.zero_le _))
  refine wpAny_bind (wpAny_letGo ?_)
  refine wpAny_bind (seqEpoch_at na1 rfl ?_)
  refine wpAny_bind (listUpdate_at na1 rfl ?_ (Nat.zero_le _) (by rw [List.size_toArray]; exact Nat.le_succ_of_le hz))
  rw [hfl]
  simp only [bne_self_eq_false, Bool.false_eq_true, if_false]
  exact wpAny_pure h
theorem key_endN (nk : s.heap.get? kS = some (seqObj "list" keys e)) (na : s.heap.get? a = some (seqObj "list" #[] e1)) (hka : kS ≠ a) (S : SortsAt prog w A s κ keys.toList) (hsz : keys.size = vs.length) (hZ : vs.length ≤ sizeLine)
    (h : P (.done (.ret .none)) { s with heap := doneHeap s.heap kS a (sortVals κ false keys.toList vs) }) : wpAny (model prog w) A (ksk_end a false vs.toArray e1 (.ref kS) keys) P E s := by
  obtain ⟨kd, h1, h2⟩ := S.kind
  have hkl : keys.toList.length = vs.length := by rw [Array.length_toList]; exact hsz
  have hK : PyProof.Rows.KeysOf κ (keys.zip vs.toArray) := keysOf_zip S.keys
  have hol : (sortVals κ false keys.toList vs).length = vs.length := sortVals_length false hkl
  have hss : (keys.zip vs.toArray).size = vs.length := by rw [Array.size_zip, hsz, List.size_toArray, Nat.min_self]
  have fin : ∀ st' : SortSt, (arrOf st').Perm (keys.zip vs.toArray) → SortedToK κ (arrOf st') (keys.zip vs.toArray).size → Stable κ (arrOf st') (keys.zip vs.toArray) → (arrOf st').map (·.2) = (sortVals κ false keys.toList vs).toArray := by
    intro st' hp hs ht
    have q := congrArg List.toArray (sort_out (rev := false) (keys := keys) (items := vs.toArray) (xs := arrOf st') (κ := κ) hK hp hs ht)
    rw [Array.toArray_toList] at q
    exact q
  unfold ksk_end
  try dsimp only
  rw [if_neg (by decide)]
  by_cases hl2 : vs.toArray.size < 2
  · rw [if_pos hl2, if_pos hl2]
    refine wpAny_bind (wpAny_pure ?_)
    rw [StateT.run_pure]
    refine wpAny_bind (wpAny_pure ?_)
    try dsimp only
    refine key_tailN (st := SortSt.mk' general' (keys.zip vs.toArray) #[] 7 none) nk na hka (by rw [hsz]; exact hZ) (by rw [hol]; exact hZ) rfl (fin _ (Array.Perm.refl _) ?_ (Stable.refl _)) h
    intro i j hij hj
    rw [hss] at hj
    rw [List.size_toArray] at hl2
    have : i = j := by omega
    subst this
    exact KeyOrd.kle_refl _
  · rw [if_neg hl2, if_neg hl2]
    rw [List.size_toArray] at hl2
    refine wpAny_bind (h2 (by omega) _ ?_)
    refine wpAny_bind (wpAny_mono (H.wpS_sortRunsSt (κ := κ) (kd := kd) (a₀ := keys.zip vs.toArray) (st := SortSt.mk' kd (keys.zip vs.toArray) #[] 7 none)
      (Q := fun _ st' => failedOf st' = none ∧ (arrOf st').map (·.2) = (sortVals κ false keys.toList vs).toArray)
      h1 hK ⟨Array.Perm.refl _, rfl, rfl⟩ rfl (Stable.refl _) (by rw [hss]; omega) fun st' a1 a2 a3 a4 => ⟨a2, fin st' a1 a3 a4⟩) ?_ fun _ _ e => e)
    rintro ⟨⟨⟩, st'⟩ s' ⟨rfl, hf, ho⟩
    try dsimp only at ho ⊢
    exact key_tailN nk na hka (by rw [hsz]; exact hZ) (by rw [hol]; exact hZ) hf ho h
end
/-- just this object -/
abbrev exO (a : Addr) (o : Obj) : HO := .ext fun h => h.get? a = some o
theorem exO_ok {P : Program} {w : World} {H : Hp} {h : Heap} {a : Addr} {o : Obj} (e : h.get? a = some o) : ObjOk P w H h a (exO a o) := ⟨e, ⟨o, e⟩, fun _ _ x k => k _ x⟩

/-- the keys, one by one -/
def keysN (F : List D → M D) : List D → List D → Sto → Option (List D × Sto)
  | [], acc, S => some (acc, S)
  | x :: xs, acc, S => match F [x] S with
    | some (.val k S1) => keysN F xs (acc ++ [k]) S1
    | _ => none
def okKeys (ks : List D) : Bool := decide (ks.length ≤ 1000) && (ks.all fun d => ntD d && decide ((encD d).depth ≤ 16)) && (ks.all fullTup || ks.all fun d => !isTupD d) && ks.all fun x => ks.all fun y => alike (encD x) (encD y)
def sortBy (ks xs : List D) : List D := ((ks.zip xs).mergeSort fun p q => leD p.1 q.1).map (·.2)
def fSortKey (F : List D → M D) (la : FA) : FA := fun e => bnd (la e) fun xs S => match keysN F xs [] S with
  | some (ks, S1) => if okKeys ks = true ∧ xs.length ≤ 1000 then some (.val (sortBy ks xs) S1) else none
  | none => none
theorem keysN_len {F : List D → M D} : ∀ {xs acc ks : List D} {S S1 : Sto}, keysN F xs acc S = some (ks, S1) → ks.length = acc.length + xs.length
  | [], acc, ks, S, S1, h => by cases h; simp
  | x :: xs, acc, ks, S, S1, h => by
    unfold keysN at h
    split at h
    · have := keysN_len h
      simp at this ⊢
      omega
    · cases h
section
variable {G : Gl} {X : Cx} {pins : List (Addr × Obj)} {σ : L2.St} {H : Hp} {s : Shared} {ρ : List Addr} {S S1 : Sto} {CX : CXT} {k : Nat} {f l : Addr} {fd : FuncData} {ps : List Str} {Fd : List D → M D} {xs ks : List D} {ys : List V}
theorem each_vals {K : PySem.W.Frag} {P : Program} {w : World} {h : Heap} (ok : HOk P w H h) : ∀ {ds : List D} {vs : List V} {us : List Value}, RVs K ρ H ds vs → Vals vs us → (∀ d ∈ ds, ntD d = true) → EachIs (fun v d => ∃ as, Reads h v d as) us (ds.map encD)
  | [], _, _, r, q, _ => by cases r; cases q; exact .nil
  | d :: ds, _, _, r, q, hn => by
    cases r with | cons r rs =>
    cases q with | cons q qs =>
    exact .cons ⟨[], reads_of ok d _ _ r q (hn d List.mem_cons_self)⟩ (each_vals ok rs qs fun e he => hn e (List.mem_cons_of_mem _ he))
/-- keys, things, values side by side -/
def tri : List D → List D → List V → List (D × (D × V))
  | a :: as, b :: bs, c :: cs => (a, (b, c)) :: tri as bs cs
  | _, _, _ => []
theorem tri_key : ∀ {as bs : List D} {cs : List V}, as.length = bs.length → bs.length = cs.length → (tri as bs cs).map (fun b => encD b.1) = as.map encD
  | [], [], [], _, _ => rfl
  | a :: as, b :: bs, c :: cs, h1, h2 => by
    simp only [List.length_cons, Nat.add_right_cancel_iff] at h1 h2
    simp [tri, tri_key h1 h2]
theorem tri_zip : ∀ {as bs : List D} {cs : List V}, as.length = bs.length → bs.length = cs.length → (tri as bs cs).map (fun b => (b.1, b.2.1)) = as.zip bs
  | [], [], [], _, _ => rfl
  | a :: as, b :: bs, c :: cs, h1, h2 => by
    simp only [List.length_cons, Nat.add_right_cancel_iff] at h1 h2
    simp [tri, tri_zip h1 h2]
theorem tri_each {K : PySem.W.Frag} : ∀ {as bs : List D} {cs : List V} {us : List Value}, as.length = bs.length → RVs K ρ H bs cs → Vals cs us → EachIs (fun v (b : D × (D × V)) => RelV b.2.2 v ∧ RV K ρ H b.2.1 b.2.2) us (tri as bs cs)
  | [], [], _, _, _, r, q => by cases r; cases q; exact .nil
  | a :: as, b :: bs, _, _, h1, r, q => by
    cases r with | cons r rs =>
    cases q with | cons q qs =>
    simp only [List.length_cons, Nat.add_right_cancel_iff] at h1
    exact .cons ⟨q, r⟩ (tri_each h1 rs qs)
theorem each_back {K : PySem.W.Frag} : ∀ {us : List Value} {bs : List (D × (D × V))}, EachIs (fun v (b : D × (D × V)) => RelV b.2.2 v ∧ RV K ρ H b.2.1 b.2.2) us bs → Vals (bs.map (·.2.2)) us ∧ RVs K ρ H (bs.map (·.2.1)) (bs.map (·.2.2))
  | _, _, .nil => ⟨.nil, .nil⟩
  | _, _, .cons a t => by
    obtain ⟨h1, h2⟩ := each_back t
    exact ⟨.cons a.1 h1, .cons a.2 h2⟩
theorem sortKey_run {Q : Value → Shared → Prop} {EE : Value → Shared → Prop} (F : FnOk X.prog X.w X.K X.mg X.base CX k f fd ps (spOf G 1 Fd)) (hr : Room (k + 3) X.A) (hb : Binds X.K fd ps []) (hnx : ∀ outer H s e s', ¬ CX outer H s NoX e s')
    (I : L2.Inv X pins σ H s) (rep : Rep G ρ H S) (hl : SqL X.K H l ys) (rv : RVs G.K ρ H xs ys) (hk : keysN Fd xs [] S = some (ks, S1)) (ok : okKeys ks = true) (hxl : xs.length ≤ 1000)
    (h : ∀ ρ' H' a zs s', L2.Inv X pins σ H' s' → Step ρ H ρ' H' → Rep G ρ' H' S1 → H a = none → a ∉ ρ' → H' a = some (.lst zs) → RVs G.K ρ' H' (sortBy ks xs) zs → Q (.ref a) s') :
    wpAny (model X.prog X.w) X.A (call (.builtin "sorted") [.ref l] [(Str.ofString "key", .ref f)]) Q EE s := by
  obtain ⟨its, vv, pl, hz⟩ := I.list hl
  have hil : its.length = xs.length := by rw [← vv.length, ← rv.len]
  have hbig : (1000 : Nat) ≤ sizeLine := by decide
  have hzi : its.length ≤ sizeLine := by omega
  refine sorted_of_sort (vs := its) pl.isList hzi (ksk_s1 _ _) (fun x => ksk_l1 _ _) fun E' => ?_
  rw [ksk_t1]
  have haH : H (s.heap.objs.size + 1) = none := I.hok.fresh (Nat.le_succ _)
  have ho := copyHeap_at s.heap its
  have hold : ∀ b o, s.heap.get? b = some o → (copyHeap s.heap its).get? b = some o := fun b o e => copyHeap_old e
  have hns : s.heap.objs.size < s.heap.objs.size + 1 := Nat.lt_succ_self _
  have hne : ∀ b o, s.heap.get? b = some o → b ≠ s.heap.objs.size + 1 := fun b o e => Nat.ne_of_lt (Nat.lt_succ_of_lt (Heap.lt_size e))
  have hsz1 : s.heap.objs.size ≤ s.heap.objs.size + 1 := Nat.le_succ _
  generalize hc0 : copyHeap s.heap its = h0 at ho hold ⊢
  have hsz0 : s.heap.objs.size + 1 < h0.objs.size := Heap.lt_size ho
  generalize ha : s.heap.objs.size + 1 = a at ho haH hne hsz1 hsz0 ⊢
  obtain ⟨e1, ho1⟩ : ∃ e1, (h0.update a (Obj.mapSeq fun _ => (#[] : Array Value))).get? a = some (seqObj "list" #[] e1) := ⟨_, get?_update_seq ho fun _ => #[]⟩
  have keep1 : ∀ b o, s.heap.get? b = some o → (h0.update a (Obj.mapSeq fun _ => (#[] : Array Value))).get? b = some o := fun b o e => ((Heap.SameBut.update h0 a (Obj.mapSeq fun _ => (#[] : Array Value))).2 b (hne b o e)).trans (hold b o e)
  have hsz2 : (h0.update a (Obj.mapSeq fun _ => (#[] : Array Value))).objs.size = h0.objs.size := Heap.size_update ..
  generalize hh1 : h0.update a (Obj.mapSeq fun _ => (#[] : Array Value)) = h1 at ho1 keep1 hsz2
  have I1 : L2.Inv X pins σ (upd H a (exO a (seqObj "list" #[] e1))) { s with heap := h1 } := I.laid (t' := s.toks) keep1 hsz1 (exO_ok ho1)
  unfold ksk_tree
  refine wpAny_bind (listItems_at (s := { s with heap := h0 }) ho rfl ?_)
  refine wpAny_bind (listUpdate_at (s := { s with heap := h0 }) ho rfl ?_ (by rw [List.size_toArray]; exact hzi) (Nat.zero_le _))
  show wpAny _ _ _ _ _ { s with heap := h0.update a (Obj.mapSeq fun _ => (#[] : Array Value)) }
  rw [hh1]
  refine wpAny_bind (seqEpoch_at (s := { s with heap := h1 }) ho1 rfl ?_)
  refine wpAny_bind (wpAny_newTuple ?_ (by show its.length ≤ _; exact hzi))
  refine wpAny_bind (wpAny_newList ?_ (Nat.zero_le _))
  refine wpAny_holding ?_
  have I2 : L2.Inv X pins σ (upd H a (exO a (seqObj "list" #[] e1))) { s with heap := h1.push (seqObj "tuple" its.toArray 0) } := I1.kept (t' := s.toks) fun b o e => Heap.get?_push_of_some _ e
  have hkS := Heap.get?_push_size (h1.push (seqObj "tuple" its.toArray 0)) (o := seqObj "list" #[] 0) rfl
  have I3 : L2.Inv X pins σ (upd (upd H a (exO a (seqObj "list" #[] e1))) (h1.push (seqObj "tuple" its.toArray 0)).objs.size (exO (h1.push (seqObj "tuple" its.toArray 0)).objs.size (seqObj "list" #[] 0))) { s with heap := (h1.push (seqObj "tuple" its.toArray 0)).push (seqObj "list" #[] 0) } :=
    I2.laid (t' := s.toks) (fun b o e => Heap.get?_push_of_some _ e) (Nat.le_refl _) (exO_ok hkS)
  have hkz : (h1.push (seqObj "tuple" its.toArray 0)).objs.size = h0.objs.size + 1 := by rw [size_push', hsz2]
  show wpAny _ _ (ksk_rest a (.ref f) false its.toArray e1 (.ref (h1.push (seqObj "tuple" its.toArray 0)).objs.size)) _ _ { s with heap := (h1.push (seqObj "tuple" its.toArray 0)).push (seqObj "list" #[] 0) }
  generalize hkk : (h1.push (seqObj "tuple" its.toArray 0)).objs.size = kS at I3 hkS hkz ⊢
  generalize (h1.push (seqObj "tuple" its.toArray 0)).push (seqObj "list" #[] 0) = h3 at I3 hkS ⊢
  have hka : kS ≠ a := by omega
  have hkH : H kS = none := I.hok.fresh (by omega)
  have naρ : a ∉ ρ := fun hm => by obtain ⟨u, hu, _⟩ := rep.mem hm; rw [haH] at hu; cases hu
  have nkρ : kS ∉ ρ := fun hm => by obtain ⟨u, hu, _⟩ := rep.mem hm; rw [hkH] at hu; cases hu
  have hkH1 : upd H a (exO a (seqObj "list" #[] e1)) kS = none := by rw [upd_ne hka]; exact hkH
  have st0 : Step ρ H ρ (upd (upd H a (exO a (seqObj "list" #[] e1))) kS (exO kS (seqObj "list" #[] 0))) := (Step.new haH).trans (Step.new hkH1)
  have rep0 : Rep G ρ (upd (upd H a (exO a (seqObj "list" #[] e1))) kS (exO kS (seqObj "list" #[] 0))) S := (rep.new haH).new hkH1
  unfold ksk_rest
  refine wpAny_bind (wpAny_rule ?_)
  first
    | rw [List.forIn_toArray]
    | (rw [← Array.forIn_toList]; simp only [List.toList_toArray])
    | rw [← Array.forIn_toList]
  refine wpAny_bind (ksk_fold (fun i s' => ∃ ρ1 H1 S' acc zs kA e, L2.Inv X pins σ H1 s' ∧ Step ρ H ρ1 H1 ∧ Rep G ρ1 H1 S' ∧ a ∉ ρ1 ∧ kS ∉ ρ1 ∧ H1 a = some (exO a (seqObj "list" #[] e1)) ∧ H1 kS = some (exO kS (seqObj "list" kA e)) ∧ Vals zs kA.toList ∧ RVs G.K ρ1 H1 acc zs ∧ keysN Fd (xs.drop i) acc S' = some (ks, S1) ∧ acc.length = i) its 0 { s with heap := h3 }
    ⟨ρ, _, S, [], [], #[], 0, I3, st0, rep0, naρ, nkρ, by rw [upd_ne (Ne.symm hka)]; exact upd_same, upd_same, .nil, .nil, hk, rfl⟩ ?step ?done)
  case step =>
    rintro j v s' hx ⟨ρ1, H1, S', acc, zs, kA, e, I', st', rep', na', nk', hHa, hHk, vz, rz, hkn, hal⟩
    simp only [Nat.zero_add] at hkn hal ⊢
    have hj : j < xs.length := by rw [← hil]; exact (List.getElem?_eq_some_iff.mp hx).1
    obtain ⟨y, hy, rd⟩ := rv.get (List.getElem?_eq_getElem hj)
    obtain ⟨v', hv', ry⟩ := vv.get hy
    obtain rfl : v = v' := Option.some.inj (hx.symm.trans hv')
    have hd : xs[j]? = some xs[j] := List.getElem?_eq_getElem hj
    generalize xs[j] = d at rd hd
    have hdr : xs.drop j = d :: xs.drop (j + 1) := by
      rw [List.drop_eq_getElem_cons hj]
      rw [(List.getElem?_eq_some_iff.mp hd).2]
    rw [hdr] at hkn
    unfold keysN at hkn
    split at hkn
    · rename_i kd S2 hF
      have env := (I'.env0).in1.in1
      have hroom : Room k X.A.in1.in1 := (hr.mono (Nat.le_succ _)).in1.in1
      refine wpAny_bind (wpAny_attempt (wpAny_call (codeAny_mono (F.run X.A.in1.in1 X.stack s' H1 ⟨[v], []⟩ [v] [y] (fun z H2 => ∃ ρ2, Step ρ1 H1 ρ2 H2 ∧ Rep G ρ2 H2 S2 ∧ RV G.K ρ2 H2 kd z) NoX hroom env ?bnd ?vls ?sp) fun r s'' hq => ?fin)))
      case bnd =>
        have := hb s' [v] I'.kIn (by rw [List.append_nil]; have := F.len [y] H1 (fun _ _ => True) NoX ⟨ρ1, S', [d], _, rep', .cons (rd.mono st') .nil, rfl, hF, fun _ _ _ _ _ _ => trivial⟩; simpa using this)
        rwa [List.append_nil] at this
      case vls => exact .cons ry .nil
      case sp => exact ⟨ρ1, S', [d], _, rep', .cons (rd.mono st') .nil, rfl, hF, fun ρ' H' b st rp rb => ⟨ρ', st, rp, rb⟩⟩
      case fin =>
        cases r with
        | error e => exact absurd hq (hnx _ _ _ _ _)
        | ok fl =>
          cases fl with
          | ret u =>
            obtain ⟨z, H2, I2', rz2, ρ2, st2, rep2, rk2⟩ := I'.after hq
            obtain ⟨na2, hHa2⟩ := st2.stays na' hHa
            obtain ⟨nk2, hHk2⟩ := st2.stays nk' hHk
            have nkg : s''.heap.get? kS = some (seqObj "list" kA e) := (I2'.hok kS _ hHk2).1
            have hkl : kA.size = j := by
              have h1 := vz.length
              have h2 := rz.len
              have h3 : kA.toList.length = kA.size := Array.length_toList
              omega
            have sb := Heap.SameBut.update s''.heap kS (Obj.mapSeq (·.push u))
            obtain ⟨c2, hc2⟩ : ∃ c2, (s''.heap.update kS (Obj.mapSeq (·.push u))).get? kS = some (seqObj "list" (kA.push u) c2) := ⟨_, get?_update_seq nkg (·.push u)⟩
            try dsimp only
            refine wpAny_bind (listUpdate_at nkg rfl ?_ (by omega) (by rw [Array.size_push]; omega))
            have I3' : L2.Inv X pins σ (upd H2 kS (exO kS (seqObj "list" (kA.push u) c2))) { s'' with heap := s''.heap.update kS (Obj.mapSeq (·.push u)) } :=
              d_write (t' := s''.toks) I2' (by rw [hHk2]; exact True.intro) sb ⟨_, hc2⟩ (exO_ok hc2)
            refine wpAny_pure ⟨rfl, ρ2, _, S2, acc ++ [kd], zs ++ [z], kA.push u, c2, I3', (st'.trans st2).chg hkH, rep2.chg nk2 hHk2 id, na2, nk2, by rw [upd_ne (Ne.symm hka)]; exact hHa2, upd_same, ?_, ?_, hkn, by simp [hal]⟩
            · rw [Array.toList_push]
              exact vz.append (.cons rz2 .nil)
            · exact ((rz.mono st2).append (.cons rk2 .nil)).ext (Ext.chg hHk2 id)
          | _ => exact hq.elim
    · cases hkn
  case done =>
    rintro s' ⟨ρ1, H1, S', acc, zs, kA, e, I', st', rep', na', nk', hHa, hHk, vz, rz, hkn, hal⟩
    simp only [Nat.zero_add] at hkn hal
    rw [hil, List.drop_length] at hkn
    cases hkn
    have nkg : s'.heap.get? kS = some (seqObj "list" kA e) := (I'.hok kS _ hHk).1
    have nag : s'.heap.get? a = some (seqObj "list" #[] e1) := (I'.hok a _ hHa).1
    simp only [okKeys, Bool.and_eq_true, List.all_eq_true, Bool.or_eq_true, decide_eq_true_eq] at ok
    obtain ⟨⟨⟨k1, k2⟩, k3⟩, k4⟩ := ok
    have hsz : kA.size = its.length := by
      have h1 := vz.length
      have h2 := rz.len
      have h3 : kA.toList.length = kA.size := Array.length_toList
      omega
    have hks : ks.length = xs.length := by rw [hal, hil]
    try dsimp only
    refine wpAny_bind (listItems_at nkg rfl ?_)
    have hal2 : AllAlike (ks.map encD) := fun d hd d' hd' => by
      obtain ⟨b, hb, rfl⟩ := List.mem_map.mp hd
      obtain ⟨b', hb', rfl⟩ := List.mem_map.mp hd'
      exact k4 b hb b' hb'
    have hsk : PySem.W.Sortable (ks.map encD) := by
      rcases k3 with k3 | k3
      · refine .inl fun d hd => ?_
        obtain ⟨b, hb, rfl⟩ := List.mem_map.mp hd
        have := k3 b hb
        cases b with
        | tup zs => cases zs with
          | nil => cases this
          | cons z zs => exact ⟨encD z, encDs zs, rfl⟩
        | _ => cases this
      · refine .inr fun d hd => ?_
        obtain ⟨b, hb, rfl⟩ := List.mem_map.mp hd
        have h1 := k3 b hb
        have h2 := (k2 b hb).1
        cases b with
        | int i => exact ⟨(fun z => nomatch z), (fun xs z => nomatch z)⟩
        | tup zs => cases h1
        | _ => cases h2
    have er := each_vals I'.hok rz vz fun d hd => (k2 d hd).1
    refine key_endN (κ := dataKind s'.heap (ks.map encD)) nkg nag hka (SortsAt.data er hal2 hsk fun d hd => ?_) hsz hzi ⟨rfl, ?_⟩
    · obtain ⟨b, hb, rfl⟩ := List.mem_map.mp hd
      have h1 := (k2 b hb).2
      have h2 := hr.un
      show X.A.units + 1 + 1 + (encD b).depth < cLine
      omega
    · have rv1 := rv.mono st'
      have hlen : xs.length = ys.length := rv.len.symm
      have eT := tri_each hks rv1 vv
      have ko : KeyedOut false ((tri ks xs ys).map fun b => encD b.1) its (sortVals (dataKind s'.heap (ks.map encD)) false kA.toList its) := by
        rw [tri_key hks hlen]
        exact ⟨s'.heap, kA.toList, hal2, rfl, er⟩
      have eo := keyedOut_each (fun b : D × (D × V) => encD b.1) ko eT
      obtain ⟨vo, ro⟩ := each_back eo
      have esort : ((tri ks xs ys).mergeSort (dataLe false fun b : D × (D × V) => encD b.1)).map (·.2.1) = sortBy ks xs := by
        unfold sortBy
        rw [← tri_zip hks hlen, ← map_mergeSort (le := fun p q : D × D => leD p.1 q.1) (fun b : D × (D × V) => (b.1, b.2.1)) ⟨fun a b c => leD_total.trans _ _ _, fun a b => leD_total.total _ _⟩, List.map_map]
        rfl
      rw [esort] at ro
      have hol : (sortVals (dataKind s'.heap (ks.map encD)) false kA.toList its).length = its.length := sortVals_length false (by rw [Array.length_toList]; exact hsz)
      generalize sortVals (dataKind s'.heap (ks.map encD)) false kA.toList its = out at vo hol ⊢
      have sb1 := Heap.SameBut.update s'.heap kS (Obj.mapSeq fun _ => (#[] : Array Value))
      obtain ⟨c2, hc2⟩ : ∃ c2, (s'.heap.update kS (Obj.mapSeq fun _ => (#[] : Array Value))).get? kS = some (seqObj "list" #[] c2) := ⟨_, get?_update_seq nkg fun _ => #[]⟩
      have J1 : L2.Inv X pins σ (upd H1 kS (exO kS (seqObj "list" #[] c2))) { s' with heap := s'.heap.update kS (Obj.mapSeq fun _ => (#[] : Array Value)) } := d_write (t' := s'.toks) I' (by rw [hHk]; exact True.intro) sb1 ⟨_, hc2⟩ (exO_ok hc2)
      have nag1 : (s'.heap.update kS (Obj.mapSeq fun _ => (#[] : Array Value))).get? a = some (seqObj "list" #[] e1) := (sb1.2 a hka.symm).trans nag
      have sb2 := Heap.SameBut.update (s'.heap.update kS (Obj.mapSeq fun _ => (#[] : Array Value))) a (Obj.mapSeq fun _ => out.toArray)
      obtain ⟨c3, hc3⟩ : ∃ c3, (doneHeap s'.heap kS a out).get? a = some (seqObj "list" out.toArray c3) := ⟨_, get?_update_seq nag1 fun _ => out.toArray⟩
      have hHa1 : upd H1 kS (exO kS (seqObj "list" #[] c2)) a = some (exO a (seqObj "list" #[] e1)) := by rw [upd_ne (Ne.symm hka)]; exact hHa
      generalize ((tri ks xs ys).mergeSort (dataLe false fun b : D × (D × V) => encD b.1)).map (·.2.2) = zo at vo ro
      have J2 : L2.Inv X pins σ (upd (upd H1 kS (exO kS (seqObj "list" #[] c2))) a (.lst zo)) { s' with heap := doneHeap s'.heap kS a out } :=
        d_write (s := { s' with heap := s'.heap.update kS (Obj.mapSeq fun _ => (#[] : Array Value)) }) (t' := s'.toks) J1 (by rw [hHa1]; exact True.intro) sb2 ⟨_, hc3⟩ ⟨by rw [vo.length, hol]; exact hzi, out, c3, vo, hc3⟩
      have e1' : Ext ρ1 H1 ρ1 (upd (upd H1 kS (exO kS (seqObj "list" #[] c2))) a (.lst zo)) := (Ext.chg hHk id).trans (Ext.chg hHa1 id)
      exact h ρ1 _ a zo _ J2 ((st'.chg hkH).chg haH) ((rep'.chg nk' hHk id).chg na' hHa1 id) haH na' upd_same (ro.ext e1')
end
/-! ### as rules of the layer -/
def cListDct : List D → M (List D)
  | [.obj n] => fun S => match S[n]? with
    | some (.dct kvs) => if kvs.length ≤ 1000 then some (.val (kvs.map (·.1)) S) else none
    | _ => none
  | _ => stuck
def rListDct (G : Gl) : List V → Hp → VK → Prop := fun vs H Q => ∃ ρ d kvs es ep xs, vs = [V.ref d] ∧ H d = some (dN d es ep) ∧ RDct G ρ H d kvs es xs ∧ kvs.length ≤ 1000 ∧ ∀ p zs, H p = none → RVs G.K ρ H (kvs.map (·.1)) zs → Q (.ref p) (upd H p (.lst zs))
section
variable {G : Gl} {X : Cx} {E : XK} {a : Expr} {la : FA} {CX : CXT} {k : Nat} {f : Addr} {fd : FuncData} {ps : List Str} {Fd : List D → M D} {x : Str} {p q pos pos2 : Pos}
theorem er_keys {K : PySem.W.Frag} {ρ : List Addr} {H : Hp} {kvs : List (D × D)} {xs : List (NestedKey × Addr × Value)} (r : ER K ρ H kvs xs) : RVs K ρ H (kvs.map (·.1)) (xs.map fun x => V.ref x.2.1) ∧ Vals (xs.map fun x => V.ref x.2.1) (xs.map fun x => Value.ref x.2.1) := by
  induction r with
  | nil => exact ⟨.nil, .nil⟩
  | cons hk hd rk rz ru _ ih => exact ⟨.cons rk ih.1, .cons rfl ih.2⟩
theorem cr_listDct (hc : X.calm = true) (hP : X.prog = G.P) (hw : X.w = G.w) : CallR X (.type "list") (rListDct G) := by
  intro pins s σ H vs us Q I r h
  obtain ⟨ρ, d, kvs, es, ep, xs, rfl, hd, rd, hl, q⟩ := h
  rw [Vals.ref1 r]
  have dd := rd.dict I hP hw hd
  obtain ⟨o, es', ep', ho, hx, hdt, he, _⟩ := dd
  obtain ⟨hrow, hv⟩ := er_keys rd.er
  have hz : xs.length ≤ sizeLine := by
    have h1 := rd.er.len
    have : (1000 : Nat) ≤ sizeLine := by decide
    omega
  refine PySem.W.kdl_call (kdl_raw rd.sys hx hdt) (I.ok.hd hc) ho (by have := size_of_entries he; omega) fun h' tk acc' c' kp e it => ?_
  have ea : acc'.toList = xs.map fun x => Value.ref x.2.1 := by
    have hl : acc'.toList.length = xs.length := by rw [Array.length_toList, it.1]; exact size_of_entries he
    apply List.ext_getElem?
    intro j
    rw [List.getElem?_map]
    cases hj : acc'.toList[j]? with
    | none =>
      have h1 := List.getElem?_eq_none_iff.mp hj
      rw [List.getElem?_eq_none (by omega)]
      rfl
    | some v =>
      obtain ⟨en, hen, hv⟩ := it.2 j v (by rw [← Array.getElem?_toList]; exact hj)
      have qe := entry_at he j
      rw [hen] at qe
      cases hb : xs[j]? with
      | none => rw [hb] at qe; exact nomatch (show some en = none from qe)
      | some b =>
        rw [hb] at qe
        have e2 : en = entryOfKey (nestedKind G.P G.w) b := Option.some.inj qe
        rw [hv, e2]
        rfl
  refine ⟨.ref s.heap.objs.size, _, I.laid (t' := tk) (o := .lst (xs.map fun x => V.ref x.2.1)) kp (Nat.le_refl _) ⟨by rw [List.length_map]; exact hz, acc'.toList, c', by rw [ea]; exact hv, by rw [Array.toArray_toList]; exact e⟩, rfl, q _ _ (I.hok.fresh (Nat.le_refl _)) hrow⟩
theorem cl_listDct : ClL G (rListDct G) cListDct := by
  intro E H0 ρ H S ds vs r Q rep rv h back p
  unfold cListDct at h
  split at h
  · rename_i n
    obtain ⟨v, rfl, rv1⟩ := rv.one_inv
    cases rv1 with | obj hn =>
    split at h
    · rename_i kvs hS
      split at h
      · rename_i hl
        obtain ⟨es, ep, xs, ha, rd⟩ := rep.dct hn hS
        exact ⟨ρ, _, kvs, es, ep, xs, rfl, ha, rd, hl, fun z zs hz rz => newL_at rep h p (back _) hz rz⟩
      · cases h
    · cases h
  · cases h
theorem dl_listDct (hc : X.calm = true) (hP : X.prog = G.P) (hw : X.w = G.w) (hg : L2.Gl X "list") (hm : X.mg "list" = none) (ha : DA G X E [a] la) (hs : starEach [a] X.env = (false, eval a X.env) :: starEach [] X.env) : DL G X E (.Call (.Name "list" p) [a] [] pos) (fCall cListDct la) :=
  dl_cl (pe_callTy (cr_listDct hc hP hw) hg hm PyProof.Rows.boot_list ha (by decide) (by decide) hs rfl) cl_listDct
def tSortK (G : Gl) (X : Cx) (f : Addr) (ks : List Str) : List V → List V → Hp → VK → Prop := fun vs zs H Q => ∀ (pins : List (Addr × Obj)) (s : Shared) (σ : L2.St) (us ws : List Value), L2.Inv X pins σ H s → Vals vs us → Vals zs ws → wpAny (model X.prog X.w) X.A (call (.builtin "sorted") us (ks.zip ws)) (EP X pins σ Q) X.xe s
theorem dl_sortKey (hK : X.K = G.K) (F : FnOk X.prog X.w X.K X.mg X.base CX k f fd ps (spOf G 1 Fd)) (hr : Room (k + 3) X.A) (hb : Binds X.K fd ps []) (hnx : ∀ outer H s e s', ¬ CX outer H s NoX e s')
    (hg : L2.Gl X "sorted") (hm : X.mg "sorted" = none) (hgf : L2.Gl X x) (hmf : X.mg x = some (.ref f)) (hd : (x == ("__debug__" : Str)) = false) (ha : DL G X E a la) (hs : starEach [a] X.env = (false, eval a X.env) :: starEach [] X.env) (hs2 : backTo pos (starEach [a] X.env) = (false, eval a X.env) :: backTo pos (starEach [] X.env)) (hs3 : (backTo pos (starEach [a] X.env)).any (·.1) = false) {kp : Pos} :
    DL G X E (.Call (.Name "sorted" p) [a] [⟨some (Str.ofString "key"), .Name x q, kp⟩] pos) (fSortKey Fd la) :=
  pe_imp (pe_callBK (r := tSortK G X f [Str.ofString "key"]) (fun pins s σ H vs zs us ws Q I r1 r2 h => h pins s σ us ws I r1 r2) hg hm PyProof.Rows.boot_sorted (pa_cons ha pa_nil hs) (pk_cons (pe_glob (v := .ref f) hgf hmf rfl hd) pk_nil) (by decide) (by decide) hs2 hs3 rfl rfl rfl) fun σ H Q ⟨ρ, S, e, r, rep, re, h, pq⟩ => bind_at rep re h pq fun ρ1 H1 S1 xs v st1 rep1 re1 rx h1 p1 => by
    obtain ⟨l, vs, rfl, h0, hn, hq, rv⟩ := rx
    intro pins s σ' us ws I r1 r2
    cases r1 with | cons r1 rr1 =>
    cases rr1
    cases r2 with | cons r2 rr2 =>
    cases rr2
    obtain rfl : _ = Value.ref l := r1
    obtain rfl : _ = Value.ref f := r2
    split at h1
    · rename_i ks S2 hk
      split at h1
      · rename_i hok
        cases h1
        refine sortKey_run F hr hb hnx I rep1 (SqL.of hq) rv hk hok.1 hok.2 fun ρ' H' z zs s' I' st rep' hz nz hHz rz => ⟨.ref z, H', I', rfl, ?_⟩
        exact p1 ρ' H' _ st rep' ⟨z, zs, rfl, st1.trk z hz, nz, hHz, rz⟩
      · cases h1
    · cases h1
end
end Mini
end

section
set_option Elab.async false
set_option linter.all false
set_option maxRecDepth 100000
set_option maxHeartbeats 4000000
namespace Mini
open PySem PySem.Spec PyProof.Rows L2

/-! ### l.append(x), l.extend([..]) -/
def isLst (S : Sto) : D → Bool
  | .obj n => match S[n]? with
    | some (.lst _) => true
    | _ => false
  | _ => false
def fApp (fo : FE) (g : FA) : FE := fun e => bnd (fo e) fun d S => if isLst S d = true then bnd (g e) (fun ds S => match d, ds with
  | .obj n, [y] => match S[n]? with
    | some (.lst xs) => if xs.length < lim then some (.val .non (S.set n (.lst (xs ++ [y])))) else none
    | _ => none
  | _, _ => none) S else none
def fExt (fo : FE) (g : FA) : FE := fun e => bnd (fo e) fun d S => if isLst S d = true then bnd (g e) (fun zs S => match d with
  | .obj n => match S[n]? with
    | some (.lst xs) => if xs.length + zs.length ≤ lim then some (.val .non (S.set n (.lst (xs ++ zs)))) else none
    | _ => none
  | _ => none) S else none
section
variable {G : Gl} {X : Cx} {E : XK} {o a : Expr} {fo fa : FE} {la : FA} {apos cpos : Pos} {ρ : List Addr} {H : Hp} {S : Sto}
theorem isLst_ty (rep : Rep G ρ H S) {d : D} {v : V} (r : RV G.K ρ H d v) (h : isLst S d = true) : tyV X.K "list" v H := by
  unfold isLst at h
  split at h
  · split at h
    · rename_i n xs hS
      cases r with | obj hn =>
      obtain ⟨vs, h1, _⟩ := rep.lst _ _ _ hn hS
      exact .inl ⟨rfl, vs, SqL.of h1⟩
    · cases h
  · cases h
theorem de_app (ho : DE G X E o fo) (ha : DA G X E [a] la) (hbase : attributeBase o "append" X.env (eval o X.env) = eval o X.env) (hline : (apos.endLine == cpos.line) = true) (hs : starEach [a] X.env = (false, eval a X.env) :: starEach [] X.env)
    (hfew : ((backTo cpos (starEach [a] X.env)).all (fun x => !x.1) && (backToKw cpos (keywordEach [] X.env)).all (fun x => x.1.isSome) && decide ([a].length + ([] : List Keyword).length + (if ([] : List Keyword).isEmpty then 0 else 1) < 30)) = true) :
    DE G X E (.Call (.Attribute o "append" apos) [a] [] cpos) (fApp fo la) :=
  pe_imp (pe_bm F.plainAttrs_list F.slot_list_append F.type_list_append mt_append ho ha hbase hfew hline hs rfl) fun σ H Q ⟨ρ, S, e, r, rep, re, h, p⟩ => bind_at rep re h p fun ρ1 H1 S1 d x st1 rep1 re1 rx h1 p1 => by
    split at h1
    · rename_i hl
      refine ⟨isLst_ty rep1 rx hl, bind_at rep1 re1 h1 p1 fun ρ2 H2 S2 ds vs st2 rep2 re2 rx2 h2 p2 => ?_⟩
      split at h2
      · rename_i n y
        split at h2
        · rename_i xs hS
          split at h2
          · rename_i hlen
            cases h2
            cases rx with | obj hn =>
            have hn2 := st2.get hn
            obtain ⟨ws, hw, rw'⟩ := rep2.lst _ _ _ hn2 hS
            obtain ⟨v, rfl, rv1⟩ := rx2.one_inv
            refine ⟨_, ws, v, rfl, rfl, hw, by rw [rw'.len]; exact Nat.lt_of_lt_of_le hlen (by decide), ?_⟩
            have st := Step.write (u := HO.lst (ws ++ [v])) hn2 hw id
            exact p2 ρ2 _ _ st (rep2.write hn2 hw id ⟨_, upd_same, (rw'.append (.cons rv1 .nil)).mono st⟩) .non
          · cases h2
        · cases h2
      · cases h2
    · cases h1
theorem de_ext (ho : DE G X E o fo) (ha : DL G X E a la) (hbase : attributeBase o "extend" X.env (eval o X.env) = eval o X.env) (hline : (apos.endLine == cpos.line) = true) (hs : starEach [a] X.env = (false, eval a X.env) :: starEach [] X.env)
    (hfew : ((backTo cpos (starEach [a] X.env)).all (fun x => !x.1) && (backToKw cpos (keywordEach [] X.env)).all (fun x => x.1.isSome) && decide ([a].length + ([] : List Keyword).length + (if ([] : List Keyword).isEmpty then 0 else 1) < 30)) = true) :
    DE G X E (.Call (.Attribute o "extend" apos) [a] [] cpos) (fExt fo la) :=
  pe_imp (pe_bm F.plainAttrs_list F.slot_list_extend F.type_list_extend mt_extend ho (da_l ha hs) hbase hfew hline hs rfl) fun σ H Q ⟨ρ, S, e, r, rep, re, h, p⟩ => bind_at rep re h p fun ρ1 H1 S1 d x st1 rep1 re1 rx h1 p1 => by
    split at h1
    · rename_i hl
      refine ⟨isLst_ty rep1 rx hl, bind_at rep1 re1 h1 p1 fun ρ2 H2 S2 ds vs st2 rep2 re2 rx2 h2 p2 => ?_⟩
      split at h2
      · rename_i n
        split at h2
        · rename_i xs hS
          split at h2
          · rename_i hlen
            cases h2
            cases rx with | obj hn =>
            have hn2 := st2.get hn
            obtain ⟨ws, hw, rw'⟩ := rep2.lst _ _ _ hn2 hS
            obtain ⟨v, rfl, q, zs, rfl, h0, nq, hq, rz⟩ := rx2
            refine ⟨_, q, ws, zs, rfl, rfl, hw, hq, by rw [rw'.len, rz.len]; exact lim_le hlen, ?_⟩
            have st := Step.write (u := HO.lst (ws ++ zs)) hn2 hw id
            exact p2 ρ2 _ _ st (rep2.write hn2 hw id ⟨_, upd_same, (rw'.append rz).mono st⟩) .non
          · cases h2
        · cases h2
      · cases h2
    · cases h1
end
end Mini
end

section
set_option Elab.async false
set_option linter.all false
set_option maxRecDepth 100000
set_option maxHeartbeats 4000000
namespace Mini
open PySem PySem.Spec PyProof.Rows L2

/-! ### where a text stands: its slots, its scope -/
structure At (X : Cx) (N : List Str) (sc raw : Scope) : Prop where
  hs : X.env.scope = sc
  hN : X.N = N
  nd : N.Nodup
  fn : ∀ x, raw.names.lookup x = some .cell → X.fn x = true
def visC (sc : Scope) (x : Str) : Bool := match sc.names.lookup x with
  | some .local => true
  | some .cell => true
  | some .free => true
  | _ => false
def locC (sc : Scope) (x : Str) : Bool := match sc.names.lookup x with
  | some .local => true
  | some .cell => true
  | _ => false
def glC (sc : Scope) (x : Str) : Bool := (match sc.names.lookup x with
  | some .globalImplicit => true
  | _ => false) && !(x == ("__debug__" : Str))
def varC (N : List Str) (sc : Scope) (i : Nat) (x : Str) : Bool := decide (N[i]? = some x) && visC sc x && !(x == ("__debug__" : Str)) && !(x == ("__classdict__" : Str))
def tgtC (N : List Str) (sc raw : Scope) (i : Nat) (x : Str) : Bool := decide (N[i]? = some x) && (decide (sc.names.lookup x = some .local) || (decide (sc.names.lookup x = some .cell) && decide (raw.names.lookup x = some .cell)))
def permU (js : List Nat) (us : List Value) : List Value := js.map fun j => us.getD j .none
/-- a def that is called with keywords alone -/
structure KwOk (P : Program) (w : World) (K : PySem.W.Frag) (mg : Str → Option Value) (base : Heap) (k : Nat) (x : Str) (sp : Sp) (ks : List Str) (js : List Nat) : Prop where
  ex : ∃ (f : Addr) (fd : FuncData) (ps : List Str), FnOk P w K mg base C8.CX0 k f fd ps sp ∧ mg x = some (.ref f) ∧ PySem.W.keepIn K (.ref f) = true ∧ ∀ (s : Shared) (ws : List Value), K.In s.heap → ws.length = ks.length → BindsTo s fd ⟨[], ks.zip ws⟩ (ps.zip (permU js ws))
/-- what the layer leans on, at a depth, with the tables of what is called -/
structure Fine (G : Gl) (fs : List (Str × Nat)) (ms : List (Str × Str × Nat)) (cs : List (Str × Nat)) (kt : List (Str × Nat × List Str × List Nat × Nat)) (Φ : Nat → List D → M D) (Ψ : Nat → List D → M D) (Γ : Nat → List D → M D) (k : Nat) (X : Cx) : Prop where
  P : X.prog = G.P
  w : X.w = G.w
  K : X.K = G.K
  calm : X.calm = true
  room : Room (k + 3) X.A
  att : AttOk G X
  fns : ∀ (i : Nat) (x : Str) (n : Nat), fs[i]? = some (x, n) → C8.Cal X.prog X.w X.K X.mg X.base k x (spOf G n (Φ i)) []
  mes : ∀ (i : Nat) (c m : Str) (n : Nat), ms[i]? = some (c, m, n) → ∃ C, G.cls c = some C ∧ C8.Met X.prog X.w X.K X.mg X.base k C m (spOf G n (Ψ i)) []
  cls : ∀ (i : Nat) (c : Str) (n : Nat), cs[i]? = some (c, n) → ∃ C, G.cls c = some C ∧ C8.Mak X.prog X.w X.K X.mg X.base k c C (spOf G n (Γ i)) []
  kwc : ∀ (i : Nat) (x : Str) (n : Nat) (ks : List Str) (js : List Nat) (j : Nat), kt[i]? = some (x, n, ks, js, j) → KwOk X.prog X.w X.K X.mg X.base k x (spOf G n (Φ j)) ks js
  free : ∀ x ∈ ["len", "tuple", "list", "int", "abs", "max", "min", "range", "any", "sorted", "set", "isinstance", "enumerate", "zip", "bool", "str"], X.mg (Str.ofString x) = none
  perm : X.mg "permutations" = some (.type "itertools.permutations")
section
variable {G : Gl} {X : Cx} {E : XK} {N : List Str} {sc raw : Scope} {fs : List (Str × Nat)} {ms : List (Str × Str × Nat)} {cs : List (Str × Nat)} {kt : List (Str × Nat × List Str × List Nat × Nat)} {Φ Ψ Γ : Nat → List D → M D} {k : Nat}
theorem At.blk (a : At X N sc raw) (s : Shared) (H : Hp) (scope : Scope) (C : Addr) (cl : List (Str × Addr)) (fp : List Addr) : At (X.blk s H scope (compEnvC scope cl C X.env) fp) N (relS scope sc) scope := by
  refine ⟨?_, a.hN, a.nd, fun x h => ?_⟩
  · rw [← a.hs]
    rfl
  · show (scope.names.lookup x == some .cell) = true
    rw [h]; rfl
theorem Fine.blk (f : Fine G fs ms cs kt Φ Ψ Γ k X) (s : Shared) (H : Hp) (scope : Scope) (e : Env) (fp : List Addr) : Fine G fs ms cs kt Φ Ψ Γ k (X.blk s H scope e fp) :=
  ⟨f.P, f.w, f.K, f.calm, f.room, f.att, f.fns, f.mes, f.cls, f.kwc, f.free, f.perm⟩
theorem Fine.un (f : Fine G fs ms cs kt Φ Ψ Γ k X) : X.A.units + 64 < cLine := by have := f.room.un; omega
theorem Fine.un20 (f : Fine G fs ms cs kt Φ Ψ Γ k X) : X.A.units + 20 < cLine := by have := f.room.un; omega
theorem Fine.un0 (f : Fine G fs ms cs kt Φ Ψ Γ k X) : X.A.units < cLine := by have := f.room.un; omega
variable (at_ : At X N sc raw)
include at_
theorem At.gl {x : Str} (h : glC sc x = true) : L2.Gl X x := by
  unfold L2.Gl Env.kindOf
  rw [at_.hs]
  unfold glC at h
  simp only [Bool.and_eq_true] at h
  have h1 := h.1
  split at h1
  · assumption
  · cases h1
theorem At.vis {x : Str} (h : visC sc x = true) : Vis X.env.scope x := by
  unfold Vis
  rw [at_.hs]
  unfold visC at h
  split at h
  · exact .inl (by assumption)
  · exact .inr (.inl (by assumption))
  · exact .inr (.inr (by assumption))
  · cases h
theorem de_v {i : Nat} {x : Str} {pos : Pos} (h : varC N sc i x = true) : DE G X E (.Name x pos) (eVar i) := by
  simp only [varC, Bool.and_eq_true, decide_eq_true_eq, Bool.not_eq_true'] at h
  exact de_var (by rw [at_.hN]; exact h.1.1.1) (at_.vis h.1.1.2) h.1.2 h.2
theorem dg_v {i : Nat} {x : Str} {pos : Pos} (h : tgtC N sc raw i x = true) : DG G X (.Name x pos) [i] (gVar i) := by
  simp only [tgtC, Bool.and_eq_true, Bool.or_eq_true, decide_eq_true_eq] at h
  have h1 : X.env.scope.names.lookup x = some .local ∨ (X.env.scope.names.lookup x = some .cell ∧ raw.names.lookup x = some .cell) := by rw [at_.hs]; exact h.2
  refine dg_name (by rw [at_.hN]; exact at_.nd) (by rw [at_.hN]; exact h.1) (h1.imp id And.left) ?_
  rcases h1 with h1 | h1
  · exact .inr h1
  · exact .inl (at_.fn x h1.2)
theorem At.blkOk {scope : Scope} {own : List (Str × Nat)} (h : blkC N sc scope own = true) : BlkOk X.N X.env.scope scope own := by
  rw [at_.hN, at_.hs]
  exact blkOk_by h
theorem At.nd' : X.N.Nodup := by rw [at_.hN]; exact at_.nd
theorem glC_db {sc : Scope} {x : Str} (h : glC sc x = true) : (x == ("__debug__" : Str)) = false := by
  simp only [glC, Bool.and_eq_true, Bool.not_eq_true'] at h
  exact h.2
end
/-! ### what is not reached -/
def sNone : FS := fun _ _ => none
def eNone : FE := fun _ _ => none
theorem ds_none {G : Gl} {X : Cx} {E : XK} {st : Stmt} : DS G X E st sNone := ⟨fun pins s σ H D I h => by
  obtain ⟨_, _, _, _, _, _, h, _⟩ := h
  cases h⟩
theorem de_none {G : Gl} {X : Cx} {E : XK} {e : Expr} : DE G X E e eNone := ⟨fun pins s σ H D I h => by
  obtain ⟨_, _, _, _, _, _, h, _⟩ := h
  cases h⟩
/-! ### operators joined -/
section
variable {X : Cx}
theorem op_or {f : Value → Value → Sem Value} {r1 r2 : R2} (h1 : OpR X f r1) (h2 : OpR X f r2) : OpR X f (fun x y H Q => r1 x y H Q ∨ r2 x y H Q) := by
  intro pins s σ H x y v u Q I rx ry h
  rcases h with h | h
  · exact h1 pins s σ H x y v u Q I rx ry h
  · exact h2 pins s σ H x y v u Q I rx ry h
end
/-! ### constants -/
section
variable {G : Gl} {X : Cx} {E : XK} {pos : Pos} {j : Nat}
theorem de_int {i : Int} : DE G X E (.Constant (.int i) j pos) (eC (.int i)) := de_c pe_int fun _ _ => .int i
theorem de_str {x : Str} : DE G X E (.Constant (.str x) j pos) (eC (.str x)) := de_c pe_str fun _ _ => .str x
theorem de_bool {b : Bool} : DE G X E (.Constant (.bool b) j pos) (eC (.bl b)) := de_c pe_bl fun _ _ => .bl b
theorem de_non : DE G X E (.Constant .none j pos) (eC .non) := de_c pe_non fun _ _ => .non
end
end Mini
end

section
set_option Elab.async false
set_option linter.all false
set_option maxRecDepth 100000
set_option maxHeartbeats 4000000
namespace Mini
open PySem PySem.Spec PyProof.Rows L2

/-! ### a comprehension that goes straight into a name -/
section
variable {G : Gl} {X : Cx} {E : XK} {tg iter elt kx vx : Expr} {ifs : List Expr} {scope : Scope} {own : List (Str × Nat)} {pos spos py : Pos} {fi : FI} {gg : FG} {ft : FB} {fe fk fv : FE} {is : List Nat} {i : Nat} {y : Str}
theorem lc_le {ows : List Nat} (his : ∀ j ∈ is, j ∈ ows) : ∀ (σ : L2.St) (H : Hp) (Q : VK), Lf G (rL G.K) E (fComp fi gg ft fe ows) σ H Q → tLc (Lf G (rI G) E fi) (LfG G is gg) (Lf G rB NoX ft) (Lf G (rD G.K) NoX fe) ows σ H Q :=
  fun σ H Q ⟨ρ, S, e, r, rep, re, h, p⟩ => bind_at rep re h p fun ρ1 H1 S1 it J st1 rep1 re1 rx h1 p1 => by
    intro D' hD
    refine ⟨fun i m H2 => ∃ ρ2 S2 acc vs, Step ρ1 H1 ρ2 H2 ∧ Rep G ρ2 H2 S2 ∧ D' ∉ ρ2 ∧ H2 D' = some (.lst vs) ∧ RVs G.K ρ2 H2 acc vs ∧ compN it gg ft fe (wipeE e ows) m i acc S2 = some r,
      ⟨lim + 1, ρ1, S1, [], [], (Step.new hD), rep1.new hD, fun hm => ?_, upd_same, .nil, h1⟩, ?_⟩
    · obtain ⟨u, hu, _⟩ := rep1.mem hm
      rw [hD] at hu; cases hu
    rintro i m H2 ⟨ρ2, S2, acc, vs, st2, rep2, nD, hD2, rv, h2⟩
    cases m with
    | zero => cases h2
    | succ n =>
      have okI := rx ρ2 H2 S2 i st2.ext rep2
      unfold compN at h2
      split at h2
      · cases h2
      · rename_i hit
        cases h2
        exact .inl ⟨okI.1 hit, p1 ρ2 H2 _ st2 rep2 ⟨D', vs, rfl, st1.trk D' hD, nD, hD2, rv⟩⟩
      · rename_i d hit
        obtain ⟨go, yl⟩ := okI.2 d hit
        split at h2
        · cases h2
        · rename_i e1 hgd
          refine .inr ⟨go, fun H' => ∃ ρ2 S2 acc vs, Step ρ1 H1 ρ2 H' ∧ Rep G ρ2 H' S2 ∧ D' ∉ ρ2 ∧ H' D' = some (.lst vs) ∧ RVs G.K ρ2 H' acc vs ∧ compN it gg ft fe (wipeE e ows) n (i + 1) acc S2 = some r, fun H' q => ⟨n, Nat.lt_succ_self n, q⟩, fun y H3 hy => ?_⟩
          obtain ⟨st3, rep3, rd⟩ := yl y H3 hy
          have re3 : RE G.K ρ2 H3 (wipeE e ows) (wipe σ ows) := ((re1.mono st2).mono st3).wipe _
          obtain ⟨nD3, hD3⟩ := st3.stays nD hD2
          refine ⟨ρ2, S2, _, d, e1, rep3, re3, rd, hgd, fun σ4 re4 w4 => ⟨by rw [w4 _ his]; exact wipe_idem _ _ fun _ m => m, ?_⟩⟩
          cases hft : ft e1 S2 with
          | none => rw [hft] at h2; cases h2
          | some q =>
            rw [hft] at h2
            refine ⟨ρ2, S2, e1, q, rep3, re4, hft, ?_⟩
            cases q with
            | exc c fs S3 => cases h2
            | val b S3 =>
              rintro ρ5 H5 b' st5 rep5 rfl
              obtain ⟨nD5, hD5⟩ := st5.stays nD3 hD3
              cases b with
              | false => exact ⟨ρ5, S3, acc, vs, (st2.trans st3).trans st5, rep5, nD5, hD5, (rv.mono st3).mono st5, h2⟩
              | true =>
                simp only at h2
                cases hfe : fe e1 S3 with
                | none => rw [hfe] at h2; cases h2
                | some q =>
                  rw [hfe] at h2
                  refine ⟨ρ5, S3, e1, q, rep5, re4.mono st5, hfe, ?_⟩
                  cases q with
                  | exc c fs S4 => cases h2
                  | val z S4 =>
                    intro ρ6 H6 zv st6 rep6 rz
                    obtain ⟨nD6, hD6⟩ := st6.stays nD5 hD5
                    simp only at h2
                    split at h2
                    · rename_i hl
                      have rv6 := ((rv.mono st3).mono st5).mono st6
                      refine ⟨vs, hD6, by rw [rv.len]; exact Nat.lt_of_lt_of_le hl (by decide), ρ6, S4, acc ++ [z], vs ++ [zv], (((st2.trans st3).trans st5).trans st6).chg hD, rep6.chg nD6 hD6 id, nD6, upd_same, ?_, h2⟩
                      exact (rv6.append (.cons rz .nil)).ext (Ext.chg hD6 id)
                    · cases h2
theorem new_le {la : FA} : ∀ (σ : L2.St) (H : Hp) (Q : VK), Lf G (rD G.K) E (fNew la) σ H Q → Lf G (rL G.K) E la σ H Q :=
  fun σ H Q ⟨ρ, S, e, r, rep, re, h, p⟩ => bind_at rep re h p fun ρ1 H1 S1 ds v st1 rep1 re1 rx h1 p1 => by
    obtain ⟨q, vs, rfl, h0, hn, hq, rv⟩ := rx
    cases h1
    refine p (ρ1 ++ [q]) H1 _ (st1.pushAt h0) (rep1.push hn ⟨vs, hq, rv.ext .push⟩) (.obj ?_)
    rw [← rep1.len]; simp
theorem dc_le (hP : X.prog = G.P) (hw : X.w = G.w) (hu : X.A.units + 20 < cLine) {ows : List Nat} (his : ∀ j ∈ is, j ∈ ows) : ∀ (σ : L2.St) (H : Hp) (Q : VK), Lf G (rD G.K) E (fCompD fi gg ft fk fv ows) σ H Q → tDcN X (Lf G (rI G) E fi) (LfG G is gg) (Lf G rB NoX ft) (Lf G (rD G.K) NoX fk) (Lf G (rD G.K) NoX fv) ows σ H Q :=
  fun σ H Q ⟨ρ, S, e, r, rep, re, h, p⟩ => bind_at rep re h p fun ρ1 H1 S1 it J st1 rep1 re1 rx h1 p1 => by
    intro D' hD hDs
    split at h1
    · rename_i kvsE SE hcmp
      cases h1
      refine ⟨fun i m H2 => ∃ ρ2 S2 acc es ep xs, Step ρ1 H1 ρ2 H2 ∧ Rep G ρ2 H2 S2 ∧ D' ∉ ρ2 ∧ H2 D' = some (dN D' es ep) ∧ RDct G ρ2 H2 D' acc es xs ∧ compDN it gg ft fk fv (wipeE e ows) m i acc S2 = some (.val kvsE SE),
        ⟨lim + 1, ρ1, S1, [], #[], 0, [], (Step.new hD), rep1.new hD, fun hm => ?_, upd_same, ⟨hDs, rfl, List.nodup_nil, .nil⟩, hcmp⟩, ?_⟩
      · obtain ⟨u, hu, _⟩ := rep1.mem hm
        rw [hD] at hu; cases hu
      rintro i m H2 ⟨ρ2, S2, acc, es, ep, xs, st2, rep2, nD, hD2, rd, h2⟩
      cases m with
      | zero => cases h2
      | succ n =>
        have okI := rx ρ2 H2 S2 i st2.ext rep2
        unfold compDN at h2
        split at h2
        · cases h2
        · rename_i hit
          cases h2
          refine .inl ⟨okI.1 hit, ?_⟩
          refine p1 (ρ2 ++ [D']) H2 _ (st2.pushAt hD) (rep2.push nD ⟨es, ep, xs, hD2, rd.ext .push⟩) (.obj ?_)
          rw [← rep2.len]; simp
        · rename_i d hit
          obtain ⟨go, yl⟩ := okI.2 d hit
          split at h2
          · cases h2
          · rename_i e1 hgd
            refine .inr ⟨go, fun H' => ∃ ρ2 S2 acc es ep xs, Step ρ1 H1 ρ2 H' ∧ Rep G ρ2 H' S2 ∧ D' ∉ ρ2 ∧ H' D' = some (dN D' es ep) ∧ RDct G ρ2 H' D' acc es xs ∧ compDN it gg ft fk fv (wipeE e ows) n (i + 1) acc S2 = some (.val kvsE SE), fun H' q => ⟨n, Nat.lt_succ_self n, q⟩, fun y H3 hy => ?_⟩
            obtain ⟨st3, rep3, rdd⟩ := yl y H3 hy
            have re3 : RE G.K ρ2 H3 (wipeE e ows) (wipe σ ows) := ((re1.mono st2).mono st3).wipe _
            obtain ⟨nD3, hD3⟩ := st3.stays nD hD2
            refine ⟨ρ2, S2, _, d, e1, rep3, re3, rdd, hgd, fun σ4 re4 w4 => ⟨by rw [w4 _ his]; exact wipe_idem _ _ fun _ m => m, ?_⟩⟩
            cases hft : ft e1 S2 with
            | none => rw [hft] at h2; cases h2
            | some q =>
              rw [hft] at h2
              refine ⟨ρ2, S2, e1, q, rep3, re4, hft, ?_⟩
              cases q with
              | exc c fs S3 => cases h2
              | val b S3 =>
                rintro ρ5 H5 b' st5 rep5 rfl
                obtain ⟨nD5, hD5⟩ := st5.stays nD3 hD3
                have rd5 := rd.ext (st3.trans st5).ext
                cases b with
                | false => exact ⟨ρ5, S3, acc, es, ep, xs, (st2.trans st3).trans st5, rep5, nD5, hD5, rd5, h2⟩
                | true =>
                  simp only at h2
                  cases hfk : fk e1 S3 with
                  | none => rw [hfk] at h2; cases h2
                  | some q =>
                    rw [hfk] at h2
                    refine ⟨ρ5, S3, e1, q, rep5, re4.mono st5, hfk, ?_⟩
                    cases q with
                    | exc c fs S4 => cases h2
                    | val kd S4 =>
                      intro ρ6 H6 kv st6 rep6 rk
                      obtain ⟨nD6, hD6⟩ := st6.stays nD5 hD5
                      cases kd with
                      | tup ds =>
                        simp only at h2
                        cases hfv : fv e1 S4 with
                        | none => rw [hfv] at h2; cases h2
                        | some q =>
                          rw [hfv] at h2
                          refine ⟨ρ6, S4, e1, q, rep6, (re4.mono st5).mono st6, hfv, ?_⟩
                          cases q with
                          | exc c fs S5 => cases h2
                          | val z S5 =>
                            intro ρ7 H7 zv st7 rep7 rz
                            obtain ⟨nD7, hD7⟩ := st7.stays nD6 hD6
                            have rd7 := (rd5.ext st6.ext).ext st7.ext
                            simp only at h2
                            split at h2
                            · rename_i k hk
                              split at h2
                              · rename_i hl
                                have rk7 := rk.mono st7
                                intro X' pins s' σ' u u2 Q' F hp' hw' hA' I' ru ru2 fin
                                have rk8 := rk7
                                cases rk7 with | tup hb rs =>
                                obtain rfl : u = Value.ref _ := ru
                                refine dct_set I' (hp'.trans hP) (hw'.trans hw) (by rw [hA']; exact hu) hD7 rd7 hl.2 hk hl.1 rk8 rz ru2 fun s8 es' ep' xs' I8 rd8 => fin s8 _ I8 ?_
                                exact ⟨ρ7, S5, _, es', ep', xs', ((((st2.trans st3).trans st5).trans st6).trans st7).chg hD, rep7.chg nD7 hD7 id, nD7, upd_same, rd8, h2⟩
                              · cases h2
                            · cases h2
                      | _ => cases h2
    · cases h1
theorem ps_setDcn {wi : TI} {g : TG} {tt : TT} {tk tv : TE} (hc : X.calm = true) (hN : X.N.Nodup) (hy : X.N[i]? = some y) (hyl : X.env.scope.names.lookup y = some .local)
    (hsw : swapsWith (.DictComp kx vx [⟨tg, iter, ifs, 0⟩] scope pos) (some (.Name y py)) spos.line X.env = pure true) (hi : PI X tg iter wi) (ok : BlkOk X.N X.env.scope scope own)
    (hg : ∀ (s : Shared) (H : Hp) (C : Addr) (cl : List (Str × Addr)) (fp : List Addr), PG (X.blk s H scope (compEnvC scope cl C X.env) fp) tg g) (ht : ∀ (s : Shared) (H : Hp) (C : Addr) (cl : List (Str × Addr)) (fp : List Addr), PTs (X.blk s H scope (compEnvC scope cl C X.env) fp) ifs tt)
    (hk : ∀ (s : Shared) (H : Hp) (C : Addr) (cl : List (Str × Addr)) (fp : List Addr), PE (X.blk s H scope (compEnvC scope cl C X.env) fp) kx tk)
    (he : ∀ (s : Shared) (H : Hp) (C : Addr) (cl : List (Str × Addr)) (fp : List Addr), PE (X.blk s H scope (compEnvC scope cl C X.env) fp) vx tv) (hs : ∀ x, foldedSetIterable iter X.env x = pure x) :
    PS X (.Assign [.Name y py] (.DictComp kx vx [⟨tg, iter, ifs, 0⟩] scope pos) spos) (tAsg (tDcN X wi g tt tk tv (own.map (·.2))) (gName i)) := by
  refine ⟨fun pins s σ H D I h => ?_⟩
  rw [exec_Assign_Name_used _ _ _ _ hsw]
  refine wpAny_bind (wpAny_standAt (wpAny_bind ?_))
  show wpAny _ X.A (do let _ ← comprehension (.DictComp kx vx [⟨tg, iter, ifs, 0⟩] scope pos) scope X.env (firstIterPos [⟨tg, iter, ifs, 0⟩] pos) newDict false (eval iter X.env) (some (assign (.Name y py) X.env))) _ _ s
  have h : tDcN X wi g tt tk tv (own.map (·.2)) σ H (fun x H1 => gName i x σ H1 D.nx) := h
  refine wpAny_bind (thn (dcn_core (Qf := fun _ s' => SP X pins D .next s') hc hN I hi ok hg ht hk he hs h fun L C s' m H' I' q hn f => ?_) fun _ s' hq => wpAny_pure (wpAny_pure hq))
  show wpAny _ _ (assign (.Name y py) X.env (.ref L)) _ _ _
  refine wpAny_assign_Name (store_ok2 (v := V.ref L) I' hN hy (.inl hyl) rfl (fun s2 I2 ⟨a, sb, ha⟩ => ?_) (.inr hyl))
  obtain ⟨f0, f1, f2, f3, f4, f5⟩ := f
  have haC : C ≠ a := by
    rcases ha with z | z
    · rw [z]; exact f1
    · exact fun e => f4 y a z e.symm
  refine ⟨m, hn.sameBut sb haC, fun h3 sb3 => ?_⟩
  exact ⟨_, H', I2.turned (t' := s2.toks) (fun b o hb e => (sb3.2 b hb).trans e) f0 f1 f3 f4 f5, q⟩
end
/-- the look at such a store -/
def swC (sc scope : Scope) (y : Str) (py pos : Pos) : Bool := decide (sc.kind = .function) && decide (sc.names.lookup y = some .local) && (py.line == pos.line) && !(scope.names.any fun (n, k) => n == y && (k == .local || k == .cell))
def noSwC (sc scope : Scope) (y : Str) (py pos : Pos) : Bool := !(decide (sc.names.lookup y = some .local) && (py.line == pos.line) && !(scope.names.any fun (n, k) => n == y && (k == .local || k == .cell)))
section
variable {G : Gl} {X : Cx} {E : XK} {N : List Str} {sc raw : Scope} {scope : Scope} {y : Str} {py pos : Pos} {elt kx vx : Expr} {gs : List Comprehension} {l : Nat}
theorem swL (at_ : At X N sc raw) (h : swC sc scope y py pos = true) : swapsWith (.ListComp elt gs scope pos) (some (.Name y py)) l X.env = pure true := by
  simp only [swC, Bool.and_eq_true, decide_eq_true_eq, Bool.not_eq_true'] at h
  have ky : X.env.kindOf y = some .local := by unfold Env.kindOf; rw [at_.hs]; exact h.1.1.2
  have hb : X.env.blockKind = .function := by unfold Env.blockKind; rw [at_.hs, h.1.1.1]; rfl
  unfold swapsWith
  simp only [hb, ky, h.2, Expr.pos, h.1.2]
  rfl
theorem swD (at_ : At X N sc raw) (h : swC sc scope y py pos = true) : swapsWith (.DictComp kx vx gs scope pos) (some (.Name y py)) l X.env = pure true := by
  simp only [swC, Bool.and_eq_true, decide_eq_true_eq, Bool.not_eq_true'] at h
  have ky : X.env.kindOf y = some .local := by unfold Env.kindOf; rw [at_.hs]; exact h.1.1.2
  have hb : X.env.blockKind = .function := by unfold Env.blockKind; rw [at_.hs, h.1.1.1]; rfl
  unfold swapsWith
  simp only [hb, ky, h.2, Expr.pos, h.1.2]
  rfl
theorem noSwL (at_ : At X N sc raw) (h : noSwC sc scope y py pos = true) : swapsWithSole [.Name y py] (.ListComp elt gs scope pos) l X.env = pure false := by
  show swapsWith (.ListComp elt gs scope pos) (some (.Name y py)) l X.env = pure false
  unfold swapsWith
  simp only [Expr.pos]
  have e : (X.env.kindOf y == some .local) = decide (sc.names.lookup y = some .local) := by
    unfold Env.kindOf
    rw [at_.hs]
    cases sc.names.lookup y with
    | none => rfl
    | some k => cases k <;> rfl
  have h2 : (decide (sc.names.lookup y = some .local) && (py.line == pos.line) && !(scope.names.any fun (n, k) => n == y && (k == .local || k == .cell))) = false := by
    unfold noSwC at h
    simpa only [Bool.not_eq_true'] using h
  show (pure (X.env.blockKind == ScopeKind.function && X.env.kindOf y == some .local && py.line == pos.line && !(scope.names.any fun (n, k) => n == y && (k == .local || k == .cell))) : Sem Bool) = pure false
  rw [e, Bool.and_assoc, Bool.and_assoc, ← Bool.and_assoc (decide _), h2, Bool.and_false]
end
end Mini
end

section
set_option Elab.async false
set_option linter.all false
set_option maxRecDepth 100000
set_option maxHeartbeats 4000000
namespace Mini
open PySem PySem.Spec PyProof.Rows L2

/-! ### calls, by names -/
section
variable {G : Gl} {X : Cx} {E : XK} {N : List Str} {sc raw : Scope} {fs : List (Str × Nat)} {ms : List (Str × Str × Nat)} {cs : List (Str × Nat)} {kt : List (Str × Nat × List Str × List Nat × Nat)} {Φ Ψ Γ : Nat → List D → M D} {k : Nat} {a b o a1 b1 : Expr} {es : List Expr} {la lb : FA} {fa fo : FE} {p q pos pt apos cpos : Pos} {x : Str}
variable (at_ : At X N sc raw) (fx : Fine G fs ms cs kt Φ Ψ Γ k X)
include at_ fx
theorem bi_len (h : glC sc "len" = true) (ha : DA G X E [a] la) (hs : starEach [a] X.env = (false, eval a X.env) :: starEach [] X.env) : DE G X E (.Call (.Name "len" p) [a] [] pos) (fCall cLen la) :=
  de_cl (pe_callB call_len_seq (at_.gl h) (fx.free "len" (by decide)) boot_len ha (by decide) (by decide) hs rfl) (cl_len fx.K)
theorem bi_tup (h : glC sc "tuple" = true) (ha : DA G X E [a] la) (hs : starEach [a] X.env = (false, eval a X.env) :: starEach [] X.env) : DE G X E (.Call (.Name "tuple" p) [a] [] pos) (fCall cTup la) :=
  de_cl (pe_callTy call_tuple_of (at_.gl h) (fx.free "tuple" (by decide)) PyProof.Rows.boot_tuple ha (by decide) (by decide) hs rfl) (cl_tup fx.K)
theorem bi_tupN (h : glC sc "tuple" = true) (ha : DL G X E a la) (hs : starEach [a] X.env = (false, eval a X.env) :: starEach [] X.env) : DE G X E (.Call (.Name "tuple" p) [a] [] pos) (fCall cTupN la) :=
  de_cn (pe_callTy call_tuple_of (at_.gl h) (fx.free "tuple" (by decide)) PyProof.Rows.boot_tuple (da_l ha hs) (by decide) (by decide) hs rfl) cl_tupN
theorem bi_list (h : glC sc "list" = true) (ha : DA G X E [a] la) (hs : starEach [a] X.env = (false, eval a X.env) :: starEach [] X.env) : DL G X E (.Call (.Name "list" p) [a] [] pos) (fCall cList la) :=
  dl_cl (pe_callTy call_list_of (at_.gl h) (fx.free "list" (by decide)) PyProof.Rows.boot_list ha (by decide) (by decide) hs rfl) (cl_list fx.K)
theorem bi_listD (h : glC sc "list" = true) (ha : DA G X E [a] la) (hs : starEach [a] X.env = (false, eval a X.env) :: starEach [] X.env) : DL G X E (.Call (.Name "list" p) [a] [] pos) (fCall cListDct la) :=
  dl_listDct fx.calm fx.P fx.w (at_.gl h) (fx.free "list" (by decide)) ha hs
theorem bi_int (h : glC sc "int" = true) (ha : DA G X E [a] la) (hs : starEach [a] X.env = (false, eval a X.env) :: starEach [] X.env) : DE G X E (.Call (.Name "int" p) [a] [] pos) (fCall cInt la) :=
  de_cl (pe_callTy call_int1 (at_.gl h) (fx.free "int" (by decide)) PyProof.Rows.boot_int ha (by decide) (by decide) hs rfl) cl_int
theorem bi_abs (h : glC sc "abs" = true) (ha : DA G X E [a] la) (hs : starEach [a] X.env = (false, eval a X.env) :: starEach [] X.env) : DE G X E (.Call (.Name "abs" p) [a] [] pos) (fCall cAbs la) :=
  de_cl (pe_callB call_abs (at_.gl h) (fx.free "abs" (by decide)) PyProof.Rows.boot_abs ha (by decide) (by decide) hs rfl) cl_abs
theorem bi_max2 (h : glC sc "max" = true) (ha : DA G X E [a, b] la) (hs : starEach [a, b] X.env = (false, eval a X.env) :: starEach [b] X.env) (hp : (backTo pos (starEach [b] X.env)).any (·.1) = false) : DE G X E (.Call (.Name "max" p) [a, b] [] pos) (fCall cMax2 la) :=
  de_cl (pe_callB (call_max2 fx.calm) (at_.gl h) (fx.free "max" (by decide)) PyProof.Rows.boot_max ha (by decide) (by decide) hs hp) cl_max2
theorem bi_min2 (h : glC sc "min" = true) (ha : DA G X E [a, b] la) (hs : starEach [a, b] X.env = (false, eval a X.env) :: starEach [b] X.env) (hp : (backTo pos (starEach [b] X.env)).any (·.1) = false) : DE G X E (.Call (.Name "min" p) [a, b] [] pos) (fCall cMin2 la) :=
  de_cl (pe_callB (call_min2 fx.calm) (at_.gl h) (fx.free "min" (by decide)) PyProof.Rows.boot_min ha (by decide) (by decide) hs hp) cl_min2
theorem bi_range1 (h : glC sc "range" = true) (ha : DA G X E [a] la) (hs : starEach [a] X.env = (false, eval a X.env) :: starEach [] X.env) : DE G X E (.Call (.Name "range" p) [a] [] pos) (fCall cRange1 la) :=
  de_cl (pe_callTy cr_range1 (at_.gl h) (fx.free "range" (by decide)) PyProof.Rows.boot_range ha (by decide) (by decide) hs rfl) cl_range1
theorem bi_range2 (h : glC sc "range" = true) (ha : DA G X E [a, b] la) (hs : starEach [a, b] X.env = (false, eval a X.env) :: starEach [b] X.env) (hp : (backTo pos (starEach [b] X.env)).any (·.1) = false) : DE G X E (.Call (.Name "range" p) [a, b] [] pos) (fCall cRange2 la) :=
  de_cl (pe_callTy cr_range2 (at_.gl h) (fx.free "range" (by decide)) PyProof.Rows.boot_range ha (by decide) (by decide) hs hp) cl_range2
theorem bi_any (h : glC sc "any" = true) (ha : DL G X E a la) (hs : starEach [a] X.env = (false, eval a X.env) :: starEach [] X.env) : DE G X E (.Call (.Name "any" p) [a] [] pos) (fCall cAnyN la) :=
  de_cn (pe_callB (cr_any fx.calm) (at_.gl h) (fx.free "any" (by decide)) PyProof.Rows.boot_any (da_l ha hs) (by decide) (by decide) hs rfl) cl_anyN
theorem bi_sortSet (h : glC sc "sorted" = true) (h2 : glC sc "set" = true) (ha : DL G X E a la) (hs : starEach [a] X.env = (false, eval a X.env) :: starEach [] X.env) : DL G X E (.Call (.Name "sorted" p) [.Call (.Name "set" q) [a] [] pt] [] pos) (fSortSet la) :=
  dl_sortSet fx.K fx.calm fx.un (at_.gl h) (fx.free "sorted" (by decide)) (at_.gl h2) (fx.free "set" (by decide)) ha hs
theorem bi_sortKey (i : Nat) {n : Nat} (hi : fs[i]? = some (x, 1)) (h : glC sc "sorted" = true) (hx : glC sc x = true) (ha : DL G X E a la) (hs : starEach [a] X.env = (false, eval a X.env) :: starEach [] X.env) (hs2 : backTo pos (starEach [a] X.env) = (false, eval a X.env) :: backTo pos (starEach [] X.env)) (hs3 : (backTo pos (starEach [a] X.env)).any (·.1) = false) {kp : Pos} :
    DL G X E (.Call (.Name "sorted" p) [a] [⟨some (Str.ofString "key"), .Name x q, kp⟩] pos) (fSortKey (Φ i) la) := by
  obtain ⟨f, fd, ps, ds, F, hm, kp, b, d⟩ := (fx.fns i x 1 hi).ex
  cases d
  exact dl_sortKey fx.K F fx.room b (fun _ _ _ _ _ h => h) (at_.gl h) (fx.free "sorted" (by decide)) (at_.gl hx) hm (glC_db at_ hx) ha hs hs2 hs3
/-- isinstance -/
theorem bi_isi (n : String) (hn : n ∈ ["tuple", "list", "int", "bool", "str"]) (h : glC sc "isinstance" = true) (h2 : glC sc (Str.ofString n) = true) (ha : DE G X E a fa)
    (hs : starEach [a, .Name (Str.ofString n) q] X.env = (false, eval a X.env) :: starEach [.Name (Str.ofString n) q] X.env) : DE G X E (.Call (.Name "isinstance" p) [a, .Name (Str.ofString n) q] [] pos) (fIsi [n] fa) := by
  have hT : PE X (.Name (Str.ofString n) q) (tC (.ty n)) := by
    have fr : X.mg (Str.ofString n) = none := fx.free n (by simp only [List.mem_cons, List.not_mem_nil, or_false] at hn ⊢; rcases hn with h | h | h | h | h <;> simp [h])
    simp only [List.mem_cons, List.not_mem_nil, or_false] at hn
    rcases hn with rfl | rfl | rfl | rfl | rfl
    · exact pe_bltn (at_.gl h2) fr PyProof.Rows.boot_tuple rfl
    · exact pe_bltn (at_.gl h2) fr PyProof.Rows.boot_list rfl
    · exact pe_bltn (at_.gl h2) fr PyProof.Rows.boot_int rfl
    · exact pe_bltn (at_.gl h2) fr PyProof.Rows.boot_bool rfl
    · exact pe_bltn (at_.gl h2) fr PyProof.Rows.boot_str rfl
  exact de_isi1 (at_.gl h) (fx.free "isinstance" (by decide)) ha hT hs rfl rfl
theorem bi_isi2 (h : glC sc "isinstance" = true) (h1 : glC sc "list" = true) (h2 : glC sc "tuple" = true) (ha : DE G X E a fa) {j : Nat} {q1 q2 : Pos}
    (hs : starEach [a, .Tuple [.Name "list" q1, .Name "tuple" q2] j pt] X.env = (false, eval a X.env) :: starEach [.Tuple [.Name "list" q1, .Name "tuple" q2] j pt] X.env) : DE G X E (.Call (.Name "isinstance" p) [a, .Tuple [.Name "list" q1, .Name "tuple" q2] j pt] [] pos) (fIsi ["list", "tuple"] fa) :=
  de_isi2 (at_.gl h) (fx.free "isinstance" (by decide)) ha (pe_bltn (at_.gl h1) (fx.free "list" (by decide)) PyProof.Rows.boot_list rfl) (pe_bltn (at_.gl h2) (fx.free "tuple" (by decide)) PyProof.Rows.boot_tuple rfl) hs rfl rfl
/-- a def of the text -/
theorem bi_f (i : Nat) {n : Nat} (hi : fs[i]? = some (x, n)) (h : glC sc x = true) (ha : DA G X E (a :: es) la) (he : starEach (a :: es) X.env = (false, eval a X.env) :: starEach es X.env) (hpl : (backTo pos (starEach es X.env)).any (·.1) = false) :
    DE G X E (.Call (.Name x p) (a :: es) [] pos) (fCallU n (Φ i) la) := by
  obtain ⟨f, fd, ps, ds, F, hm, kp, b, d⟩ := (fx.fns i x n hi).ex
  cases d
  exact de_call F (fx.room.mono (by omega)) (at_.gl h) hm kp b C8.pass0 ha (glC_db at_ h) he hpl
/-- a method -/
theorem bi_m (i : Nat) {c m : Str} {n : Nat} {pl : Sem Bool} (hi : ms[i]? = some (c, m, n)) (ho : DE G X E o fo) (ha : DA G X E (a :: es) la) (he : starEach (a :: es) X.env = (false, eval a X.env) :: starEach es X.env) (hpl : (backTo pos (starEach es X.env)).any (·.1) = false)
    (ht : eval (.Call (.Attribute o m apos) (a :: es) [] pos) X.env = (do
      let ov ← eval o X.env
      standAt apos.atName
      let (f, first) ← holding [ov] (getMethod ov m pl)
      callWith pos f first (backTo pos (starEach (a :: es) X.env)) (backToKw pos (keywordEach [] X.env)))) :
    DE G X E (.Call (.Attribute o m apos) (a :: es) [] pos) (fMeth c m n (Ψ i) fo la) := by
  obtain ⟨C, hC, M⟩ := fx.mes i c m n hi
  obtain ⟨f, fd, ps, ds, hc, hm, F, b, d⟩ := M.ex
  cases d
  exact de_meth hC (pe_meth (pl := pl) ho hc hm F (fx.room.mono (by omega)) b .nil C8.pass0 ha he hpl ht)
/-- a class -/
theorem bi_c (i : Nat) {n : Nat} (hi : cs[i]? = some (x, n)) (h : glC sc x = true) (ha : DA G X E (a :: es) la) (he : starEach (a :: es) X.env = (false, eval a X.env) :: starEach es X.env) (hpl : (backTo pos (starEach es X.env)).any (·.1) = false) :
    DE G X E (.Call (.Name x p) (a :: es) [] pos) (fMake x n (Γ i) la) := by
  obtain ⟨C, hC, M⟩ := fx.cls i x n hi
  obtain ⟨f, fd, ps, ds, M, F, hm, b, d⟩ := M.ex
  cases d
  exact de_make hC (pe_make M F (fx.room.mono (by omega)) (at_.gl h) hm b .nil C8.pass0 ha (glC_db at_ h) he hpl)
/-- f.x -/
theorem bi_fld {f : Str} (ho : DE G X E o fo) (hb : attributeBase o f X.env (eval o X.env) = eval o X.env) : DE G X E (.Attribute o f pos) (fFld G f fo) := de_fld fx.att ho hb
theorem bi_enum {elts : List Expr} {kk : Nat} {tpos : Pos} (h : glC sc "enumerate" = true) (ha : DA G X E [a] la) (hs : starEach [a] X.env = [(false, eval a X.env)]) : DI G X E (.Tuple elts kk tpos) (.Call (.Name "enumerate" p) [a] [] pos) (fEnum la) :=
  di_enum fx.K (at_.gl h) (fx.free "enumerate" (by decide)) ha hs
theorem bi_zip {elts : List Expr} {kk : Nat} {tpos : Pos} (h : glC sc "zip" = true) (ha : DA G X E [a, b] la) (hs : starEach [a, b] X.env = [(false, eval a X.env), (false, eval b X.env)]) (hs2 : starEach [b] X.env = [(false, eval b X.env)]) : DI G X E (.Tuple elts kk tpos) (.Call (.Name "zip" p) [a, b] [] pos) (fZip la) :=
  di_zip fx.K (at_.gl h) (fx.free "zip" (by decide)) ha hs hs2
theorem bi_perm {tg : Expr} (h : glC sc "permutations" = true) (ha : DA G X E [a] la) (hs : starEach [a] X.env = [(false, eval a X.env)]) : DI G X E tg (.Call (.Name "permutations" p) [a] [] pos) (fPerm la) :=
  di_perm fx.calm (at_.gl h) fx.perm ha (glC_db at_ h) hs
end
end Mini
end

section
set_option Elab.async false
set_option linter.all false
set_option maxRecDepth 100000
set_option maxHeartbeats 4000000
namespace Mini
open PySem PySem.Spec PyProof.Rows L2

section
variable {G : Gl} {X : Cx} {E : XK} {N : List Str} {sc raw : Scope} {fs : List (Str × Nat)} {ms : List (Str × Str × Nat)} {cs : List (Str × Nat)} {kt : List (Str × Nat × List Str × List Nat × Nat)} {Φ Ψ Γ : Nat → List D → M D} {k : Nat} {a : Expr} {es : List Expr} {la : FA} {fa : FE} {p pos kp : Pos} {x : Str} {kws : List Keyword} {nm : Option Str}
theorem At.nth (at_ : At X N sc raw) {i : Nat} {x : Str} (h : decide (N[i]? = some x) = true) : X.N[i]? = some x := by rw [at_.hN]; exact of_decide_eq_true h
theorem At.lo (at_ : At X N sc raw) {x : Str} (h : decide (sc.names.lookup x = some .local) = true) : X.env.scope.names.lookup x = some .local := by rw [at_.hs]; exact of_decide_eq_true h
/-- within a block -/
theorem inB {scope : Scope} {Q : Cx → Prop} (at_ : At X N sc raw) (fx : Fine G fs ms cs kt Φ Ψ Γ k X) (h : ∀ Y : Cx, At Y N (relS scope sc) scope → Fine G fs ms cs kt Φ Ψ Γ k Y → Q Y) (s : Shared) (H : Hp) (C : Addr) (cl : List (Str × Addr)) (fp : List Addr) : Q (X.blk s H scope (compEnvC scope cl C X.env) fp) :=
  h _ (at_.blk s H scope C cl fp) (fx.blk s H scope _ fp)
/-! ### a call with keywords alone -/
def permD (js : List Nat) (ds : List D) : List D := js.map fun j => ds.getD j .non
def permV (js : List Nat) (vs : List V) : List V := js.map fun j => vs.getD j .non
def fCallK (n : Nat) (F : List D → M D) (js : List Nat) (g : FA) : FE := fun e => bnd (g e) fun ds => if js.length = n ∧ ds.length = n ∧ js.all (fun j => decide (j < n)) = true then F (permD js ds) else stuck
theorem rvs_perm {K : PySem.W.Frag} {ρ : List Addr} {H : Hp} {ds : List D} {vs : List V} (r : RVs K ρ H ds vs) : ∀ {js : List Nat}, (∀ j ∈ js, j < ds.length) → RVs K ρ H (permD js ds) (permV js vs)
  | [], _ => .nil
  | j :: js, h => by
    have hj := h j List.mem_cons_self
    obtain ⟨v, h1, h2⟩ := r.get (List.getElem?_eq_getElem hj)
    refine .cons ?_ (rvs_perm r fun i hi => h i (List.mem_cons_of_mem _ hi))
    show RV K ρ H (ds.getD j .non) (vs.getD j .non)
    rw [List.getD_eq_getElem?_getD, List.getD_eq_getElem?_getD, h1, List.getElem?_eq_getElem hj]
    exact h2
theorem vals_perm {vs : List V} {us : List Value} (r : Vals vs us) : ∀ {js : List Nat}, Vals (permV js vs) (permU js us)
  | [] => .nil
  | j :: js => by
    refine .cons ?_ (vals_perm r)
    show L2.RelV (vs.getD j .non) (us.getD j .none)
    rw [List.getD_eq_getElem?_getD, List.getD_eq_getElem?_getD]
    cases h : vs[j]? with
    | none =>
      have := List.getElem?_eq_none_iff.mp h
      rw [List.getElem?_eq_none (by rw [← r.length]; exact this)]
      exact rfl
    | some v =>
      obtain ⟨u, h1, h2⟩ := r.get h
      rw [h1]
      exact h2
theorem dk_nil : PK X [] (Lf G (rDs G.K) E aNil) := ⟨fun pos pins s σ H Q I ⟨ρ, S, e, r, rep, re, h, p⟩ => by
  cases h
  exact pk_nil.run pos pins s σ H Q I (p ρ H [] (.refl _ _) rep .nil)⟩
theorem dk_cons {g : FA} (ha : DE G X E a fa) (hr : PK X kws (Lf G (rDs G.K) E g)) : PK X (⟨nm, a, kp⟩ :: kws) (Lf G (rDs G.K) E (aCons fa g)) := ⟨fun pos pins s σ H Q I ⟨ρ, S, e, r, rep, re, h, p⟩ => by
  refine (pk_cons ha hr).run pos pins s σ H Q I ?_
  exact bind_at rep re h p fun ρ1 H1 S1 d x st1 rep1 re1 rx h1 p1 => bind_at rep1 re1 h1 p1 fun ρ2 H2 S2 ds xs st2 rep2 re2 rxs h2 p2 => by
    cases h2
    exact p2 ρ2 H2 _ (.refl _ _) rep2 (.cons (rx.mono st2) rxs)⟩
def tCallP (sp : Sp) (js : List Nat) (E : XK) (tk : TA) : TE := fun σ H Q => tk σ H fun zs H2 => zs.length = js.length ∧ sp (permV js zs) H2 Q E
theorem pe_kw0 {sp : Sp} {ks : List Str} {js : List Nat} {tk : TA} (c : KwOk X.prog X.w X.K X.mg X.base k x sp ks js) (hr : Room k X.A) (hg : L2.Gl X x) (hl : ks.length = js.length) (hkw : PK X kws tk) (hall : (backToKw pos (keywordEach kws X.env)).all (·.1.isSome) = true) (hks : (backToKw pos (keywordEach kws X.env)).filterMap (·.1) = ks)
    (hdb : (x == ("__debug__" : Str)) = false) (hpl : ((backTo pos (starEach [] X.env)).any (·.1) || (backToKw pos (keywordEach kws X.env)).any (·.1.isNone)) = false) :
    PE X (.Call (.Name x p) [] kws pos) (tCallP sp js E tk) := by
  obtain ⟨f, fd, ps, F, hm, hk, hb⟩ := c.ex
  refine ⟨fun pins s σ H Q I h => ?_⟩
  refine wpAny_Call_Name_kw (ld_glob I hg hm ?_ hdb)
  refine PySem.W.callWith_KW0 (h₀ := X.base) I.ok.mod.kin hk hall (thn (hkw.run pos pins s σ H _ I h) fun ws s2 ⟨zs, H2, I2, rz, hz, q2⟩ => ⟨I2.kIn, ?_⟩) hpl
  rw [hks]
  have hwl : ws.length = ks.length := by rw [← rz.length, hz, hl]
  have r2 := vals_perm rz (js := js)
  refine wpAny_call (codeAny_mono (F.run X.A X.stack s2 H2 ⟨[], ks.zip ws⟩ (permU js ws) (permV js zs) Q E hr I2.env0 (hb s2 ws I2.kIn hwl) r2 q2) fun r s' hq => ?_)
  cases r with
  | error e => exact False.elim hq
  | ok fl =>
    cases fl with
    | ret u => exact I2.after hq
    | next => exact False.elim hq
    | brk => exact False.elim hq
    | cont => exact False.elim hq
theorem bi_k (at_ : At X N sc raw) (fx : Fine G fs ms cs kt Φ Ψ Γ k X) (i : Nat) {n : Nat} {ks : List Str} {js : List Nat} {j : Nat} (hi : kt[i]? = some (x, n, ks, js, j)) (h : glC sc x = true) (hl : ks.length = js.length) (hkw : PK X kws (Lf G (rDs G.K) E la)) (hall : (backToKw pos (keywordEach kws X.env)).all (·.1.isSome) = true) (hks : (backToKw pos (keywordEach kws X.env)).filterMap (·.1) = ks)
    (hpl : ((backTo pos (starEach [] X.env)).any (·.1) || (backToKw pos (keywordEach kws X.env)).any (·.1.isNone)) = false) : DE G X E (.Call (.Name x p) [] kws pos) (fCallK n (Φ j) js la) :=
  pe_imp (pe_kw0 (E := E) (fx.kwc i x n ks js j hi) (fx.room.mono (by omega)) (at_.gl h) hl hkw hall hks (glC_db at_ h) hpl) fun σ H Q ⟨ρ, S, e, r, rep, re, h, p⟩ => bind_at rep re h p fun ρ1 H1 S1 ds vs st1 rep1 re1 rx h1 p1 => by
    split at h1
    · rename_i hq
      have hjs : ∀ j ∈ js, j < ds.length := fun j hj => by
        have := List.all_eq_true.mp hq.2.2 j hj
        rw [hq.2.1]
        exact of_decide_eq_true this
      exact ⟨by rw [RVs.len rx, hq.2.1, hq.1], ρ1, S1, permD js ds, r, rep1, rvs_perm rx hjs, by unfold permD; rw [List.length_map]; exact hq.1, h1, p1.rD⟩
    · cases h1
end

/-! ### a def as a function -/
def runFn (n m : Nat) (b : FS) : List D → M D := fun ds S => if ds.length = n then match b (ds.map some ++ List.replicate (m - n) none) S with
  | some (.rt d S1) => some (.val d S1)
  | some (.nx _ S1) => some (.val .non S1)
  | some (.ex c fs S1) => some (.exc c fs S1)
  | _ => none
  else none
section
variable {G : Gl} {E : XK} {b : FS} {n : Nat} {N : List Str} {ρ : List Addr} {H : Hp} {S : Sto}
theorem re_start {K : PySem.W.Frag} {ds : List D} {vs : List V} (rv : RVs K ρ H ds vs) (hl : ds.length = n) : RE K ρ H (ds.map some ++ List.replicate (N.length - n) none) (L2.start N vs) := by
  unfold L2.start
  have hv : vs.length = n := by rw [rv.len]; exact hl
  refine ⟨by simp [hl, hv], fun i d h => ?_⟩
  rw [hv]
  by_cases hi : i < n
  · rw [List.getElem?_append_left (by simp [hl]; exact hi)] at h
    rw [List.getElem?_append_left (by simp [hv]; exact hi)]
    rw [List.getElem?_map] at h ⊢
    cases h1 : ds[i]? with
    | none => rw [h1] at h; cases h
    | some d' =>
      rw [h1] at h
      cases h
      obtain ⟨v, h2, h3⟩ := rv.get h1
      exact ⟨v, by rw [h2]; rfl, h3⟩
  · rw [List.getElem?_append_right (by simp [hl]; omega)] at h
    rw [List.getElem?_replicate] at h
    split at h <;> cases h
theorem run_body {vs : List V} {Q : VK} (h : spOf G n (runFn n N.length b) vs H Q E) : LfS G E b { nx := fun _ H' => Q .non H', rt := Q } (L2.start N vs) H := by
  obtain ⟨ρ, S, ds, r, rep, rv, hl, h, p⟩ := h
  unfold runFn at h
  rw [if_pos hl] at h
  cases hb : b (ds.map some ++ List.replicate (N.length - n) none) S with
  | none => rw [hb] at h; cases h
  | some q =>
    rw [hb] at h
    refine ⟨ρ, S, _, q, rep, re_start rv hl, hb, ?_⟩
    cases q with
    | rt d S1 => cases h; exact p
    | nx e S1 =>
      cases h
      intro ρ' H' σ' st rep' re'
      exact p ρ' H' .non st rep' .non
    | ex c fs S1 => cases h; exact p
    | bk e S1 => cases h
    | ct e S1 => cases h
end
end Mini
end

section
set_option Elab.async false
set_option linter.all false
set_option maxRecDepth 100000
set_option maxHeartbeats 4000000
namespace Mini
open PySem PySem.Spec PyProof.Rows L2

/-! ### what the top leaves -/
def permB (K : PySem.W.Frag) : Bool := match PySem.W.nsIn K mainGlobals "permutations" with
  | some (some (.type t)) => decide (t = "itertools.permutations")
  | _ => false
abbrev AlP : Type := He.AlD × Bool
def obsP (fa : List He.Fa) (fn : List He.DefD) (ex : PySem.W.Frag → Bool) (K : PySem.W.Frag) : AlP := (He.obsD fa fn K, ex K)
def obsPG (n : Nat) (fa : List He.Fa) (fn : List He.DefD) (ex : PySem.W.Frag → Bool) (g : Addr → Option Obj) : AlP := obsP fa fn ex (He.frG g (He.asD g n))
def SaysP (fa : List He.Fa) (fn : List He.DefD) (ex : PySem.W.Frag → Bool) (K : PySem.W.Frag) : Prop := He.SaysD fa fn K ∧ ex K = true
def hookP (n : Nat) (fa : List He.Fa) (fn : List He.DefD) (ex : PySem.W.Frag → Bool) : PySem.W.Hook where
  α := AlP
  obs := fun s => obsPG n fa fn ex s.heap.get?
  val := fun _ => (He.valD fn, true)
  says := fun _ h => ∃ K : PySem.W.Frag, K.In h ∧ SaysP fa fn ex K
  of := fun _ _ e => ⟨_, He.frG_in, congrArg Prod.fst e, congrArg Prod.snd e⟩
  keeps := fun _ _ _ ⟨K, hK, c⟩ k => ⟨K, PySem.W.Frag.In.keeps hK k, c⟩
theorem obsPG_eq {n : Nat} {fa : List He.Fa} {fn : List He.DefD} {ex : PySem.W.Frag → Bool} {g : Addr → Option Obj} {s : Shared} (h : ∀ a, g a = s.heap.get? a) : obsPG n fa fn ex g = (hookP n fa fn ex).obs s := by
  have e : g = s.heap.get? := funext h
  rw [e]; rfl
theorem perm_ok {K : PySem.W.Frag} {h : Heap} {mg : Str → Option Value} (X : K.In h) (G : h.Ns mainGlobals mg) (c : permB K = true) : mg "permutations" = some (.type "itertools.permutations") := by
  unfold permB at c
  split at c
  · rename_i t e
    have e2 := of_decide_eq_true c
    subst e2
    exact PySem.W.mg_of X G e
  · cases c
/-! ### one def at a level -/
section
variable {G : Gl} {mg : Str → Option Value} {base : Heap} {fs : List (Str × Nat)} {ms : List (Str × Str × Nat)} {cs : List (Str × Nat)} {kt : List (Str × Nat × List Str × List Nat × Nat)} {Φ Ψ Γ : Nat → List D → M D} {k : Nat}
/-- the tables at a level -/
structure Lev (G : Gl) (mg : Str → Option Value) (base : Heap) (fs : List (Str × Nat)) (ms : List (Str × Str × Nat)) (cs : List (Str × Nat)) (kt : List (Str × Nat × List Str × List Nat × Nat)) (Φ Ψ Γ : Nat → List D → M D) (k : Nat) : Prop where
  fns : ∀ (i : Nat) (x : Str) (n : Nat), fs[i]? = some (x, n) → C8.Cal G.P G.w G.K mg base k x (spOf G n (Φ i)) []
  mes : ∀ (i : Nat) (c m : Str) (n : Nat), ms[i]? = some (c, m, n) → ∃ C, G.cls c = some C ∧ C8.Met G.P G.w G.K mg base k C m (spOf G n (Ψ i)) []
  cls : ∀ (i : Nat) (c : Str) (n : Nat), cs[i]? = some (c, n) → ∃ C, G.cls c = some C ∧ C8.Mak G.P G.w G.K mg base k c C (spOf G n (Γ i)) []
  kwc : ∀ (i : Nat) (x : Str) (n : Nat) (ks : List Str) (js : List Nat) (j : Nat), kt[i]? = some (x, n, ks, js, j) → KwOk G.P G.w G.K mg base k x (spOf G n (Φ j)) ks js
/-- what holds of the whole text -/
structure Txt (G : Gl) (mg : Str → Option Value) : Prop where
  att : ∀ (c f : Str) (C : Addr), G.cls c = some C → G.att c f = true → Cls G.K C ∧ NoAttr G.K C f
  free : ∀ x ∈ ["len", "tuple", "list", "int", "abs", "max", "min", "range", "any", "sorted", "set", "isinstance", "enumerate", "zip", "bool", "str"], mg (Str.ofString x) = none
  perm : mg "permutations" = some (.type "itertools.permutations")
theorem one_fn {x qual : Str} {params : Arguments} {body : List Stmt} {scope : Scope} {f : Addr} {fd : FuncData} {N ps : List Str} {n : Nat} {b : FS} (T : Txt G mg) (L : Lev G mg base fs ms cs kt Φ Ψ Γ k) (F : FunD G.K x qual params body scope [] [] f fd) (S : FnScope N ps scope) (hn : ps.length = n)
    (hb : ∀ (X : Cx) (E : XK), At X N scope scope → Fine G fs ms cs kt Φ Ψ Γ k X → PassesOwn (model X.prog X.w) X.A X.env X.xe → DSs G X E body b) : FnOk G.P G.w G.K mg base C8.CX0 (k + 4) f fd ps (spOf G n (runFn n N.length b)) := by
  refine F.ok (k := k + 3) S (fun vs H Q E h => (spOf_len h).trans hn.symm) fun cdv A outer s H vs Q E hr h => ?_
  refine ⟨LfS G E b, PSs.nox ?_, run_body h⟩
  refine hb (cxOf C8.CX0 G.P G.w G.K mg base N qual scope f cdv A outer s H E).nox E ⟨rfl, rfl, S.nd, fun _ _ => rfl⟩ ⟨rfl, rfl, rfl, rfl, hr, T.att, L.fns, L.mes, L.cls, L.kwc, T.free, T.perm⟩ PassesOwn.never
/-- no promise at the ground -/
theorem no_fn {f : Addr} {fd : FuncData} {ps : List Str} {n : Nat} : FnOk G.P G.w G.K mg base C8.CX0 0 f fd ps (spOf G n fun _ _ => none) :=
  ⟨(fun vs H Q E h => by obtain ⟨_, _, _, _, _, _, _, h, _⟩ := h; cases h), (fun A outer s H args us vs Q E hr he hb hv h => by obtain ⟨_, _, _, _, _, _, _, h, _⟩ := h; cases h)⟩
theorem kw_of {x qual : Str} {params : Arguments} {body : List Stmt} {scope : Scope} {f : Addr} {fd : FuncData} {ps ks : List Str} {js : List Nat} {K : PySem.W.Frag} (F : FunD K x qual params body scope [] [] f fd)
    (h : ∀ (kV doc pm : Value) (an : Option Addr) (cdv ct : Value) (ws : List Value), ws.length = ks.length → bindArgs (PySem.W.fnOf x qual params body scope .none kV doc pm an cdv ct) ⟨[], ks.zip ws⟩ = pure (ps.zip (permU js ws))) (s : Shared) (ws : List Value) (hl : ws.length = ks.length) : BindsTo s fd ⟨[], ks.zip ws⟩ (ps.zip (permU js ws)) := by
  obtain ⟨oc, od, dV, kV, doc, pm, an, cdv, ct, osl, rfl, lk, hcd, hD, hK⟩ := F.ex
  rcases hD with ⟨_, rfl⟩ | ⟨e, _⟩
  · exact .of_eq (h kV doc pm an cdv ct ws hl)
  · exact absurd rfl e
end
end Mini
end

section
set_option Elab.async false
set_option linter.all false
set_option maxRecDepth 100000
set_option maxHeartbeats 4000000

namespace Mini
open PySem PySem.Spec PyProof.Rows L2
def top (i : Nat) : Stmt := PySem.Challenge.pw_patchrealm_k84_game_papers_bent.main.body.getD i (.Pass ⟨0, 0, 0, 0⟩)
def tfs : List (Str × Nat) := [(Str.ofString "_law_source", 1), (Str.ofString "_law_draw", 2), (Str.ofString "_law_turn", 2), (Str.ofString "is_sequence", 1), (Str.ofString "is_number", 1), (Str.ofString "is_below", 2), (Str.ofString "check_turn", 1), (Str.ofString "is_row", 3), (Str.ofString "is_shape", 2), (Str.ofString "check_bars", 2), (Str.ofString "tie_in", 4), (Str.ofString "least_shape", 2), (Str.ofString "by_size", 1), (Str.ofString "flat", 1), (Str.ofString "row_to", 4), (Str.ofString "cut", 3), (Str.ofString "barred_orders", 2), (Str.ofString "_law_picture", 3), (Str.ofString "_law_orders", 1), (Str.ofString "_law_tie", 4), (Str.ofString "_law_piece", 3), (Str.ofString "_law_shown", 3), (Str.ofString "_law_sort", 4), (Str.ofString "_law_alike", 6), (Str.ofString "_law_answers", 7), (Str.ofString "_law_as_told", 5), (Str.ofString "_law_apart", 7), (Str.ofString "_law_paper", 5), (Str.ofString "check_picture", 2), (Str.ofString "check_number", 1), (Str.ofString "game_on", 4), (Str.ofString "is_apart_tree", 4), (Str.ofString "is_told_answer", 6), (Str.ofString "is_alike_tree", 4), (Str.ofString "is_game_paper", 5), (Str.ofString "_law_bent", 3), (Str.ofString "_law_odd_paper", 2), (Str.ofString "_law_number", 2), (Str.ofString "_law_is_apart", 7), (Str.ofString "_law_is_alike", 7), (Str.ofString "_law_is_paper", 5), (Str.ofString "_law_same", 2), (Str.ofString "law", 1)]
def tms : List (Str × Str × Nat) := [("Game", "replies", 3), ("Game", "goes_with", 3), ("Game", "goes_on", 3)]
def tcs : List (Str × Nat) := [("Table", 3), ("Game", 4)]
def tkt : List (Str × Nat × List Str × List Nat × Nat) := [(Str.ofString "is_game_paper", 5, [Str.ofString "value", Str.ofString "rounds", Str.ofString "other", Str.ofString "one", Str.ofString "table"], [4, 3, 2, 1, 0], 34)]
def N_l_law_source : List Str := ["script", "mixed", "cell"]
def d_l_law_source (G : Gl) (Φ Ψ Γ : Nat → List D → M D) : FS := (sSeq (sAsg (eC (.int 20011)) (gVar 1)) (sSeq (sFor (fVal (fNew (fSlL (eVar 0) oNone (oSome (eC (.int 63)))))) (gVar 2) (sSeq (sAsg (fOp2 opMod (fCall cInt (aCons (fOp2 opAdd (fOp2 opAdd (fOp2 opMul (eVar 1) (eC (.int 48271))) (fCall cInt (aCons (eVar 2) aNil))) (eC (.int 17))) aNil)) (eC (.int 2147483647))) (gVar 1)) sNil)) (sSeq (sRet (fNew (fLst (aCons (fNew (fComp (fVal (fNew (fSlL (eVar 0) oNone (oSome (eC (.int 63)))))) (gVar 2) bTrue (fCall cInt (aCons (eVar 2) aNil)) [2])) (aCons (eC (.int 0)) (aCons (eVar 1) (aCons (eC (.int 0)) (aCons (eC (.int 0)) aNil)))))))) sNil)))
theorem p_l_law_source {G : Gl} {X : Cx} {E : XK} {Φ Ψ Γ : Nat → List D → M D} {k : Nat} (at_ : At X N_l_law_source (C8.fnScope (top 35)) (C8.fnScope (top 35))) (fx : Fine G tfs tms tcs tkt Φ Ψ Γ k X) (hp : PassesOwn (model X.prog X.w) X.A X.env X.xe) : DSs G X E (C8.fnBody (top 35)) (d_l_law_source G Φ Ψ Γ) := by
  unfold d_l_law_source
  exact (dss_cons (ds_asg de_int (dg_v at_ (by kernel_rfl)) rfl rfl rfl) (dss_cons (ds_for hp fx.calm (di_val fx.K (de_new (dl_sl fx.K (de_v at_ (by kernel_rfl)) do_none (do_some de_int)))) (dg_v at_ (by kernel_rfl)) (dss_cons (ds_asg (de_op op_modN op2_mod (bi_int at_ fx (by kernel_rfl) (da_cons (de_op (op_or op_add op_catA) op2_add (de_op (op_or op_add op_catA) op2_add (de_op op_mul op2_mul (de_v at_ (by kernel_rfl)) de_int) (bi_int at_ fx (by kernel_rfl) (da_cons (de_v at_ (by kernel_rfl)) da_nil rfl) rfl)) de_int) da_nil rfl) rfl) de_int) (dg_v at_ (by kernel_rfl)) rfl rfl rfl) dss_nil) (fun _ => rfl)) (dss_cons (ds_ret (de_new (dl_lst (da_cons (de_new (dl_lc fx.calm at_.nd' (di_val fx.K (de_new (dl_sl fx.K (de_v at_ (by kernel_rfl)) do_none (do_some de_int)))) (at_.blkOk (own := [("cell", 2)]) (by kernel_rfl)) (inB (Q := fun Y => DG G Y _ _ _) at_ fx fun Y at_ fx => (dg_v at_ (by kernel_rfl))) (inB (Q := fun Y => PTs Y _ (Lf G rB NoX _)) at_ fx fun Y at_ fx => dts_nil) (inB (Q := fun Y => DE G Y NoX _ _) at_ fx fun Y at_ fx => (bi_int at_ fx (by kernel_rfl) (da_cons (de_v at_ (by kernel_rfl)) da_nil rfl) rfl)) (by decide) (fun _ => rfl))) (da_cons de_int (da_cons (de_v at_ (by kernel_rfl)) (da_cons de_int (da_cons de_int da_nil rfl) rfl) rfl) rfl) rfl)))) dss_nil)))
def N_l_law_draw : List Str := ["source", "many", "cell", "told"]
def d_l_law_draw (G : Gl) (Φ Ψ Γ : Nat → List D → M D) : FS := (sSeq (sIf (bAnd (bVal (fOp2 (opEq false) (fOp2 opIx (eVar 0) (eC (.int 4))) (eC (.int 0)))) (bVal (fOp2 opLt (fOp2 opIx (eVar 0) (eC (.int 1))) (fCall cLen (aCons (fOp2 opIx (eVar 0) (eC (.int 0))) aNil))))) (sSeq (sAsg (fOp2 opIx (fOp2 opIx (eVar 0) (eC (.int 0))) (fOp2 opIx (eVar 0) (eC (.int 1)))) (gVar 2)) (sSeq (sSub (fOp2 opAdd (fOp2 opIx (eVar 0) (eC (.int 1))) (eC (.int 1))) (eVar 0) (eC (.int 1)) wLst) (sSeq (sIf (bVal (fOp2 (opI fun i j => decide (j ≤ i)) (fCall cAbs (aCons (eVar 2) aNil)) (fOp2 opPow (eC (.int 10)) (eC (.int 18))))) (sSeq (sSub (fOp2 opSub (fCall cAbs (aCons (eVar 2) aNil)) (fOp2 opPow (eC (.int 10)) (eC (.int 18)))) (eVar 0) (eC (.int 3)) wLst) (sSeq (sSub (eC (.int 60)) (eVar 0) (eC (.int 4)) wLst) sNil)) (sSeq (sSub (fOp2 opMod (fCall cInt (aCons (fOp2 opAdd (fOp2 opAdd (fOp2 opMul (fOp2 opIx (eVar 0) (eC (.int 2))) (eC (.int 48271))) (fOp2 opMul (eVar 2) (eC (.int 69621)))) (eC (.int 11))) aNil)) (eC (.int 2147483647))) (eVar 0) (eC (.int 2)) wLst) sNil)) sNil))) sNil) (sSeq (sIf (bAnd (bVal (fOp2 (opI fun i j => decide (j < i)) (fOp2 opIx (eVar 0) (eC (.int 4))) (eC (.int 0)))) (bVal (fOp2 (opI fun i j => decide (j < i)) (fOp2 opIx (eVar 0) (eC (.int 3))) (eC (.int 0))))) (sSeq (sSub (fOp2 opSub (fOp2 opIx (eVar 0) (eC (.int 4))) (eC (.int 1))) (eVar 0) (eC (.int 4)) wLst) (sSeq (sAsg (fOp2 opMod (fCall cInt (aCons (fOp2 opIx (eVar 0) (eC (.int 3))) aNil)) (eVar 1)) (gVar 3)) (sSeq (sSub (fOp2 opDiv (fOp2 opIx (eVar 0) (eC (.int 3))) (eVar 1)) (eVar 0) (eC (.int 3)) wLst) (sSeq (sRet (eVar 3)) sNil)))) sNil) (sSeq (sSub (eC (.int 0)) (eVar 0) (eC (.int 4)) wLst) (sSeq (sSub (fOp2 opMod (fCall cInt (aCons (fOp2 opAdd (fOp2 opMul (fOp2 opIx (eVar 0) (eC (.int 2))) (eC (.int 69621))) (eC (.int 13))) aNil)) (eC (.int 2147483647))) (eVar 0) (eC (.int 2)) wLst) (sSeq (sRet (fOp2 opMod (fCall cInt (aCons (fOp2 opDiv (fOp2 opIx (eVar 0) (eC (.int 2))) (eC (.int 131))) aNil)) (eVar 1))) sNil)))))
theorem p_l_law_draw {G : Gl} {X : Cx} {E : XK} {Φ Ψ Γ : Nat → List D → M D} {k : Nat} (at_ : At X N_l_law_draw (C8.fnScope (top 36)) (C8.fnScope (top 36))) (fx : Fine G tfs tms tcs tkt Φ Ψ Γ k X) (hp : PassesOwn (model X.prog X.w) X.A X.env X.xe) : DSs G X E (C8.fnBody (top 36)) (d_l_law_draw G Φ Ψ Γ) := by
  unfold d_l_law_draw
  exact (dss_cons (ds_if (dw_and (dt_cmp (op_eqD fx.un) op2_eq (de_ix fx.K (de_v at_ (by kernel_rfl)) de_int (fun _ _ => rfl)) de_int rfl) (dw_and1 (dt_cmp (op_or op_lt (op_ltT fx.un0)) op2_lt (de_ix fx.K (de_v at_ (by kernel_rfl)) de_int (fun _ _ => rfl)) (bi_len at_ fx (by kernel_rfl) (da_cons (de_ix fx.K (de_v at_ (by kernel_rfl)) de_int (fun _ _ => rfl)) da_nil rfl) rfl) rfl))).pt (dss_cons (ds_asg (de_ix fx.K (de_ix fx.K (de_v at_ (by kernel_rfl)) de_int (fun _ _ => rfl)) (de_ix fx.K (de_v at_ (by kernel_rfl)) de_int (fun _ _ => rfl)) (fun _ _ => rfl)) (dg_v at_ (by kernel_rfl)) rfl rfl rfl) (dss_cons (ds_sub (de_op (op_or op_add op_catA) op2_add (de_ix fx.K (de_v at_ (by kernel_rfl)) de_int (fun _ _ => rfl)) de_int) (de_v at_ (by kernel_rfl)) de_int set_list setD_lst (fun _ => rfl) rfl rfl) (dss_cons (ds_if (dt_cmp op_ge op2_i (bi_abs at_ fx (by kernel_rfl) (da_cons (de_v at_ (by kernel_rfl)) da_nil rfl) rfl) (de_op op_pow op2_pow de_int de_int) rfl) (dss_cons (ds_sub (de_op op_sub op2_sub (bi_abs at_ fx (by kernel_rfl) (da_cons (de_v at_ (by kernel_rfl)) da_nil rfl) rfl) (de_op op_pow op2_pow de_int de_int)) (de_v at_ (by kernel_rfl)) de_int set_list setD_lst (fun _ => rfl) rfl rfl) (dss_cons (ds_sub de_int (de_v at_ (by kernel_rfl)) de_int set_list setD_lst (fun _ => rfl) rfl rfl) dss_nil)) (dss_cons (ds_sub (de_op op_modN op2_mod (bi_int at_ fx (by kernel_rfl) (da_cons (de_op (op_or op_add op_catA) op2_add (de_op (op_or op_add op_catA) op2_add (de_op op_mul op2_mul (de_ix fx.K (de_v at_ (by kernel_rfl)) de_int (fun _ _ => rfl)) de_int) (de_op op_mul op2_mul (de_v at_ (by kernel_rfl)) de_int)) de_int) da_nil rfl) rfl) de_int) (de_v at_ (by kernel_rfl)) de_int set_list setD_lst (fun _ => rfl) rfl rfl) dss_nil)) dss_nil))) dss_nil) (dss_cons (ds_if (dw_and (dt_cmp op_gt op2_i (de_ix fx.K (de_v at_ (by kernel_rfl)) de_int (fun _ _ => rfl)) de_int rfl) (dw_and1 (dt_cmp op_gt op2_i (de_ix fx.K (de_v at_ (by kernel_rfl)) de_int (fun _ _ => rfl)) de_int rfl))).pt (dss_cons (ds_sub (de_op op_sub op2_sub (de_ix fx.K (de_v at_ (by kernel_rfl)) de_int (fun _ _ => rfl)) de_int) (de_v at_ (by kernel_rfl)) de_int set_list setD_lst (fun _ => rfl) rfl rfl) (dss_cons (ds_asg (de_op op_modN op2_mod (bi_int at_ fx (by kernel_rfl) (da_cons (de_ix fx.K (de_v at_ (by kernel_rfl)) de_int (fun _ _ => rfl)) da_nil rfl) rfl) (de_v at_ (by kernel_rfl))) (dg_v at_ (by kernel_rfl)) rfl rfl rfl) (dss_cons (ds_sub (de_op op_fdivN op2_div (de_ix fx.K (de_v at_ (by kernel_rfl)) de_int (fun _ _ => rfl)) (de_v at_ (by kernel_rfl))) (de_v at_ (by kernel_rfl)) de_int set_list setD_lst (fun _ => rfl) rfl rfl) (dss_cons (ds_ret (de_v at_ (by kernel_rfl))) dss_nil)))) dss_nil) (dss_cons (ds_sub de_int (de_v at_ (by kernel_rfl)) de_int set_list setD_lst (fun _ => rfl) rfl rfl) (dss_cons (ds_sub (de_op op_modN op2_mod (bi_int at_ fx (by kernel_rfl) (da_cons (de_op (op_or op_add op_catA) op2_add (de_op op_mul op2_mul (de_ix fx.K (de_v at_ (by kernel_rfl)) de_int (fun _ _ => rfl)) de_int) de_int) da_nil rfl) rfl) de_int) (de_v at_ (by kernel_rfl)) de_int set_list setD_lst (fun _ => rfl) rfl rfl) (dss_cons (ds_ret (de_op op_modN op2_mod (bi_int at_ fx (by kernel_rfl) (da_cons (de_op op_fdivN op2_div (de_ix fx.K (de_v at_ (by kernel_rfl)) de_int (fun _ _ => rfl)) de_int) da_nil rfl) rfl) (de_v at_ (by kernel_rfl)))) dss_nil)))))
def N_l_law_turn : List Str := ["source", "ties", "turn", "t", "other"]
def d_l_law_turn (G : Gl) (Φ Ψ Γ : Nat → List D → M D) : FS := (sSeq (sAsg (fNew (fComp (fVal (fCall cRange1 (aCons (eVar 1) aNil))) (gVar 3) bTrue (eVar 3) [3])) (gVar 2)) (sSeq (sFor (fVal (fCall cRange1 (aCons (eVar 1) aNil))) (gVar 3) (sSeq (sAsg (fOp2 opAdd (eVar 3) (fCallU 2 (Φ 1) (aCons (eVar 0) (aCons (fOp2 opSub (eVar 1) (eVar 3)) aNil)))) (gVar 4)) (sSeq (sIf (bAnd (bVal (fOp2 (opEq false) (fOp2 opIx (eVar 2) (eVar 3)) (eVar 3))) (bVal (fOp2 (opEq false) (fOp2 opIx (eVar 2) (eVar 4)) (eVar 4)))) (sSeq (sSub (eVar 4) (eVar 2) (eVar 3) wLst) (sSeq (sSub (eVar 3) (eVar 2) (eVar 4) wLst) sNil)) sNil) sNil))) (sSeq (sRet (fCall cTup (aCons (eVar 2) aNil))) sNil)))
theorem p_l_law_turn {G : Gl} {X : Cx} {E : XK} {Φ Ψ Γ : Nat → List D → M D} {k : Nat} (at_ : At X N_l_law_turn (C8.fnScope (top 42)) (C8.fnScope (top 42))) (fx : Fine G tfs tms tcs tkt Φ Ψ Γ k X) (hp : PassesOwn (model X.prog X.w) X.A X.env X.xe) : DSs G X E (C8.fnBody (top 42)) (d_l_law_turn G Φ Ψ Γ) := by
  unfold d_l_law_turn
  exact (dss_cons (ds_asg_of (ps_setLc (own := [("t", 3)]) fx.calm at_.nd' (at_.nth (by kernel_rfl)) (at_.lo (by kernel_rfl)) (swL at_ (by kernel_rfl)) (di_val fx.K (bi_range1 at_ fx (by kernel_rfl) (da_cons (de_v at_ (by kernel_rfl)) da_nil rfl) rfl)) (at_.blkOk (by kernel_rfl)) (inB (Q := fun Y => DG G Y _ _ _) at_ fx fun Y at_ fx => (dg_v at_ (by kernel_rfl))) (inB (Q := fun Y => PTs Y _ (Lf G rB NoX _)) at_ fx fun Y at_ fx => dts_nil) (inB (Q := fun Y => DE G Y NoX _ _) at_ fx fun Y at_ fx => (de_v at_ (by kernel_rfl))) (fun _ => rfl)) (fun σ H Q h => lc_le (by decide) σ H Q (new_le σ H Q h))) (dss_cons (ds_for hp fx.calm (di_val fx.K (bi_range1 at_ fx (by kernel_rfl) (da_cons (de_v at_ (by kernel_rfl)) da_nil rfl) rfl)) (dg_v at_ (by kernel_rfl)) (dss_cons (ds_asg (de_op (op_or op_add op_catA) op2_add (de_v at_ (by kernel_rfl)) (bi_f at_ fx 1 rfl (by kernel_rfl) (da_cons (de_v at_ (by kernel_rfl)) (da_cons (de_op op_sub op2_sub (de_v at_ (by kernel_rfl)) (de_v at_ (by kernel_rfl))) da_nil rfl) rfl) rfl rfl)) (dg_v at_ (by kernel_rfl)) rfl rfl rfl) (dss_cons (ds_if (dw_and (dt_cmp (op_eqD fx.un) op2_eq (de_ix fx.K (de_v at_ (by kernel_rfl)) (de_v at_ (by kernel_rfl)) (fun _ _ => rfl)) (de_v at_ (by kernel_rfl)) rfl) (dw_and1 (dt_cmp (op_eqD fx.un) op2_eq (de_ix fx.K (de_v at_ (by kernel_rfl)) (de_v at_ (by kernel_rfl)) (fun _ _ => rfl)) (de_v at_ (by kernel_rfl)) rfl))).pt (dss_cons (ds_sub (de_v at_ (by kernel_rfl)) (de_v at_ (by kernel_rfl)) (de_v at_ (by kernel_rfl)) set_list setD_lst (fun _ => rfl) rfl rfl) (dss_cons (ds_sub (de_v at_ (by kernel_rfl)) (de_v at_ (by kernel_rfl)) (de_v at_ (by kernel_rfl)) set_list setD_lst (fun _ => rfl) rfl rfl) dss_nil)) dss_nil) dss_nil)) (fun _ => rfl)) (dss_cons (ds_ret (bi_tup at_ fx (by kernel_rfl) (da_cons (de_v at_ (by kernel_rfl)) da_nil rfl) rfl)) dss_nil)))
def N_is_sequence : List Str := ["value"]
def d_is_sequence (G : Gl) (Φ Ψ Γ : Nat → List D → M D) : FS := (sSeq (sRet (fIsi ["list", "tuple"] (eVar 0))) sNil)
theorem p_is_sequence {G : Gl} {X : Cx} {E : XK} {Φ Ψ Γ : Nat → List D → M D} {k : Nat} (at_ : At X N_is_sequence (C8.fnScope (top 10)) (C8.fnScope (top 10))) (fx : Fine G tfs tms tcs tkt Φ Ψ Γ k X) (hp : PassesOwn (model X.prog X.w) X.A X.env X.xe) : DSs G X E (C8.fnBody (top 10)) (d_is_sequence G Φ Ψ Γ) := by
  unfold d_is_sequence
  exact (dss_cons (ds_ret (bi_isi2 at_ fx (by kernel_rfl) (by kernel_rfl) (by kernel_rfl) (de_v at_ (by kernel_rfl)) rfl)) dss_nil)
def N_is_number : List Str := ["value"]
def d_is_number (G : Gl) (Φ Ψ Γ : Nat → List D → M D) : FS := (sSeq (sRet (vAnd (fIsi ["int"] (eVar 0)) (vAnd (vNot (fIsi ["bool"] (eVar 0))) (fOp2 (opI fun i j => decide (j ≤ i)) (eVar 0) (eC (.int 0)))))) sNil)
theorem p_is_number {G : Gl} {X : Cx} {E : XK} {Φ Ψ Γ : Nat → List D → M D} {k : Nat} (at_ : At X N_is_number (C8.fnScope (top 8)) (C8.fnScope (top 8))) (fx : Fine G tfs tms tcs tkt Φ Ψ Γ k X) (hp : PassesOwn (model X.prog X.w) X.A X.env X.xe) : DSs G X E (C8.fnBody (top 8)) (d_is_number G Φ Ψ Γ) := by
  unfold d_is_number
  exact (dss_cons (ds_ret (de_and (bi_isi at_ fx "int" (by decide) (by kernel_rfl) (by kernel_rfl) (de_v at_ (by kernel_rfl)) rfl) (de_and (de_not (bi_isi at_ fx "bool" (by decide) (by kernel_rfl) (by kernel_rfl) (de_v at_ (by kernel_rfl)) rfl)) (de_and1 (de_cmp op_ge op2_i (de_v at_ (by kernel_rfl)) de_int rfl))))) dss_nil)
def N_is_below : List Str := ["value", "limit"]
def d_is_below (G : Gl) (Φ Ψ Γ : Nat → List D → M D) : FS := (sSeq (sRet (vAnd (fCallU 1 (Φ 4) (aCons (eVar 0) aNil)) (fOp2 opLt (eVar 0) (eVar 1)))) sNil)
theorem p_is_below {G : Gl} {X : Cx} {E : XK} {Φ Ψ Γ : Nat → List D → M D} {k : Nat} (at_ : At X N_is_below (C8.fnScope (top 9)) (C8.fnScope (top 9))) (fx : Fine G tfs tms tcs tkt Φ Ψ Γ k X) (hp : PassesOwn (model X.prog X.w) X.A X.env X.xe) : DSs G X E (C8.fnBody (top 9)) (d_is_below G Φ Ψ Γ) := by
  unfold d_is_below
  exact (dss_cons (ds_ret (de_and (bi_f at_ fx 4 rfl (by kernel_rfl) (da_cons (de_v at_ (by kernel_rfl)) da_nil rfl) rfl rfl) (de_and1 (de_cmp (op_or op_lt (op_ltT fx.un0)) op2_lt (de_v at_ (by kernel_rfl)) (de_v at_ (by kernel_rfl)) rfl)))) dss_nil)
def N_check_turn : List Str := ["turn", "tie", "back"]
def d_check_turn (G : Gl) (Φ Ψ Γ : Nat → List D → M D) : FS := (sSeq (sIf (bOr (bNot (bVal (fCallU 1 (Φ 3) (aCons (eVar 0) aNil)))) (bNot (bTru (eVar 0)))) (sSeq sNone sNil) sNil) (sSeq (sFor (fEnum (aCons (eVar 0) aNil)) (gTupD [(gVar 1), (gVar 2)]) (sSeq (sIf (bNot (bVal (fCallU 2 (Φ 5) (aCons (eVar 2) (aCons (fCall cLen (aCons (eVar 0) aNil)) aNil))))) (sSeq sNone sNil) sNil) sNil)) (sSeq (sFor (fEnum (aCons (eVar 0) aNil)) (gTupD [(gVar 1), (gVar 2)]) (sSeq (sIf (bVal (fOp2 (opEq true) (fOp2 opIx (eVar 0) (eVar 2)) (eVar 1))) (sSeq sNone sNil) sNil) sNil)) sNil)))
theorem p_check_turn {G : Gl} {X : Cx} {E : XK} {Φ Ψ Γ : Nat → List D → M D} {k : Nat} (at_ : At X N_check_turn (C8.fnScope (top 15)) (C8.fnScope (top 15))) (fx : Fine G tfs tms tcs tkt Φ Ψ Γ k X) (hp : PassesOwn (model X.prog X.w) X.A X.env X.xe) : DSs G X E (C8.fnBody (top 15)) (d_check_turn G Φ Ψ Γ) := by
  unfold d_check_turn
  exact (dss_cons (ds_if (dw_or (dt_not (dt_val (bi_f at_ fx 3 rfl (by kernel_rfl) (da_cons (de_v at_ (by kernel_rfl)) da_nil rfl) rfl rfl) (fun _ => rfl))) (dw_or1 (dt_not (dt_tru fx.K (de_v at_ (by kernel_rfl)) (fun _ => rfl))))).pt (dss_cons ds_none dss_nil) dss_nil) (dss_cons (ds_for hp fx.calm (bi_enum at_ fx (by kernel_rfl) (da_cons (de_v at_ (by kernel_rfl)) da_nil rfl) rfl) (dg_tup fx.calm (dgs_cons (ks := [1, 2]) (dg_v at_ (by kernel_rfl)) (dgs_cons (ks := [1, 2]) (dg_v at_ (by kernel_rfl)) (dgs_nil (is := [1, 2])) (by decide) (by decide) rfl) (by decide) (by decide) rfl) rfl rfl) (dss_cons (ds_if (dt_not (dt_val (bi_f at_ fx 5 rfl (by kernel_rfl) (da_cons (de_v at_ (by kernel_rfl)) (da_cons (bi_len at_ fx (by kernel_rfl) (da_cons (de_v at_ (by kernel_rfl)) da_nil rfl) rfl) da_nil rfl) rfl) rfl rfl) (fun _ => rfl))) (dss_cons ds_none dss_nil) dss_nil) dss_nil) (fun _ => rfl)) (dss_cons (ds_for hp fx.calm (bi_enum at_ fx (by kernel_rfl) (da_cons (de_v at_ (by kernel_rfl)) da_nil rfl) rfl) (dg_tup fx.calm (dgs_cons (ks := [1, 2]) (dg_v at_ (by kernel_rfl)) (dgs_cons (ks := [1, 2]) (dg_v at_ (by kernel_rfl)) (dgs_nil (is := [1, 2])) (by decide) (by decide) rfl) (by decide) (by decide) rfl) rfl rfl) (dss_cons (ds_if (dt_cmp (op_neD fx.un) op2_ne (de_ix fx.K (de_v at_ (by kernel_rfl)) (de_v at_ (by kernel_rfl)) (fun _ _ => rfl)) (de_v at_ (by kernel_rfl)) rfl) (dss_cons ds_none dss_nil) dss_nil) dss_nil) (fun _ => rfl)) dss_nil)))
def N_is_row : List Str := ["value", "points", "ties", "tie"]
def d_is_row (G : Gl) (Φ Ψ Γ : Nat → List D → M D) : FS := (sSeq (sIf (bOr (bNot (bVal (fIsi ["tuple"] (eVar 0)))) (bVal (fOp2 (opEq true) (fCall cLen (aCons (eVar 0) aNil)) (eVar 1)))) (sSeq (sRet (eC (.bl false))) sNil) sNil) (sSeq (sFor (fVal (eVar 0)) (gVar 3) (sSeq (sIf (bNot (bVal (fCallU 2 (Φ 5) (aCons (eVar 3) (aCons (eVar 2) aNil))))) (sSeq (sRet (eC (.bl false))) sNil) sNil) sNil)) (sSeq (sRet (eC (.bl true))) sNil)))
theorem p_is_row {G : Gl} {X : Cx} {E : XK} {Φ Ψ Γ : Nat → List D → M D} {k : Nat} (at_ : At X N_is_row (C8.fnScope (top 11)) (C8.fnScope (top 11))) (fx : Fine G tfs tms tcs tkt Φ Ψ Γ k X) (hp : PassesOwn (model X.prog X.w) X.A X.env X.xe) : DSs G X E (C8.fnBody (top 11)) (d_is_row G Φ Ψ Γ) := by
  unfold d_is_row
  exact (dss_cons (ds_if (dw_or (dt_not (dt_val (bi_isi at_ fx "tuple" (by decide) (by kernel_rfl) (by kernel_rfl) (de_v at_ (by kernel_rfl)) rfl) (fun _ => rfl))) (dw_or1 (dt_cmp (op_neD fx.un) op2_ne (bi_len at_ fx (by kernel_rfl) (da_cons (de_v at_ (by kernel_rfl)) da_nil rfl) rfl) (de_v at_ (by kernel_rfl)) rfl))).pt (dss_cons (ds_ret de_bool) dss_nil) dss_nil) (dss_cons (ds_for hp fx.calm (di_val fx.K (de_v at_ (by kernel_rfl))) (dg_v at_ (by kernel_rfl)) (dss_cons (ds_if (dt_not (dt_val (bi_f at_ fx 5 rfl (by kernel_rfl) (da_cons (de_v at_ (by kernel_rfl)) (da_cons (de_v at_ (by kernel_rfl)) da_nil rfl) rfl) rfl rfl) (fun _ => rfl))) (dss_cons (ds_ret de_bool) dss_nil) dss_nil) dss_nil) (fun _ => rfl)) (dss_cons (ds_ret de_bool) dss_nil)))
def N_is_shape : List Str := ["value", "ties", "at", "row"]
def d_is_shape (G : Gl) (Φ Ψ Γ : Nat → List D → M D) : FS := (sSeq (sIf (bNot (bVal (fIsi ["tuple"] (eVar 0)))) (sSeq (sRet (eC (.bl false))) sNil) sNil) (sSeq (sFor (fEnum (aCons (eVar 0) aNil)) (gTupD [(gVar 2), (gVar 3)]) (sSeq (sIf (bNot (bVal (fCallU 3 (Φ 7) (aCons (eVar 3) (aCons (eVar 2) (aCons (eVar 1) aNil)))))) (sSeq (sRet (eC (.bl false))) sNil) sNil) sNil)) (sSeq (sRet (eC (.bl true))) sNil)))
theorem p_is_shape {G : Gl} {X : Cx} {E : XK} {Φ Ψ Γ : Nat → List D → M D} {k : Nat} (at_ : At X N_is_shape (C8.fnScope (top 12)) (C8.fnScope (top 12))) (fx : Fine G tfs tms tcs tkt Φ Ψ Γ k X) (hp : PassesOwn (model X.prog X.w) X.A X.env X.xe) : DSs G X E (C8.fnBody (top 12)) (d_is_shape G Φ Ψ Γ) := by
  unfold d_is_shape
  exact (dss_cons (ds_if (dt_not (dt_val (bi_isi at_ fx "tuple" (by decide) (by kernel_rfl) (by kernel_rfl) (de_v at_ (by kernel_rfl)) rfl) (fun _ => rfl))) (dss_cons (ds_ret de_bool) dss_nil) dss_nil) (dss_cons (ds_for hp fx.calm (bi_enum at_ fx (by kernel_rfl) (da_cons (de_v at_ (by kernel_rfl)) da_nil rfl) rfl) (dg_tup fx.calm (dgs_cons (ks := [2, 3]) (dg_v at_ (by kernel_rfl)) (dgs_cons (ks := [2, 3]) (dg_v at_ (by kernel_rfl)) (dgs_nil (is := [2, 3])) (by decide) (by decide) rfl) (by decide) (by decide) rfl) rfl rfl) (dss_cons (ds_if (dt_not (dt_val (bi_f at_ fx 7 rfl (by kernel_rfl) (da_cons (de_v at_ (by kernel_rfl)) (da_cons (de_v at_ (by kernel_rfl)) (da_cons (de_v at_ (by kernel_rfl)) da_nil rfl) rfl) rfl) rfl rfl) (fun _ => rfl))) (dss_cons (ds_ret de_bool) dss_nil) dss_nil) dss_nil) (fun _ => rfl)) (dss_cons (ds_ret de_bool) dss_nil)))
def N_check_bars : List Str := ["bars", "ties", "at", "bar"]
def d_check_bars (G : Gl) (Φ Ψ Γ : Nat → List D → M D) : FS := (sSeq (sIf (bNot (bVal (fCallU 1 (Φ 3) (aCons (eVar 0) aNil)))) (sSeq sNone sNil) sNil) (sSeq (sFor (fEnum (aCons (eVar 0) aNil)) (gTupD [(gVar 2), (gVar 3)]) (sSeq (sIf (bOr (bNot (bVal (fCallU 2 (Φ 8) (aCons (eVar 3) (aCons (eVar 1) aNil))))) (bVal (fOp2 (opIn true) (fCall cLen (aCons (eVar 3) aNil)) (fTup (aCons (eC (.int 3)) (aCons (eC (.int 4)) aNil)))))) (sSeq sNone sNil) sNil) sNil)) sNil))
theorem p_check_bars {G : Gl} {X : Cx} {E : XK} {Φ Ψ Γ : Nat → List D → M D} {k : Nat} (at_ : At X N_check_bars (C8.fnScope (top 31)) (C8.fnScope (top 31))) (fx : Fine G tfs tms tcs tkt Φ Ψ Γ k X) (hp : PassesOwn (model X.prog X.w) X.A X.env X.xe) : DSs G X E (C8.fnBody (top 31)) (d_check_bars G Φ Ψ Γ) := by
  unfold d_check_bars
  exact (dss_cons (ds_if (dt_not (dt_val (bi_f at_ fx 3 rfl (by kernel_rfl) (da_cons (de_v at_ (by kernel_rfl)) da_nil rfl) rfl rfl) (fun _ => rfl))) (dss_cons ds_none dss_nil) dss_nil) (dss_cons (ds_for hp fx.calm (bi_enum at_ fx (by kernel_rfl) (da_cons (de_v at_ (by kernel_rfl)) da_nil rfl) rfl) (dg_tup fx.calm (dgs_cons (ks := [2, 3]) (dg_v at_ (by kernel_rfl)) (dgs_cons (ks := [2, 3]) (dg_v at_ (by kernel_rfl)) (dgs_nil (is := [2, 3])) (by decide) (by decide) rfl) (by decide) (by decide) rfl) rfl rfl) (dss_cons (ds_if (dw_or (dt_not (dt_val (bi_f at_ fx 8 rfl (by kernel_rfl) (da_cons (de_v at_ (by kernel_rfl)) (da_cons (de_v at_ (by kernel_rfl)) da_nil rfl) rfl) rfl rfl) (fun _ => rfl))) (dw_or1 (dt_cmp op_notIn_seq (op2_in fx.K) (bi_len at_ fx (by kernel_rfl) (da_cons (de_v at_ (by kernel_rfl)) da_nil rfl) rfl) (de_tup (da_cons de_int (da_cons de_int da_nil rfl) rfl)) rfl))).pt (dss_cons ds_none dss_nil) dss_nil) dss_nil) (fun _ => rfl)) dss_nil))
def N_tie_in : List Str := ["turn", "picture", "start", "end"]
def d_tie_in (G : Gl) (Φ Ψ Γ : Nat → List D → M D) : FS := (sSeq (sIf (bVal (fOp2 opLt (eVar 2) (eVar 3))) (sSeq (sRet (fOp2 opIx (fOp2 opIx (eVar 1) (eVar 3)) (eVar 2))) sNil) sNil) (sSeq (sRet (fOp2 opIx (eVar 0) (fOp2 opIx (fOp2 opIx (eVar 1) (eVar 2)) (eVar 3)))) sNil))
theorem p_tie_in {G : Gl} {X : Cx} {E : XK} {Φ Ψ Γ : Nat → List D → M D} {k : Nat} (at_ : At X N_tie_in (C8.fnScope (top 17)) (C8.fnScope (top 17))) (fx : Fine G tfs tms tcs tkt Φ Ψ Γ k X) (hp : PassesOwn (model X.prog X.w) X.A X.env X.xe) : DSs G X E (C8.fnBody (top 17)) (d_tie_in G Φ Ψ Γ) := by
  unfold d_tie_in
  exact (dss_cons (ds_if (dt_cmp (op_or op_lt (op_ltT fx.un0)) op2_lt (de_v at_ (by kernel_rfl)) (de_v at_ (by kernel_rfl)) rfl) (dss_cons (ds_ret (de_ix fx.K (de_ix fx.K (de_v at_ (by kernel_rfl)) (de_v at_ (by kernel_rfl)) (fun _ _ => rfl)) (de_v at_ (by kernel_rfl)) (fun _ _ => rfl))) dss_nil) dss_nil) (dss_cons (ds_ret (de_ix fx.K (de_v at_ (by kernel_rfl)) (de_ix fx.K (de_ix fx.K (de_v at_ (by kernel_rfl)) (de_v at_ (by kernel_rfl)) (fun _ _ => rfl)) (de_v at_ (by kernel_rfl)) (fun _ _ => rfl)) (fun _ _ => rfl))) dss_nil))
def N_least_shape : List Str := ["turn", "picture", "points", "full", "starts", "rows", "_", "best", "kept", "places", "b", "point", "a", "row", "place"]
def d_least_shape (G : Gl) (Φ Ψ Γ : Nat → List D → M D) : FS := (sSeq (sAsg (fCall cRange1 (aCons (fCall cLen (aCons (eVar 1) aNil)) aNil)) (gVar 2)) (sSeq (sAsg (fNew (fComp (fVal (eVar 2)) (gVar 10) bTrue (fNew (fComp (fVal (eVar 2)) (gVar 12) bTrue (vIf (bVal (fOp2 (opEq false) (eVar 12) (eVar 10))) (eC .non) (fCallU 4 (Φ 10) (aCons (eVar 0) (aCons (eVar 1) (aCons (eVar 12) (aCons (eVar 10) aNil)))))) [12])) [10])) (gVar 3)) (sSeq (sAsg (fNew (fLst (aCons (fTup aNil) aNil))) (gVar 4)) (sSeq (sAsg (fNew (fLst aNil)) (gVar 5)) (sSeq (sFor (fVal (eVar 2)) (gVar 6) (sSeq (sAsg (eC .non) (gVar 7)) (sSeq (sAsg (fNew (fLst aNil)) (gVar 8)) (sSeq (sFor (fVal (eVar 4)) (gVar 9) (sSeq (sFor (fVal (eVar 2)) (gVar 11) (sSeq (sIf (bVal (fOp2 (opIn true) (eVar 11) (eVar 9))) (sSeq (sAsg (fCall cTupN (fComp (fVal (eVar 9)) (gVar 14) bTrue (fOp2 opIx (fOp2 opIx (eVar 3) (eVar 11)) (eVar 14)) [14])) (gVar 13)) (sSeq (sIf (bOr (bVal (fOp2 (opIs false) (eVar 7) (eC .non))) (bVal (fOp2 opLt (eVar 13) (eVar 7)))) (sSeq (sAsg (eVar 13) (gVar 7)) (sSeq (sAsg (fNew (fLst aNil)) (gVar 8)) sNil)) sNil) (sSeq (sIf (bVal (fOp2 (opEq false) (eVar 13) (eVar 7))) (sSeq (sDrop (fApp (eVar 8) (aCons (fOp2 opAdd (eVar 9) (fTup (aCons (eVar 11) aNil))) aNil))) sNil) sNil) sNil))) sNil) sNil)) sNil)) (sSeq (sAsg (eVar 8) (gVar 4)) (sSeq (sDrop (fApp (eVar 5) (aCons (eVar 7) aNil))) sNil)))))) (sSeq (sRet (fCall cTup (aCons (eVar 5) aNil))) sNil))))))
theorem p_least_shape {G : Gl} {X : Cx} {E : XK} {Φ Ψ Γ : Nat → List D → M D} {k : Nat} (at_ : At X N_least_shape (C8.fnScope (top 21)) (C8.fnScope (top 21))) (fx : Fine G tfs tms tcs tkt Φ Ψ Γ k X) (hp : PassesOwn (model X.prog X.w) X.A X.env X.xe) : DSs G X E (C8.fnBody (top 21)) (d_least_shape G Φ Ψ Γ) := by
  unfold d_least_shape
  exact (dss_cons (ds_asg (bi_range1 at_ fx (by kernel_rfl) (da_cons (bi_len at_ fx (by kernel_rfl) (da_cons (de_v at_ (by kernel_rfl)) da_nil rfl) rfl) da_nil rfl) rfl) (dg_v at_ (by kernel_rfl)) rfl rfl rfl) (dss_cons (ds_asg (de_new (dl_lc fx.calm at_.nd' (di_val fx.K (de_v at_ (by kernel_rfl))) (at_.blkOk (own := [("b", 10)]) (by kernel_rfl)) (inB (Q := fun Y => DG G Y _ _ _) at_ fx fun Y at_ fx => (dg_v at_ (by kernel_rfl))) (inB (Q := fun Y => PTs Y _ (Lf G rB NoX _)) at_ fx fun Y at_ fx => dts_nil) (inB (Q := fun Y => DE G Y NoX _ _) at_ fx fun Y at_ fx => (de_new (dl_lc fx.calm at_.nd' (di_val fx.K (de_v at_ (by kernel_rfl))) (at_.blkOk (own := [("a", 12)]) (by kernel_rfl)) (inB (Q := fun Y => DG G Y _ _ _) at_ fx fun Y at_ fx => (dg_v at_ (by kernel_rfl))) (inB (Q := fun Y => PTs Y _ (Lf G rB NoX _)) at_ fx fun Y at_ fx => dts_nil) (inB (Q := fun Y => DE G Y NoX _ _) at_ fx fun Y at_ fx => (de_if (dt_cmp (op_eqD fx.un) op2_eq (de_v at_ (by kernel_rfl)) (de_v at_ (by kernel_rfl)) rfl) de_non (bi_f at_ fx 10 rfl (by kernel_rfl) (da_cons (de_v at_ (by kernel_rfl)) (da_cons (de_v at_ (by kernel_rfl)) (da_cons (de_v at_ (by kernel_rfl)) (da_cons (de_v at_ (by kernel_rfl)) da_nil rfl) rfl) rfl) rfl) rfl rfl))) (by decide) (fun _ => rfl)))) (by decide) (fun _ => rfl))) (dg_v at_ (by kernel_rfl)) (noSwL at_ (by kernel_rfl)) rfl rfl) (dss_cons (ds_asg (de_new (dl_lst (da_cons (de_tup da_nil) da_nil rfl))) (dg_v at_ (by kernel_rfl)) rfl rfl rfl) (dss_cons (ds_asg (de_new (dl_lst da_nil)) (dg_v at_ (by kernel_rfl)) rfl rfl rfl) (dss_cons (ds_for hp fx.calm (di_val fx.K (de_v at_ (by kernel_rfl))) (dg_v at_ (by kernel_rfl)) (dss_cons (ds_asg de_non (dg_v at_ (by kernel_rfl)) rfl rfl rfl) (dss_cons (ds_asg (de_new (dl_lst da_nil)) (dg_v at_ (by kernel_rfl)) rfl rfl rfl) (dss_cons (ds_for hp fx.calm (di_val fx.K (de_v at_ (by kernel_rfl))) (dg_v at_ (by kernel_rfl)) (dss_cons (ds_for hp fx.calm (di_val fx.K (de_v at_ (by kernel_rfl))) (dg_v at_ (by kernel_rfl)) (dss_cons (ds_if (dt_cmp op_notIn_seq (op2_in fx.K) (de_v at_ (by kernel_rfl)) (de_v at_ (by kernel_rfl)) rfl) (dss_cons (ds_asg (bi_tupN at_ fx (by kernel_rfl) (dl_lc fx.calm at_.nd' (di_val fx.K (de_v at_ (by kernel_rfl))) (at_.blkOk (own := [("place", 14)]) (by kernel_rfl)) (inB (Q := fun Y => DG G Y _ _ _) at_ fx fun Y at_ fx => (dg_v at_ (by kernel_rfl))) (inB (Q := fun Y => PTs Y _ (Lf G rB NoX _)) at_ fx fun Y at_ fx => dts_nil) (inB (Q := fun Y => DE G Y NoX _ _) at_ fx fun Y at_ fx => (de_ix fx.K (de_ix fx.K (de_v at_ (by kernel_rfl)) (de_v at_ (by kernel_rfl)) (fun _ _ => rfl)) (de_v at_ (by kernel_rfl)) (fun _ _ => rfl))) (by decide) (fun _ => rfl)) rfl) (dg_v at_ (by kernel_rfl)) rfl rfl rfl) (dss_cons (ds_if (dw_or (dt_cmp (op_or op_isN op_isBl) op2_is (de_v at_ (by kernel_rfl)) de_non rfl) (dw_or1 (dt_cmp (op_or op_lt (op_ltT fx.un0)) op2_lt (de_v at_ (by kernel_rfl)) (de_v at_ (by kernel_rfl)) rfl))).pt (dss_cons (ds_asg (de_v at_ (by kernel_rfl)) (dg_v at_ (by kernel_rfl)) rfl rfl rfl) (dss_cons (ds_asg (de_new (dl_lst da_nil)) (dg_v at_ (by kernel_rfl)) rfl rfl rfl) dss_nil)) dss_nil) (dss_cons (ds_if (dt_cmp (op_eqD fx.un) op2_eq (de_v at_ (by kernel_rfl)) (de_v at_ (by kernel_rfl)) rfl) (dss_cons (ds_drop (de_app (de_v at_ (by kernel_rfl)) (da_cons (de_op (op_or op_add op_catA) op2_add (de_v at_ (by kernel_rfl)) (de_tup (da_cons (de_v at_ (by kernel_rfl)) da_nil rfl))) da_nil rfl) rfl rfl rfl rfl) rfl) dss_nil) dss_nil) dss_nil))) dss_nil) dss_nil) (fun _ => rfl)) dss_nil) (fun _ => rfl)) (dss_cons (ds_asg (de_v at_ (by kernel_rfl)) (dg_v at_ (by kernel_rfl)) rfl rfl rfl) (dss_cons (ds_drop (de_app (de_v at_ (by kernel_rfl)) (da_cons (de_v at_ (by kernel_rfl)) da_nil rfl) rfl rfl rfl rfl) rfl) dss_nil))))) (fun _ => rfl)) (dss_cons (ds_ret (bi_tup at_ fx (by kernel_rfl) (da_cons (de_v at_ (by kernel_rfl)) da_nil rfl) rfl)) dss_nil))))))
def N_by_size : List Str := ["picture"]
def d_by_size (G : Gl) (Φ Ψ Γ : Nat → List D → M D) : FS := (sSeq (sRet (fTup (aCons (fCall cLen (aCons (eVar 0) aNil)) (aCons (eVar 0) aNil)))) sNil)
theorem p_by_size {G : Gl} {X : Cx} {E : XK} {Φ Ψ Γ : Nat → List D → M D} {k : Nat} (at_ : At X N_by_size (C8.fnScope (top 22)) (C8.fnScope (top 22))) (fx : Fine G tfs tms tcs tkt Φ Ψ Γ k X) (hp : PassesOwn (model X.prog X.w) X.A X.env X.xe) : DSs G X E (C8.fnBody (top 22)) (d_by_size G Φ Ψ Γ) := by
  unfold d_by_size
  exact (dss_cons (ds_ret (de_tup (da_cons (bi_len at_ fx (by kernel_rfl) (da_cons (de_v at_ (by kernel_rfl)) da_nil rfl) rfl) (da_cons (de_v at_ (by kernel_rfl)) da_nil rfl) rfl))) dss_nil)
def N_flat : List Str := ["picture", "row", "tie"]
def d_flat (G : Gl) (Φ Ψ Γ : Nat → List D → M D) : FS := (sSeq (sRet (fCall cTupN (fComp2 (fVal (eVar 0)) (gVar 1) bTrue (fVal (eVar 1)) (gVar 2) bTrue (eVar 2) [1, 2] [2]))) sNil)
theorem p_flat {G : Gl} {X : Cx} {E : XK} {Φ Ψ Γ : Nat → List D → M D} {k : Nat} (at_ : At X N_flat (C8.fnScope (top 20)) (C8.fnScope (top 20))) (fx : Fine G tfs tms tcs tkt Φ Ψ Γ k X) (hp : PassesOwn (model X.prog X.w) X.A X.env X.xe) : DSs G X E (C8.fnBody (top 20)) (d_flat G Φ Ψ Γ) := by
  unfold d_flat
  exact (dss_cons (ds_ret (bi_tupN at_ fx (by kernel_rfl) (dl_lc2 (own := [("row", 1), ("tie", 2)]) (vs1 := [2]) (pe_lc2 fx.calm at_.nd' (di_val fx.K (de_v at_ (by kernel_rfl))) (at_.blkOk (own := [("row", 1), ("tie", 2)]) (by kernel_rfl)) (by decide) (inB (Q := fun Y => DG G Y _ _ _) at_ fx fun Y at_ fx => (dg_v at_ (by kernel_rfl))) (inB (Q := fun Y => PTs Y _ (Lf G rB NoX _)) at_ fx fun Y at_ fx => dts_nil) (inB (Q := fun Y => DI G Y NoX _ _ _) at_ fx fun Y at_ fx => (di_val fx.K (de_v at_ (by kernel_rfl)))) (inB (Q := fun Y => DG G Y _ _ _) at_ fx fun Y at_ fx => (dg_v at_ (by kernel_rfl))) (inB (Q := fun Y => PTs Y _ (Lf G rB NoX _)) at_ fx fun Y at_ fx => dts_nil) (inB (Q := fun Y => DE G Y NoX _ _) at_ fx fun Y at_ fx => (de_v at_ (by kernel_rfl))) (fun _ => rfl) (fun _ _ => rfl)) (by decide) (by decide)) rfl)) dss_nil)
def N_row_to : List Str := ["turn", "picture", "places", "point", "place"]
def d_row_to (G : Gl) (Φ Ψ Γ : Nat → List D → M D) : FS := (sSeq (sRet (fCall cTupN (fComp (fVal (eVar 2)) (gVar 4) bTrue (fCallU 4 (Φ 10) (aCons (eVar 0) (aCons (eVar 1) (aCons (eVar 4) (aCons (eVar 3) aNil))))) [4]))) sNil)
theorem p_row_to {G : Gl} {X : Cx} {E : XK} {Φ Ψ Γ : Nat → List D → M D} {k : Nat} (at_ : At X N_row_to (C8.fnScope (top 18)) (C8.fnScope (top 18))) (fx : Fine G tfs tms tcs tkt Φ Ψ Γ k X) (hp : PassesOwn (model X.prog X.w) X.A X.env X.xe) : DSs G X E (C8.fnBody (top 18)) (d_row_to G Φ Ψ Γ) := by
  unfold d_row_to
  exact (dss_cons (ds_ret (bi_tupN at_ fx (by kernel_rfl) (dl_lc fx.calm at_.nd' (di_val fx.K (de_v at_ (by kernel_rfl))) (at_.blkOk (own := [("place", 4)]) (by kernel_rfl)) (inB (Q := fun Y => DG G Y _ _ _) at_ fx fun Y at_ fx => (dg_v at_ (by kernel_rfl))) (inB (Q := fun Y => PTs Y _ (Lf G rB NoX _)) at_ fx fun Y at_ fx => dts_nil) (inB (Q := fun Y => DE G Y NoX _ _) at_ fx fun Y at_ fx => (bi_f at_ fx 10 rfl (by kernel_rfl) (da_cons (de_v at_ (by kernel_rfl)) (da_cons (de_v at_ (by kernel_rfl)) (da_cons (de_v at_ (by kernel_rfl)) (da_cons (de_v at_ (by kernel_rfl)) da_nil rfl) rfl) rfl) rfl) rfl rfl)) (by decide) (fun _ => rfl)) rfl)) dss_nil)
def N_cut : List Str := ["turn", "picture", "places", "at", "point"]
def d_cut (G : Gl) (Φ Ψ Γ : Nat → List D → M D) : FS := (sSeq (sRet (fCall cTupN (fComp (fEnum (aCons (eVar 2) aNil)) (gTupD [(gVar 3), (gVar 4)]) bTrue (fCallU 4 (Φ 14) (aCons (eVar 0) (aCons (eVar 1) (aCons (fSlT (eVar 2) oNone (oSome (eVar 3))) (aCons (eVar 4) aNil))))) [3, 4]))) sNil)
theorem p_cut {G : Gl} {X : Cx} {E : XK} {Φ Ψ Γ : Nat → List D → M D} {k : Nat} (at_ : At X N_cut (C8.fnScope (top 19)) (C8.fnScope (top 19))) (fx : Fine G tfs tms tcs tkt Φ Ψ Γ k X) (hp : PassesOwn (model X.prog X.w) X.A X.env X.xe) : DSs G X E (C8.fnBody (top 19)) (d_cut G Φ Ψ Γ) := by
  unfold d_cut
  exact (dss_cons (ds_ret (bi_tupN at_ fx (by kernel_rfl) (dl_lc fx.calm at_.nd' (bi_enum at_ fx (by kernel_rfl) (da_cons (de_v at_ (by kernel_rfl)) da_nil rfl) rfl) (at_.blkOk (own := [("at", 3), ("point", 4)]) (by kernel_rfl)) (inB (Q := fun Y => DG G Y _ _ _) at_ fx fun Y at_ fx => (dg_tup fx.calm (dgs_cons (ks := [3, 4]) (dg_v at_ (by kernel_rfl)) (dgs_cons (ks := [3, 4]) (dg_v at_ (by kernel_rfl)) (dgs_nil (is := [3, 4])) (by decide) (by decide) rfl) (by decide) (by decide) rfl) rfl rfl)) (inB (Q := fun Y => PTs Y _ (Lf G rB NoX _)) at_ fx fun Y at_ fx => dts_nil) (inB (Q := fun Y => DE G Y NoX _ _) at_ fx fun Y at_ fx => (bi_f at_ fx 14 rfl (by kernel_rfl) (da_cons (de_v at_ (by kernel_rfl)) (da_cons (de_v at_ (by kernel_rfl)) (da_cons (de_slT (de_v at_ (by kernel_rfl)) do_none (do_some (de_v at_ (by kernel_rfl)))) (da_cons (de_v at_ (by kernel_rfl)) da_nil rfl) rfl) rfl) rfl) rfl rfl)) (by decide) (fun _ => rfl)) rfl)) dss_nil)
def N_barred_orders : List Str := ["turn", "bars", "found", "bar", "places"]
def d_barred_orders (G : Gl) (Φ Ψ Γ : Nat → List D → M D) : FS := (sSeq (sAsg fDct0 (gVar 2)) (sSeq (sFor (fVal (eVar 1)) (gVar 3) (sSeq (sFor (fPerm (aCons (fCall cRange1 (aCons (fCall cLen (aCons (eVar 3) aNil)) aNil)) aNil)) (gVar 4) (sSeq (sSub (eC (.bl true)) (eVar 2) (fCallU 1 (Φ 13) (aCons (fCallU 3 (Φ 15) (aCons (eVar 0) (aCons (eVar 3) (aCons (eVar 4) aNil)))) aNil)) wDct) sNil)) sNil)) (sSeq (sRet (eVar 2)) sNil)))
theorem p_barred_orders {G : Gl} {X : Cx} {E : XK} {Φ Ψ Γ : Nat → List D → M D} {k : Nat} (at_ : At X N_barred_orders (C8.fnScope (top 32)) (C8.fnScope (top 32))) (fx : Fine G tfs tms tcs tkt Φ Ψ Γ k X) (hp : PassesOwn (model X.prog X.w) X.A X.env X.xe) : DSs G X E (C8.fnBody (top 32)) (d_barred_orders G Φ Ψ Γ) := by
  unfold d_barred_orders
  exact (dss_cons (ds_asg de_dict0 (dg_v at_ (by kernel_rfl)) rfl rfl rfl) (dss_cons (ds_for hp fx.calm (di_val fx.K (de_v at_ (by kernel_rfl))) (dg_v at_ (by kernel_rfl)) (dss_cons (ds_for hp fx.calm (bi_perm at_ fx (by kernel_rfl) (da_cons (bi_range1 at_ fx (by kernel_rfl) (da_cons (bi_len at_ fx (by kernel_rfl) (da_cons (de_v at_ (by kernel_rfl)) da_nil rfl) rfl) da_nil rfl) rfl) da_nil rfl) rfl) (dg_v at_ (by kernel_rfl)) (dss_cons (ds_sub de_bool (de_v at_ (by kernel_rfl)) (bi_f at_ fx 13 rfl (by kernel_rfl) (da_cons (bi_f at_ fx 15 rfl (by kernel_rfl) (da_cons (de_v at_ (by kernel_rfl)) (da_cons (de_v at_ (by kernel_rfl)) (da_cons (de_v at_ (by kernel_rfl)) da_nil rfl) rfl) rfl) rfl rfl) da_nil rfl) rfl rfl) pset_sem (setD_dct fx.P fx.w fx.un20) (fun _ => rfl) rfl rfl) dss_nil) (fun _ => rfl)) dss_nil) (fun _ => rfl)) (dss_cons (ds_ret (de_v at_ (by kernel_rfl))) dss_nil)))
def N_Table___init : List Str := ["self", "turn", "bars", "shapes", "bar"]
def d_Table___init (G : Gl) (Φ Ψ Γ : Nat → List D → M D) : FS := (sSeq (sDrop (fCallU 1 (Φ 6) (aCons (eVar 1) aNil))) (sSeq (sDrop (fCallU 2 (Φ 9) (aCons (eVar 2) (aCons (fCall cLen (aCons (eVar 1) aNil)) aNil)))) (sSeq (sFldD G (eVar 0) (fCall cTup (aCons (eVar 1) aNil)) "turn") (sSeq (sFldD G (eVar 0) (fCall cLen (aCons (fFld G "turn" (eVar 0)) aNil)) "ties") (sSeq (sAsg (fCompD (fVal (eVar 2)) (gVar 4) bTrue (fCallU 2 (Φ 11) (aCons (fFld G "turn" (eVar 0)) (aCons (eVar 4) aNil))) (eC (.bl true)) [4]) (gVar 3)) (sSeq (sFldD G (eVar 0) (fCall cTupN (fSortKey (Φ 12) (fCall cListDct (aCons (eVar 3) aNil)))) "bars") (sSeq (sFldD G (eVar 0) (eC (.int 3)) "widest") (sSeq (sFor (fVal (fFld G "bars" (eVar 0))) (gVar 4) (sSeq (sFldD G (eVar 0) (fCall cMax2 (aCons (fFld G "widest" (eVar 0)) (aCons (fCall cLen (aCons (eVar 4) aNil)) aNil))) "widest") sNil)) (sSeq (sFldD G (eVar 0) (fCallU 2 (Φ 16) (aCons (fFld G "turn" (eVar 0)) (aCons (fFld G "bars" (eVar 0)) aNil))) "barred") (sSeq (sFldD G (eVar 0) fDct0 "notes") sNil))))))))))
theorem p_Table___init {G : Gl} {X : Cx} {E : XK} {Φ Ψ Γ : Nat → List D → M D} {k : Nat} (at_ : At X N_Table___init (C8.fnScope ((C8.clsBody (top 33)).getD 0 (.Pass ⟨0, 0, 0, 0⟩))) (C8.fnScope ((C8.clsBody (top 33)).getD 0 (.Pass ⟨0, 0, 0, 0⟩)))) (fx : Fine G tfs tms tcs tkt Φ Ψ Γ k X) (hp : PassesOwn (model X.prog X.w) X.A X.env X.xe) : DSs G X E (C8.fnBody ((C8.clsBody (top 33)).getD 0 (.Pass ⟨0, 0, 0, 0⟩))) (d_Table___init G Φ Ψ Γ) := by
  unfold d_Table___init
  exact (dss_cons (ds_drop (bi_f at_ fx 6 rfl (by kernel_rfl) (da_cons (de_v at_ (by kernel_rfl)) da_nil rfl) rfl rfl) rfl) (dss_cons (ds_drop (bi_f at_ fx 9 rfl (by kernel_rfl) (da_cons (de_v at_ (by kernel_rfl)) (da_cons (bi_len at_ fx (by kernel_rfl) (da_cons (de_v at_ (by kernel_rfl)) da_nil rfl) rfl) da_nil rfl) rfl) rfl rfl) rfl) (dss_cons (ds_fld fx.att (de_v at_ (by kernel_rfl)) (bi_tup at_ fx (by kernel_rfl) (da_cons (de_v at_ (by kernel_rfl)) da_nil rfl) rfl) rfl) (dss_cons (ds_fld fx.att (de_v at_ (by kernel_rfl)) (bi_len at_ fx (by kernel_rfl) (da_cons (bi_fld at_ fx (de_v at_ (by kernel_rfl)) rfl) da_nil rfl) rfl) rfl) (dss_cons (ds_asg_of (ps_setDcn (own := [("bar", 4)]) fx.calm at_.nd' (at_.nth (by kernel_rfl)) (at_.lo (by kernel_rfl)) (swD at_ (by kernel_rfl)) (di_val fx.K (de_v at_ (by kernel_rfl))) (at_.blkOk (by kernel_rfl)) (inB (Q := fun Y => DG G Y _ _ _) at_ fx fun Y at_ fx => (dg_v at_ (by kernel_rfl))) (inB (Q := fun Y => PTs Y _ (Lf G rB NoX _)) at_ fx fun Y at_ fx => dts_nil) (inB (Q := fun Y => DE G Y NoX _ _) at_ fx fun Y at_ fx => (bi_f at_ fx 11 rfl (by kernel_rfl) (da_cons (bi_fld at_ fx (de_v at_ (by kernel_rfl)) rfl) (da_cons (de_v at_ (by kernel_rfl)) da_nil rfl) rfl) rfl rfl)) (inB (Q := fun Y => DE G Y NoX _ _) at_ fx fun Y at_ fx => de_bool) (fun _ => rfl)) (dc_le fx.P fx.w fx.un20 (by decide))) (dss_cons (ds_fld fx.att (de_v at_ (by kernel_rfl)) (bi_tupN at_ fx (by kernel_rfl) (bi_sortKey at_ fx 12 (n := 1) rfl (by kernel_rfl) (by kernel_rfl) (bi_listD at_ fx (by kernel_rfl) (da_cons (de_v at_ (by kernel_rfl)) da_nil rfl) rfl) rfl rfl rfl) rfl) rfl) (dss_cons (ds_fld fx.att (de_v at_ (by kernel_rfl)) de_int rfl) (dss_cons (ds_for hp fx.calm (di_val fx.K (bi_fld at_ fx (de_v at_ (by kernel_rfl)) rfl)) (dg_v at_ (by kernel_rfl)) (dss_cons (ds_fld fx.att (de_v at_ (by kernel_rfl)) (bi_max2 at_ fx (by kernel_rfl) (da_cons (bi_fld at_ fx (de_v at_ (by kernel_rfl)) rfl) (da_cons (bi_len at_ fx (by kernel_rfl) (da_cons (de_v at_ (by kernel_rfl)) da_nil rfl) rfl) da_nil rfl) rfl) rfl rfl) rfl) dss_nil) (fun _ => rfl)) (dss_cons (ds_fld fx.att (de_v at_ (by kernel_rfl)) (bi_f at_ fx 16 rfl (by kernel_rfl) (da_cons (bi_fld at_ fx (de_v at_ (by kernel_rfl)) rfl) (da_cons (bi_fld at_ fx (de_v at_ (by kernel_rfl)) rfl) da_nil rfl) rfl) rfl rfl) rfl) (dss_cons (ds_fld fx.att (de_v at_ (by kernel_rfl)) de_dict0 rfl) dss_nil))))))))))
def N_l_law_picture : List Str := ["source", "ties", "points", "rows", "j", "i"]
def d_l_law_picture (G : Gl) (Φ Ψ Γ : Nat → List D → M D) : FS := (sSeq (sAsg (fNew (fLst aNil)) (gVar 3)) (sSeq (sFor (fVal (fCall cRange1 (aCons (eVar 2) aNil))) (gVar 4) (sSeq (sDrop (fApp (eVar 3) (aCons (fCall cTupN (fComp (fVal (fCall cRange1 (aCons (eVar 4) aNil))) (gVar 5) bTrue (fCallU 2 (Φ 1) (aCons (eVar 0) (aCons (eVar 1) aNil))) [5])) aNil))) sNil)) (sSeq (sRet (fCall cTup (aCons (eVar 3) aNil))) sNil)))
theorem p_l_law_picture {G : Gl} {X : Cx} {E : XK} {Φ Ψ Γ : Nat → List D → M D} {k : Nat} (at_ : At X N_l_law_picture (C8.fnScope (top 43)) (C8.fnScope (top 43))) (fx : Fine G tfs tms tcs tkt Φ Ψ Γ k X) (hp : PassesOwn (model X.prog X.w) X.A X.env X.xe) : DSs G X E (C8.fnBody (top 43)) (d_l_law_picture G Φ Ψ Γ) := by
  unfold d_l_law_picture
  exact (dss_cons (ds_asg (de_new (dl_lst da_nil)) (dg_v at_ (by kernel_rfl)) rfl rfl rfl) (dss_cons (ds_for hp fx.calm (di_val fx.K (bi_range1 at_ fx (by kernel_rfl) (da_cons (de_v at_ (by kernel_rfl)) da_nil rfl) rfl)) (dg_v at_ (by kernel_rfl)) (dss_cons (ds_drop (de_app (de_v at_ (by kernel_rfl)) (da_cons (bi_tupN at_ fx (by kernel_rfl) (dl_lc fx.calm at_.nd' (di_val fx.K (bi_range1 at_ fx (by kernel_rfl) (da_cons (de_v at_ (by kernel_rfl)) da_nil rfl) rfl)) (at_.blkOk (own := [("i", 5)]) (by kernel_rfl)) (inB (Q := fun Y => DG G Y _ _ _) at_ fx fun Y at_ fx => (dg_v at_ (by kernel_rfl))) (inB (Q := fun Y => PTs Y _ (Lf G rB NoX _)) at_ fx fun Y at_ fx => dts_nil) (inB (Q := fun Y => DE G Y NoX _ _) at_ fx fun Y at_ fx => (bi_f at_ fx 1 rfl (by kernel_rfl) (da_cons (de_v at_ (by kernel_rfl)) (da_cons (de_v at_ (by kernel_rfl)) da_nil rfl) rfl) rfl rfl)) (by decide) (fun _ => rfl)) rfl) da_nil rfl) rfl rfl rfl rfl) rfl) dss_nil) (fun _ => rfl)) (dss_cons (ds_ret (bi_tup at_ fx (by kernel_rfl) (da_cons (de_v at_ (by kernel_rfl)) da_nil rfl) rfl)) dss_nil)))
def N_l_law_orders : List Str := ["many", "orders", "k", "longer", "order", "at"]
def d_l_law_orders (G : Gl) (Φ Ψ Γ : Nat → List D → M D) : FS := (sSeq (sAsg (fNew (fLst (aCons (fTup aNil) aNil))) (gVar 1)) (sSeq (sFor (fVal (fCall cRange1 (aCons (eVar 0) aNil))) (gVar 2) (sSeq (sAsg (fNew (fLst aNil)) (gVar 3)) (sSeq (sFor (fVal (eVar 1)) (gVar 4) (sSeq (sFor (fVal (fCall cRange1 (aCons (fOp2 opAdd (eVar 2) (eC (.int 1))) aNil))) (gVar 5) (sSeq (sDrop (fApp (eVar 3) (aCons (fOp2 opAdd (fOp2 opAdd (fSlT (eVar 4) oNone (oSome (eVar 5))) (fTup (aCons (eVar 2) aNil))) (fSlT (eVar 4) (oSome (eVar 5)) oNone)) aNil))) sNil)) sNil)) (sSeq (sAsg (eVar 3) (gVar 1)) sNil)))) (sSeq (sRet (eVar 1)) sNil)))
theorem p_l_law_orders {G : Gl} {X : Cx} {E : XK} {Φ Ψ Γ : Nat → List D → M D} {k : Nat} (at_ : At X N_l_law_orders (C8.fnScope (top 39)) (C8.fnScope (top 39))) (fx : Fine G tfs tms tcs tkt Φ Ψ Γ k X) (hp : PassesOwn (model X.prog X.w) X.A X.env X.xe) : DSs G X E (C8.fnBody (top 39)) (d_l_law_orders G Φ Ψ Γ) := by
  unfold d_l_law_orders
  exact (dss_cons (ds_asg (de_new (dl_lst (da_cons (de_tup da_nil) da_nil rfl))) (dg_v at_ (by kernel_rfl)) rfl rfl rfl) (dss_cons (ds_for hp fx.calm (di_val fx.K (bi_range1 at_ fx (by kernel_rfl) (da_cons (de_v at_ (by kernel_rfl)) da_nil rfl) rfl)) (dg_v at_ (by kernel_rfl)) (dss_cons (ds_asg (de_new (dl_lst da_nil)) (dg_v at_ (by kernel_rfl)) rfl rfl rfl) (dss_cons (ds_for hp fx.calm (di_val fx.K (de_v at_ (by kernel_rfl))) (dg_v at_ (by kernel_rfl)) (dss_cons (ds_for hp fx.calm (di_val fx.K (bi_range1 at_ fx (by kernel_rfl) (da_cons (de_op (op_or op_add op_catA) op2_add (de_v at_ (by kernel_rfl)) de_int) da_nil rfl) rfl)) (dg_v at_ (by kernel_rfl)) (dss_cons (ds_drop (de_app (de_v at_ (by kernel_rfl)) (da_cons (de_op (op_or op_add op_catA) op2_add (de_op (op_or op_add op_catA) op2_add (de_slT (de_v at_ (by kernel_rfl)) do_none (do_some (de_v at_ (by kernel_rfl)))) (de_tup (da_cons (de_v at_ (by kernel_rfl)) da_nil rfl))) (de_slT (de_v at_ (by kernel_rfl)) (do_some (de_v at_ (by kernel_rfl))) do_none)) da_nil rfl) rfl rfl rfl rfl) rfl) dss_nil) (fun _ => rfl)) dss_nil) (fun _ => rfl)) (dss_cons (ds_asg (de_v at_ (by kernel_rfl)) (dg_v at_ (by kernel_rfl)) rfl rfl rfl) dss_nil))) (fun _ => rfl)) (dss_cons (ds_ret (de_v at_ (by kernel_rfl))) dss_nil)))
def N_l_law_tie : List Str := ["turn", "picture", "i", "j"]
def d_l_law_tie (G : Gl) (Φ Ψ Γ : Nat → List D → M D) : FS := (sSeq (sIf (bVal (fOp2 opLt (eVar 2) (eVar 3))) (sSeq (sRet (fOp2 opIx (fOp2 opIx (eVar 1) (eVar 3)) (eVar 2))) sNil) sNil) (sSeq (sRet (fOp2 opIx (eVar 0) (fOp2 opIx (fOp2 opIx (eVar 1) (eVar 2)) (eVar 3)))) sNil))
theorem p_l_law_tie {G : Gl} {X : Cx} {E : XK} {Φ Ψ Γ : Nat → List D → M D} {k : Nat} (at_ : At X N_l_law_tie (C8.fnScope (top 40)) (C8.fnScope (top 40))) (fx : Fine G tfs tms tcs tkt Φ Ψ Γ k X) (hp : PassesOwn (model X.prog X.w) X.A X.env X.xe) : DSs G X E (C8.fnBody (top 40)) (d_l_law_tie G Φ Ψ Γ) := by
  unfold d_l_law_tie
  exact (dss_cons (ds_if (dt_cmp (op_or op_lt (op_ltT fx.un0)) op2_lt (de_v at_ (by kernel_rfl)) (de_v at_ (by kernel_rfl)) rfl) (dss_cons (ds_ret (de_ix fx.K (de_ix fx.K (de_v at_ (by kernel_rfl)) (de_v at_ (by kernel_rfl)) (fun _ _ => rfl)) (de_v at_ (by kernel_rfl)) (fun _ _ => rfl))) dss_nil) dss_nil) (dss_cons (ds_ret (de_ix fx.K (de_v at_ (by kernel_rfl)) (de_ix fx.K (de_ix fx.K (de_v at_ (by kernel_rfl)) (de_v at_ (by kernel_rfl)) (fun _ _ => rfl)) (de_v at_ (by kernel_rfl)) (fun _ _ => rfl)) (fun _ _ => rfl))) dss_nil))
def N_l_law_piece : List Str := ["turn", "picture", "places", "rows", "j", "i"]
def d_l_law_piece (G : Gl) (Φ Ψ Γ : Nat → List D → M D) : FS := (sSeq (sAsg (fNew (fLst aNil)) (gVar 3)) (sSeq (sFor (fVal (fCall cRange1 (aCons (fCall cLen (aCons (eVar 2) aNil)) aNil))) (gVar 4) (sSeq (sDrop (fApp (eVar 3) (aCons (fCall cTupN (fComp (fVal (fCall cRange1 (aCons (eVar 4) aNil))) (gVar 5) bTrue (fCallU 4 (Φ 19) (aCons (eVar 0) (aCons (eVar 1) (aCons (fOp2 opIx (eVar 2) (eVar 5)) (aCons (fOp2 opIx (eVar 2) (eVar 4)) aNil))))) [5])) aNil))) sNil)) (sSeq (sRet (fCall cTup (aCons (eVar 3) aNil))) sNil)))
theorem p_l_law_piece {G : Gl} {X : Cx} {E : XK} {Φ Ψ Γ : Nat → List D → M D} {k : Nat} (at_ : At X N_l_law_piece (C8.fnScope (top 41)) (C8.fnScope (top 41))) (fx : Fine G tfs tms tcs tkt Φ Ψ Γ k X) (hp : PassesOwn (model X.prog X.w) X.A X.env X.xe) : DSs G X E (C8.fnBody (top 41)) (d_l_law_piece G Φ Ψ Γ) := by
  unfold d_l_law_piece
  exact (dss_cons (ds_asg (de_new (dl_lst da_nil)) (dg_v at_ (by kernel_rfl)) rfl rfl rfl) (dss_cons (ds_for hp fx.calm (di_val fx.K (bi_range1 at_ fx (by kernel_rfl) (da_cons (bi_len at_ fx (by kernel_rfl) (da_cons (de_v at_ (by kernel_rfl)) da_nil rfl) rfl) da_nil rfl) rfl)) (dg_v at_ (by kernel_rfl)) (dss_cons (ds_drop (de_app (de_v at_ (by kernel_rfl)) (da_cons (bi_tupN at_ fx (by kernel_rfl) (dl_lc fx.calm at_.nd' (di_val fx.K (bi_range1 at_ fx (by kernel_rfl) (da_cons (de_v at_ (by kernel_rfl)) da_nil rfl) rfl)) (at_.blkOk (own := [("i", 5)]) (by kernel_rfl)) (inB (Q := fun Y => DG G Y _ _ _) at_ fx fun Y at_ fx => (dg_v at_ (by kernel_rfl))) (inB (Q := fun Y => PTs Y _ (Lf G rB NoX _)) at_ fx fun Y at_ fx => dts_nil) (inB (Q := fun Y => DE G Y NoX _ _) at_ fx fun Y at_ fx => (bi_f at_ fx 19 rfl (by kernel_rfl) (da_cons (de_v at_ (by kernel_rfl)) (da_cons (de_v at_ (by kernel_rfl)) (da_cons (de_ix fx.K (de_v at_ (by kernel_rfl)) (de_v at_ (by kernel_rfl)) (fun _ _ => rfl)) (da_cons (de_ix fx.K (de_v at_ (by kernel_rfl)) (de_v at_ (by kernel_rfl)) (fun _ _ => rfl)) da_nil rfl) rfl) rfl) rfl) rfl rfl)) (by decide) (fun _ => rfl)) rfl) da_nil rfl) rfl rfl rfl rfl) rfl) dss_nil) (fun _ => rfl)) (dss_cons (ds_ret (bi_tup at_ fx (by kernel_rfl) (da_cons (de_v at_ (by kernel_rfl)) da_nil rfl) rfl)) dss_nil)))
def N_l_law_shown : List Str := ["source", "ties", "turn", "form", "one", "orders", "moved", "j", "i", "row", "tie", "many", "n"]
def d_l_law_shown (G : Gl) (Φ Ψ Γ : Nat → List D → M D) : FS := (sSeq (sAsg (fCallU 2 (Φ 1) (aCons (eVar 0) (aCons (eC (.int 8)) aNil))) (gVar 3)) (sSeq (sAsg (fCallU 3 (Φ 17) (aCons (eVar 0) (aCons (eVar 1) (aCons (fCallU 2 (Φ 1) (aCons (eVar 0) (aCons (eC (.int 5)) aNil))) aNil)))) (gVar 4)) (sSeq (sIf (bVal (fOp2 opLt (eVar 3) (eC (.int 2)))) (sSeq (sRet (fTup (aCons (eVar 4) (aCons (fCallU 3 (Φ 17) (aCons (eVar 0) (aCons (eVar 1) (aCons (fCallU 2 (Φ 1) (aCons (eVar 0) (aCons (eC (.int 5)) aNil))) aNil)))) aNil)))) sNil) sNil) (sSeq (sIf (bVal (fOp2 opLt (eVar 3) (eC (.int 4)))) (sSeq (sAsg (fCallU 2 (Φ 1) (aCons (eVar 0) (aCons (eVar 1) aNil))) (gVar 10)) (sSeq (sAsg (fTup (aCons (fOp2 opAdd (eC (.int 1)) (fCallU 2 (Φ 1) (aCons (eVar 0) (aCons (eC (.int 4)) aNil)))) (aCons (fOp2 opAdd (eC (.int 1)) (fCallU 2 (Φ 1) (aCons (eVar 0) (aCons (eC (.int 4)) aNil)))) aNil))) (gVar 11)) (sSeq (sRet (fCall cTupN (fComp (fVal (eVar 11)) (gVar 12) bTrue (fCall cTupN (fComp (fVal (fCall cRange1 (aCons (eVar 12) aNil))) (gVar 7) bTrue (fCall cTupN (fComp (fVal (fCall cRange1 (aCons (eVar 7) aNil))) (gVar 8) bTrue (eVar 10) [8])) [7])) [12]))) sNil))) sNil) (sSeq (sAsg (fCallU 1 (Φ 18) (aCons (fCall cLen (aCons (eVar 4) aNil)) aNil)) (gVar 5)) (sSeq (sAsg (fCallU 3 (Φ 20) (aCons (eVar 2) (aCons (eVar 4) (aCons (fOp2 opIx (eVar 5) (fCallU 2 (Φ 1) (aCons (eVar 0) (aCons (fCall cLen (aCons (eVar 5) aNil)) aNil)))) aNil)))) (gVar 6)) (sSeq (sIf (bVal (fOp2 (opEq false) (eVar 3) (eC (.int 4)))) (sSeq (sRet (fTup (aCons (eVar 4) (aCons (eVar 6) aNil)))) sNil) sNil) (sSeq (sIf (bAnd (bVal (fOp2 (opEq false) (eVar 3) (eC (.int 5)))) (bVal (fOp2 opLt (fCall cLen (aCons (eVar 6) aNil)) (eC (.int 4))))) (sSeq (sRet (fTup (aCons (eVar 4) (aCons (fOp2 opAdd (eVar 6) (fTup (aCons (fCall cTupN (fComp (fVal (fCall cRange1 (aCons (fCall cLen (aCons (eVar 6) aNil)) aNil))) (gVar 8) bTrue (fCallU 2 (Φ 1) (aCons (eVar 0) (aCons (eVar 1) aNil))) [8])) aNil))) aNil)))) sNil) sNil) (sSeq (sIf (bAnd (bVal (fOp2 (opEq false) (eVar 3) (eC (.int 6)))) (bVal (fOp2 (opI fun i j => decide (j < i)) (fCall cLen (aCons (eVar 6) aNil)) (eC (.int 0))))) (sSeq (sRet (fTup (aCons (fSlT (eVar 6) oNone (oSome (vNeg (eC (.int 1))))) (aCons (eVar 4) aNil)))) sNil) sNil) (sSeq (sIf (bVal (fOp2 opLt (fCall cLen (aCons (eVar 6) aNil)) (eC (.int 2)))) (sSeq (sRet (fTup (aCons (eVar 6) (aCons (eVar 4) aNil)))) sNil) sNil) (sSeq (sAsg (fOp2 opAdd (eC (.int 1)) (fCallU 2 (Φ 1) (aCons (eVar 0) (aCons (fOp2 opSub (fCall cLen (aCons (eVar 6) aNil)) (eC (.int 1))) aNil)))) (gVar 7)) (sSeq (sAsg (fCallU 2 (Φ 1) (aCons (eVar 0) (aCons (eVar 7) aNil))) (gVar 8)) (sSeq (sAsg (fOp2 opAdd (fOp2 opAdd (fSlT (fOp2 opIx (eVar 6) (eVar 7)) oNone (oSome (eVar 8))) (fTup (aCons (fCallU 2 (Φ 1) (aCons (eVar 0) (aCons (eVar 1) aNil))) aNil))) (fSlT (fOp2 opIx (eVar 6) (eVar 7)) (oSome (fOp2 opAdd (eVar 8) (eC (.int 1)))) oNone)) (gVar 9)) (sSeq (sRet (fTup (aCons (eVar 4) (aCons (fOp2 opAdd (fOp2 opAdd (fSlT (eVar 6) oNone (oSome (eVar 7))) (fTup (aCons (eVar 9) aNil))) (fSlT (eVar 6) (oSome (fOp2 opAdd (eVar 7) (eC (.int 1)))) oNone)) aNil)))) sNil))))))))))))))
theorem p_l_law_shown {G : Gl} {X : Cx} {E : XK} {Φ Ψ Γ : Nat → List D → M D} {k : Nat} (at_ : At X N_l_law_shown (C8.fnScope (top 53)) (C8.fnScope (top 53))) (fx : Fine G tfs tms tcs tkt Φ Ψ Γ k X) (hp : PassesOwn (model X.prog X.w) X.A X.env X.xe) : DSs G X E (C8.fnBody (top 53)) (d_l_law_shown G Φ Ψ Γ) := by
  unfold d_l_law_shown
  exact (dss_cons (ds_asg (bi_f at_ fx 1 rfl (by kernel_rfl) (da_cons (de_v at_ (by kernel_rfl)) (da_cons de_int da_nil rfl) rfl) rfl rfl) (dg_v at_ (by kernel_rfl)) rfl rfl rfl) (dss_cons (ds_asg (bi_f at_ fx 17 rfl (by kernel_rfl) (da_cons (de_v at_ (by kernel_rfl)) (da_cons (de_v at_ (by kernel_rfl)) (da_cons (bi_f at_ fx 1 rfl (by kernel_rfl) (da_cons (de_v at_ (by kernel_rfl)) (da_cons de_int da_nil rfl) rfl) rfl rfl) da_nil rfl) rfl) rfl) rfl rfl) (dg_v at_ (by kernel_rfl)) rfl rfl rfl) (dss_cons (ds_if (dt_cmp (op_or op_lt (op_ltT fx.un0)) op2_lt (de_v at_ (by kernel_rfl)) de_int rfl) (dss_cons (ds_ret (de_tup (da_cons (de_v at_ (by kernel_rfl)) (da_cons (bi_f at_ fx 17 rfl (by kernel_rfl) (da_cons (de_v at_ (by kernel_rfl)) (da_cons (de_v at_ (by kernel_rfl)) (da_cons (bi_f at_ fx 1 rfl (by kernel_rfl) (da_cons (de_v at_ (by kernel_rfl)) (da_cons de_int da_nil rfl) rfl) rfl rfl) da_nil rfl) rfl) rfl) rfl rfl) da_nil rfl) rfl))) dss_nil) dss_nil) (dss_cons (ds_if (dt_cmp (op_or op_lt (op_ltT fx.un0)) op2_lt (de_v at_ (by kernel_rfl)) de_int rfl) (dss_cons (ds_asg (bi_f at_ fx 1 rfl (by kernel_rfl) (da_cons (de_v at_ (by kernel_rfl)) (da_cons (de_v at_ (by kernel_rfl)) da_nil rfl) rfl) rfl rfl) (dg_v at_ (by kernel_rfl)) rfl rfl rfl) (dss_cons (ds_asg (de_tup (da_cons (de_op (op_or op_add op_catA) op2_add de_int (bi_f at_ fx 1 rfl (by kernel_rfl) (da_cons (de_v at_ (by kernel_rfl)) (da_cons de_int da_nil rfl) rfl) rfl rfl)) (da_cons (de_op (op_or op_add op_catA) op2_add de_int (bi_f at_ fx 1 rfl (by kernel_rfl) (da_cons (de_v at_ (by kernel_rfl)) (da_cons de_int da_nil rfl) rfl) rfl rfl)) da_nil rfl) rfl)) (dg_v at_ (by kernel_rfl)) rfl rfl rfl) (dss_cons (ds_ret (bi_tupN at_ fx (by kernel_rfl) (dl_lc fx.calm at_.nd' (di_val fx.K (de_v at_ (by kernel_rfl))) (at_.blkOk (own := [("n", 12)]) (by kernel_rfl)) (inB (Q := fun Y => DG G Y _ _ _) at_ fx fun Y at_ fx => (dg_v at_ (by kernel_rfl))) (inB (Q := fun Y => PTs Y _ (Lf G rB NoX _)) at_ fx fun Y at_ fx => dts_nil) (inB (Q := fun Y => DE G Y NoX _ _) at_ fx fun Y at_ fx => (bi_tupN at_ fx (by kernel_rfl) (dl_lc fx.calm at_.nd' (di_val fx.K (bi_range1 at_ fx (by kernel_rfl) (da_cons (de_v at_ (by kernel_rfl)) da_nil rfl) rfl)) (at_.blkOk (own := [("j", 7)]) (by kernel_rfl)) (inB (Q := fun Y => DG G Y _ _ _) at_ fx fun Y at_ fx => (dg_v at_ (by kernel_rfl))) (inB (Q := fun Y => PTs Y _ (Lf G rB NoX _)) at_ fx fun Y at_ fx => dts_nil) (inB (Q := fun Y => DE G Y NoX _ _) at_ fx fun Y at_ fx => (bi_tupN at_ fx (by kernel_rfl) (dl_lc fx.calm at_.nd' (di_val fx.K (bi_range1 at_ fx (by kernel_rfl) (da_cons (de_v at_ (by kernel_rfl)) da_nil rfl) rfl)) (at_.blkOk (own := [("i", 8)]) (by kernel_rfl)) (inB (Q := fun Y => DG G Y _ _ _) at_ fx fun Y at_ fx => (dg_v at_ (by kernel_rfl))) (inB (Q := fun Y => PTs Y _ (Lf G rB NoX _)) at_ fx fun Y at_ fx => dts_nil) (inB (Q := fun Y => DE G Y NoX _ _) at_ fx fun Y at_ fx => (de_v at_ (by kernel_rfl))) (by decide) (fun _ => rfl)) rfl)) (by decide) (fun _ => rfl)) rfl)) (by decide) (fun _ => rfl)) rfl)) dss_nil))) dss_nil) (dss_cons (ds_asg (bi_f at_ fx 18 rfl (by kernel_rfl) (da_cons (bi_len at_ fx (by kernel_rfl) (da_cons (de_v at_ (by kernel_rfl)) da_nil rfl) rfl) da_nil rfl) rfl rfl) (dg_v at_ (by kernel_rfl)) rfl rfl rfl) (dss_cons (ds_asg (bi_f at_ fx 20 rfl (by kernel_rfl) (da_cons (de_v at_ (by kernel_rfl)) (da_cons (de_v at_ (by kernel_rfl)) (da_cons (de_ix fx.K (de_v at_ (by kernel_rfl)) (bi_f at_ fx 1 rfl (by kernel_rfl) (da_cons (de_v at_ (by kernel_rfl)) (da_cons (bi_len at_ fx (by kernel_rfl) (da_cons (de_v at_ (by kernel_rfl)) da_nil rfl) rfl) da_nil rfl) rfl) rfl rfl) (fun _ _ => rfl)) da_nil rfl) rfl) rfl) rfl rfl) (dg_v at_ (by kernel_rfl)) rfl rfl rfl) (dss_cons (ds_if (dt_cmp (op_eqD fx.un) op2_eq (de_v at_ (by kernel_rfl)) de_int rfl) (dss_cons (ds_ret (de_tup (da_cons (de_v at_ (by kernel_rfl)) (da_cons (de_v at_ (by kernel_rfl)) da_nil rfl) rfl))) dss_nil) dss_nil) (dss_cons (ds_if (dw_and (dt_cmp (op_eqD fx.un) op2_eq (de_v at_ (by kernel_rfl)) de_int rfl) (dw_and1 (dt_cmp (op_or op_lt (op_ltT fx.un0)) op2_lt (bi_len at_ fx (by kernel_rfl) (da_cons (de_v at_ (by kernel_rfl)) da_nil rfl) rfl) de_int rfl))).pt (dss_cons (ds_ret (de_tup (da_cons (de_v at_ (by kernel_rfl)) (da_cons (de_op (op_or op_add op_catA) op2_add (de_v at_ (by kernel_rfl)) (de_tup (da_cons (bi_tupN at_ fx (by kernel_rfl) (dl_lc fx.calm at_.nd' (di_val fx.K (bi_range1 at_ fx (by kernel_rfl) (da_cons (bi_len at_ fx (by kernel_rfl) (da_cons (de_v at_ (by kernel_rfl)) da_nil rfl) rfl) da_nil rfl) rfl)) (at_.blkOk (own := [("i", 8)]) (by kernel_rfl)) (inB (Q := fun Y => DG G Y _ _ _) at_ fx fun Y at_ fx => (dg_v at_ (by kernel_rfl))) (inB (Q := fun Y => PTs Y _ (Lf G rB NoX _)) at_ fx fun Y at_ fx => dts_nil) (inB (Q := fun Y => DE G Y NoX _ _) at_ fx fun Y at_ fx => (bi_f at_ fx 1 rfl (by kernel_rfl) (da_cons (de_v at_ (by kernel_rfl)) (da_cons (de_v at_ (by kernel_rfl)) da_nil rfl) rfl) rfl rfl)) (by decide) (fun _ => rfl)) rfl) da_nil rfl))) da_nil rfl) rfl))) dss_nil) dss_nil) (dss_cons (ds_if (dw_and (dt_cmp (op_eqD fx.un) op2_eq (de_v at_ (by kernel_rfl)) de_int rfl) (dw_and1 (dt_cmp op_gt op2_i (bi_len at_ fx (by kernel_rfl) (da_cons (de_v at_ (by kernel_rfl)) da_nil rfl) rfl) de_int rfl))).pt (dss_cons (ds_ret (de_tup (da_cons (de_slT (de_v at_ (by kernel_rfl)) do_none (do_some (de_neg de_int))) (da_cons (de_v at_ (by kernel_rfl)) da_nil rfl) rfl))) dss_nil) dss_nil) (dss_cons (ds_if (dt_cmp (op_or op_lt (op_ltT fx.un0)) op2_lt (bi_len at_ fx (by kernel_rfl) (da_cons (de_v at_ (by kernel_rfl)) da_nil rfl) rfl) de_int rfl) (dss_cons (ds_ret (de_tup (da_cons (de_v at_ (by kernel_rfl)) (da_cons (de_v at_ (by kernel_rfl)) da_nil rfl) rfl))) dss_nil) dss_nil) (dss_cons (ds_asg (de_op (op_or op_add op_catA) op2_add de_int (bi_f at_ fx 1 rfl (by kernel_rfl) (da_cons (de_v at_ (by kernel_rfl)) (da_cons (de_op op_sub op2_sub (bi_len at_ fx (by kernel_rfl) (da_cons (de_v at_ (by kernel_rfl)) da_nil rfl) rfl) de_int) da_nil rfl) rfl) rfl rfl)) (dg_v at_ (by kernel_rfl)) rfl rfl rfl) (dss_cons (ds_asg (bi_f at_ fx 1 rfl (by kernel_rfl) (da_cons (de_v at_ (by kernel_rfl)) (da_cons (de_v at_ (by kernel_rfl)) da_nil rfl) rfl) rfl rfl) (dg_v at_ (by kernel_rfl)) rfl rfl rfl) (dss_cons (ds_asg (de_op (op_or op_add op_catA) op2_add (de_op (op_or op_add op_catA) op2_add (de_slT (de_ix fx.K (de_v at_ (by kernel_rfl)) (de_v at_ (by kernel_rfl)) (fun _ _ => rfl)) do_none (do_some (de_v at_ (by kernel_rfl)))) (de_tup (da_cons (bi_f at_ fx 1 rfl (by kernel_rfl) (da_cons (de_v at_ (by kernel_rfl)) (da_cons (de_v at_ (by kernel_rfl)) da_nil rfl) rfl) rfl rfl) da_nil rfl))) (de_slT (de_ix fx.K (de_v at_ (by kernel_rfl)) (de_v at_ (by kernel_rfl)) (fun _ _ => rfl)) (do_some (de_op (op_or op_add op_catA) op2_add (de_v at_ (by kernel_rfl)) de_int)) do_none)) (dg_v at_ (by kernel_rfl)) rfl rfl rfl) (dss_cons (ds_ret (de_tup (da_cons (de_v at_ (by kernel_rfl)) (da_cons (de_op (op_or op_add op_catA) op2_add (de_op (op_or op_add op_catA) op2_add (de_slT (de_v at_ (by kernel_rfl)) do_none (do_some (de_v at_ (by kernel_rfl)))) (de_tup (da_cons (de_v at_ (by kernel_rfl)) da_nil rfl))) (de_slT (de_v at_ (by kernel_rfl)) (do_some (de_op (op_or op_add op_catA) op2_add (de_v at_ (by kernel_rfl)) de_int)) do_none)) da_nil rfl) rfl))) dss_nil))))))))))))))
def N_l_law_sort : List Str := ["turn", "picture", "points", "rounds", "seen", "j", "i", "p"]
def d_l_law_sort (G : Gl) (Φ Ψ Γ : Nat → List D → M D) : FS := (sSeq (sIf (bVal (fOp2 (opEq false) (eVar 3) (eC (.int 0)))) (sSeq (sAsg (fNew (fLst aNil)) (gVar 4)) (sSeq (sFor (fVal (fCall cRange1 (aCons (fCall cLen (aCons (eVar 2) aNil)) aNil))) (gVar 5) (sSeq (sFor (fVal (fCall cRange1 (aCons (eVar 5) aNil))) (gVar 6) (sSeq (sIf (bVal (fOp2 (opEq false) (fOp2 opIx (eVar 2) (eVar 6)) (fOp2 opIx (eVar 2) (eVar 5)))) (sSeq (sDrop (fApp (eVar 4) (aCons (vNeg (eC (.int 1))) aNil))) sNil) (sSeq (sDrop (fApp (eVar 4) (aCons (fCallU 4 (Φ 19) (aCons (eVar 0) (aCons (eVar 1) (aCons (fOp2 opIx (eVar 2) (eVar 6)) (aCons (fOp2 opIx (eVar 2) (eVar 5)) aNil))))) aNil))) sNil)) sNil)) sNil)) (sSeq (sRet (fCall cTup (aCons (eVar 4) aNil))) sNil))) sNil) (sSeq (sRet (fCall cTupN (fSortSet (fComp (fVal (fCall cRange1 (aCons (fCall cLen (aCons (eVar 1) aNil)) aNil))) (gVar 7) bTrue (fCallU 4 (Φ 22) (aCons (eVar 0) (aCons (eVar 1) (aCons (fOp2 opAdd (eVar 2) (fTup (aCons (eVar 7) aNil))) (aCons (fOp2 opSub (eVar 3) (eC (.int 1))) aNil))))) [7])))) sNil))
theorem p_l_law_sort {G : Gl} {X : Cx} {E : XK} {Φ Ψ Γ : Nat → List D → M D} {k : Nat} (at_ : At X N_l_law_sort (C8.fnScope (top 44)) (C8.fnScope (top 44))) (fx : Fine G tfs tms tcs tkt Φ Ψ Γ k X) (hp : PassesOwn (model X.prog X.w) X.A X.env X.xe) : DSs G X E (C8.fnBody (top 44)) (d_l_law_sort G Φ Ψ Γ) := by
  unfold d_l_law_sort
  exact (dss_cons (ds_if (dt_cmp (op_eqD fx.un) op2_eq (de_v at_ (by kernel_rfl)) de_int rfl) (dss_cons (ds_asg (de_new (dl_lst da_nil)) (dg_v at_ (by kernel_rfl)) rfl rfl rfl) (dss_cons (ds_for hp fx.calm (di_val fx.K (bi_range1 at_ fx (by kernel_rfl) (da_cons (bi_len at_ fx (by kernel_rfl) (da_cons (de_v at_ (by kernel_rfl)) da_nil rfl) rfl) da_nil rfl) rfl)) (dg_v at_ (by kernel_rfl)) (dss_cons (ds_for hp fx.calm (di_val fx.K (bi_range1 at_ fx (by kernel_rfl) (da_cons (de_v at_ (by kernel_rfl)) da_nil rfl) rfl)) (dg_v at_ (by kernel_rfl)) (dss_cons (ds_if (dt_cmp (op_eqD fx.un) op2_eq (de_ix fx.K (de_v at_ (by kernel_rfl)) (de_v at_ (by kernel_rfl)) (fun _ _ => rfl)) (de_ix fx.K (de_v at_ (by kernel_rfl)) (de_v at_ (by kernel_rfl)) (fun _ _ => rfl)) rfl) (dss_cons (ds_drop (de_app (de_v at_ (by kernel_rfl)) (da_cons (de_neg de_int) da_nil rfl) rfl rfl rfl rfl) rfl) dss_nil) (dss_cons (ds_drop (de_app (de_v at_ (by kernel_rfl)) (da_cons (bi_f at_ fx 19 rfl (by kernel_rfl) (da_cons (de_v at_ (by kernel_rfl)) (da_cons (de_v at_ (by kernel_rfl)) (da_cons (de_ix fx.K (de_v at_ (by kernel_rfl)) (de_v at_ (by kernel_rfl)) (fun _ _ => rfl)) (da_cons (de_ix fx.K (de_v at_ (by kernel_rfl)) (de_v at_ (by kernel_rfl)) (fun _ _ => rfl)) da_nil rfl) rfl) rfl) rfl) rfl rfl) da_nil rfl) rfl rfl rfl rfl) rfl) dss_nil)) dss_nil) (fun _ => rfl)) dss_nil) (fun _ => rfl)) (dss_cons (ds_ret (bi_tup at_ fx (by kernel_rfl) (da_cons (de_v at_ (by kernel_rfl)) da_nil rfl) rfl)) dss_nil))) dss_nil) (dss_cons (ds_ret (bi_tupN at_ fx (by kernel_rfl) (bi_sortSet at_ fx (by kernel_rfl) (by kernel_rfl) (dl_lc fx.calm at_.nd' (di_val fx.K (bi_range1 at_ fx (by kernel_rfl) (da_cons (bi_len at_ fx (by kernel_rfl) (da_cons (de_v at_ (by kernel_rfl)) da_nil rfl) rfl) da_nil rfl) rfl)) (at_.blkOk (own := [("p", 7)]) (by kernel_rfl)) (inB (Q := fun Y => DG G Y _ _ _) at_ fx fun Y at_ fx => (dg_v at_ (by kernel_rfl))) (inB (Q := fun Y => PTs Y _ (Lf G rB NoX _)) at_ fx fun Y at_ fx => dts_nil) (inB (Q := fun Y => DE G Y NoX _ _) at_ fx fun Y at_ fx => (bi_f at_ fx 22 rfl (by kernel_rfl) (da_cons (de_v at_ (by kernel_rfl)) (da_cons (de_v at_ (by kernel_rfl)) (da_cons (de_op (op_or op_add op_catA) op2_add (de_v at_ (by kernel_rfl)) (de_tup (da_cons (de_v at_ (by kernel_rfl)) da_nil rfl))) (da_cons (de_op op_sub op2_sub (de_v at_ (by kernel_rfl)) de_int) da_nil rfl) rfl) rfl) rfl) rfl rfl)) (by decide) (fun _ => rfl)) rfl) rfl)) dss_nil))
def N_l_law_alike : List Str := ["turn", "one", "other", "ones", "others", "rounds"]
def d_l_law_alike (G : Gl) (Φ Ψ Γ : Nat → List D → M D) : FS := (sSeq (sRet (fOp2 (opEq false) (fCallU 4 (Φ 22) (aCons (eVar 0) (aCons (eVar 1) (aCons (eVar 3) (aCons (eVar 5) aNil))))) (fCallU 4 (Φ 22) (aCons (eVar 0) (aCons (eVar 2) (aCons (eVar 4) (aCons (eVar 5) aNil))))))) sNil)
theorem p_l_law_alike {G : Gl} {X : Cx} {E : XK} {Φ Ψ Γ : Nat → List D → M D} {k : Nat} (at_ : At X N_l_law_alike (C8.fnScope (top 45)) (C8.fnScope (top 45))) (fx : Fine G tfs tms tcs tkt Φ Ψ Γ k X) (hp : PassesOwn (model X.prog X.w) X.A X.env X.xe) : DSs G X E (C8.fnBody (top 45)) (d_l_law_alike G Φ Ψ Γ) := by
  unfold d_l_law_alike
  exact (dss_cons (ds_ret (de_cmp (op_eqD fx.un) op2_eq (bi_f at_ fx 22 rfl (by kernel_rfl) (da_cons (de_v at_ (by kernel_rfl)) (da_cons (de_v at_ (by kernel_rfl)) (da_cons (de_v at_ (by kernel_rfl)) (da_cons (de_v at_ (by kernel_rfl)) da_nil rfl) rfl) rfl) rfl) rfl rfl) (bi_f at_ fx 22 rfl (by kernel_rfl) (da_cons (de_v at_ (by kernel_rfl)) (da_cons (de_v at_ (by kernel_rfl)) (da_cons (de_v at_ (by kernel_rfl)) (da_cons (de_v at_ (by kernel_rfl)) da_nil rfl) rfl) rfl) rfl) rfl rfl) rfl)) dss_nil)
def N_l_law_answers : List Str := ["source", "turn", "one", "other", "ones", "others", "rounds", "firsts", "p", "seconds", "q", "good"]
def d_l_law_answers (G : Gl) (Φ Ψ Γ : Nat → List D → M D) : FS := (sSeq (sIf (bVal (fOp2 (opEq false) (eVar 6) (eC (.int 0)))) (sSeq (sRet (fTup aNil)) sNil) sNil) (sSeq (sAsg (fNew (fLst aNil)) (gVar 7)) (sSeq (sFor (fVal (fCall cRange1 (aCons (fCall cLen (aCons (eVar 2) aNil)) aNil))) (gVar 8) (sSeq (sAsg (fNew (fComp (fVal (fCall cRange1 (aCons (fCall cLen (aCons (eVar 3) aNil)) aNil))) (gVar 10) (bVal (fCallU 6 (Φ 23) (aCons (eVar 1) (aCons (eVar 2) (aCons (eVar 3) (aCons (fOp2 opAdd (eVar 4) (fTup (aCons (eVar 8) aNil))) (aCons (fOp2 opAdd (eVar 5) (fTup (aCons (eVar 10) aNil))) (aCons (fOp2 opSub (eVar 6) (eC (.int 1))) aNil)))))))) (eVar 10) [10])) (gVar 11)) (sSeq (sAsg (fOp2 opIx (eVar 11) (fCallU 2 (Φ 1) (aCons (eVar 0) (aCons (fCall cLen (aCons (eVar 11) aNil)) aNil)))) (gVar 10)) (sSeq (sDrop (fApp (eVar 7) (aCons (fTup (aCons (eVar 10) (aCons (fCallU 7 (Φ 24) (aCons (eVar 0) (aCons (eVar 1) (aCons (eVar 2) (aCons (eVar 3) (aCons (fOp2 opAdd (eVar 4) (fTup (aCons (eVar 8) aNil))) (aCons (fOp2 opAdd (eVar 5) (fTup (aCons (eVar 10) aNil))) (aCons (fOp2 opSub (eVar 6) (eC (.int 1))) aNil)))))))) aNil))) aNil))) sNil)))) (sSeq (sAsg (fNew (fLst aNil)) (gVar 9)) (sSeq (sFor (fVal (fCall cRange1 (aCons (fCall cLen (aCons (eVar 3) aNil)) aNil))) (gVar 10) (sSeq (sAsg (fNew (fComp (fVal (fCall cRange1 (aCons (fCall cLen (aCons (eVar 2) aNil)) aNil))) (gVar 8) (bVal (fCallU 6 (Φ 23) (aCons (eVar 1) (aCons (eVar 2) (aCons (eVar 3) (aCons (fOp2 opAdd (eVar 4) (fTup (aCons (eVar 8) aNil))) (aCons (fOp2 opAdd (eVar 5) (fTup (aCons (eVar 10) aNil))) (aCons (fOp2 opSub (eVar 6) (eC (.int 1))) aNil)))))))) (eVar 8) [8])) (gVar 11)) (sSeq (sAsg (fOp2 opIx (eVar 11) (fCallU 2 (Φ 1) (aCons (eVar 0) (aCons (fCall cLen (aCons (eVar 11) aNil)) aNil)))) (gVar 8)) (sSeq (sDrop (fApp (eVar 9) (aCons (fTup (aCons (eVar 8) (aCons (fCallU 7 (Φ 24) (aCons (eVar 0) (aCons (eVar 1) (aCons (eVar 2) (aCons (eVar 3) (aCons (fOp2 opAdd (eVar 4) (fTup (aCons (eVar 8) aNil))) (aCons (fOp2 opAdd (eVar 5) (fTup (aCons (eVar 10) aNil))) (aCons (fOp2 opSub (eVar 6) (eC (.int 1))) aNil)))))))) aNil))) aNil))) sNil)))) (sSeq (sRet (fTup (aCons (fCall cTup (aCons (eVar 7) aNil)) (aCons (fCall cTup (aCons (eVar 9) aNil)) aNil)))) sNil))))))
theorem p_l_law_answers {G : Gl} {X : Cx} {E : XK} {Φ Ψ Γ : Nat → List D → M D} {k : Nat} (at_ : At X N_l_law_answers (C8.fnScope (top 51)) (C8.fnScope (top 51))) (fx : Fine G tfs tms tcs tkt Φ Ψ Γ k X) (hp : PassesOwn (model X.prog X.w) X.A X.env X.xe) : DSs G X E (C8.fnBody (top 51)) (d_l_law_answers G Φ Ψ Γ) := by
  unfold d_l_law_answers
  exact (dss_cons (ds_if (dt_cmp (op_eqD fx.un) op2_eq (de_v at_ (by kernel_rfl)) de_int rfl) (dss_cons (ds_ret (de_tup da_nil)) dss_nil) dss_nil) (dss_cons (ds_asg (de_new (dl_lst da_nil)) (dg_v at_ (by kernel_rfl)) rfl rfl rfl) (dss_cons (ds_for hp fx.calm (di_val fx.K (bi_range1 at_ fx (by kernel_rfl) (da_cons (bi_len at_ fx (by kernel_rfl) (da_cons (de_v at_ (by kernel_rfl)) da_nil rfl) rfl) da_nil rfl) rfl)) (dg_v at_ (by kernel_rfl)) (dss_cons (ds_asg_of (ps_setLc (own := [("q", 10)]) fx.calm at_.nd' (at_.nth (by kernel_rfl)) (at_.lo (by kernel_rfl)) (swL at_ (by kernel_rfl)) (di_val fx.K (bi_range1 at_ fx (by kernel_rfl) (da_cons (bi_len at_ fx (by kernel_rfl) (da_cons (de_v at_ (by kernel_rfl)) da_nil rfl) rfl) da_nil rfl) rfl)) (at_.blkOk (by kernel_rfl)) (inB (Q := fun Y => DG G Y _ _ _) at_ fx fun Y at_ fx => (dg_v at_ (by kernel_rfl))) (inB (Q := fun Y => PTs Y _ (Lf G rB NoX _)) at_ fx fun Y at_ fx => (dts_one (dt_val (bi_f at_ fx 23 rfl (by kernel_rfl) (da_cons (de_v at_ (by kernel_rfl)) (da_cons (de_v at_ (by kernel_rfl)) (da_cons (de_v at_ (by kernel_rfl)) (da_cons (de_op (op_or op_add op_catA) op2_add (de_v at_ (by kernel_rfl)) (de_tup (da_cons (de_v at_ (by kernel_rfl)) da_nil rfl))) (da_cons (de_op (op_or op_add op_catA) op2_add (de_v at_ (by kernel_rfl)) (de_tup (da_cons (de_v at_ (by kernel_rfl)) da_nil rfl))) (da_cons (de_op op_sub op2_sub (de_v at_ (by kernel_rfl)) de_int) da_nil rfl) rfl) rfl) rfl) rfl) rfl) rfl rfl) (fun _ => rfl)))) (inB (Q := fun Y => DE G Y NoX _ _) at_ fx fun Y at_ fx => (de_v at_ (by kernel_rfl))) (fun _ => rfl)) (fun σ H Q h => lc_le (by decide) σ H Q (new_le σ H Q h))) (dss_cons (ds_asg (de_ix fx.K (de_v at_ (by kernel_rfl)) (bi_f at_ fx 1 rfl (by kernel_rfl) (da_cons (de_v at_ (by kernel_rfl)) (da_cons (bi_len at_ fx (by kernel_rfl) (da_cons (de_v at_ (by kernel_rfl)) da_nil rfl) rfl) da_nil rfl) rfl) rfl rfl) (fun _ _ => rfl)) (dg_v at_ (by kernel_rfl)) rfl rfl rfl) (dss_cons (ds_drop (de_app (de_v at_ (by kernel_rfl)) (da_cons (de_tup (da_cons (de_v at_ (by kernel_rfl)) (da_cons (bi_f at_ fx 24 rfl (by kernel_rfl) (da_cons (de_v at_ (by kernel_rfl)) (da_cons (de_v at_ (by kernel_rfl)) (da_cons (de_v at_ (by kernel_rfl)) (da_cons (de_v at_ (by kernel_rfl)) (da_cons (de_op (op_or op_add op_catA) op2_add (de_v at_ (by kernel_rfl)) (de_tup (da_cons (de_v at_ (by kernel_rfl)) da_nil rfl))) (da_cons (de_op (op_or op_add op_catA) op2_add (de_v at_ (by kernel_rfl)) (de_tup (da_cons (de_v at_ (by kernel_rfl)) da_nil rfl))) (da_cons (de_op op_sub op2_sub (de_v at_ (by kernel_rfl)) de_int) da_nil rfl) rfl) rfl) rfl) rfl) rfl) rfl) rfl rfl) da_nil rfl) rfl)) da_nil rfl) rfl rfl rfl rfl) rfl) dss_nil))) (fun _ => rfl)) (dss_cons (ds_asg (de_new (dl_lst da_nil)) (dg_v at_ (by kernel_rfl)) rfl rfl rfl) (dss_cons (ds_for hp fx.calm (di_val fx.K (bi_range1 at_ fx (by kernel_rfl) (da_cons (bi_len at_ fx (by kernel_rfl) (da_cons (de_v at_ (by kernel_rfl)) da_nil rfl) rfl) da_nil rfl) rfl)) (dg_v at_ (by kernel_rfl)) (dss_cons (ds_asg_of (ps_setLc (own := [("p", 8)]) fx.calm at_.nd' (at_.nth (by kernel_rfl)) (at_.lo (by kernel_rfl)) (swL at_ (by kernel_rfl)) (di_val fx.K (bi_range1 at_ fx (by kernel_rfl) (da_cons (bi_len at_ fx (by kernel_rfl) (da_cons (de_v at_ (by kernel_rfl)) da_nil rfl) rfl) da_nil rfl) rfl)) (at_.blkOk (by kernel_rfl)) (inB (Q := fun Y => DG G Y _ _ _) at_ fx fun Y at_ fx => (dg_v at_ (by kernel_rfl))) (inB (Q := fun Y => PTs Y _ (Lf G rB NoX _)) at_ fx fun Y at_ fx => (dts_one (dt_val (bi_f at_ fx 23 rfl (by kernel_rfl) (da_cons (de_v at_ (by kernel_rfl)) (da_cons (de_v at_ (by kernel_rfl)) (da_cons (de_v at_ (by kernel_rfl)) (da_cons (de_op (op_or op_add op_catA) op2_add (de_v at_ (by kernel_rfl)) (de_tup (da_cons (de_v at_ (by kernel_rfl)) da_nil rfl))) (da_cons (de_op (op_or op_add op_catA) op2_add (de_v at_ (by kernel_rfl)) (de_tup (da_cons (de_v at_ (by kernel_rfl)) da_nil rfl))) (da_cons (de_op op_sub op2_sub (de_v at_ (by kernel_rfl)) de_int) da_nil rfl) rfl) rfl) rfl) rfl) rfl) rfl rfl) (fun _ => rfl)))) (inB (Q := fun Y => DE G Y NoX _ _) at_ fx fun Y at_ fx => (de_v at_ (by kernel_rfl))) (fun _ => rfl)) (fun σ H Q h => lc_le (by decide) σ H Q (new_le σ H Q h))) (dss_cons (ds_asg (de_ix fx.K (de_v at_ (by kernel_rfl)) (bi_f at_ fx 1 rfl (by kernel_rfl) (da_cons (de_v at_ (by kernel_rfl)) (da_cons (bi_len at_ fx (by kernel_rfl) (da_cons (de_v at_ (by kernel_rfl)) da_nil rfl) rfl) da_nil rfl) rfl) rfl rfl) (fun _ _ => rfl)) (dg_v at_ (by kernel_rfl)) rfl rfl rfl) (dss_cons (ds_drop (de_app (de_v at_ (by kernel_rfl)) (da_cons (de_tup (da_cons (de_v at_ (by kernel_rfl)) (da_cons (bi_f at_ fx 24 rfl (by kernel_rfl) (da_cons (de_v at_ (by kernel_rfl)) (da_cons (de_v at_ (by kernel_rfl)) (da_cons (de_v at_ (by kernel_rfl)) (da_cons (de_v at_ (by kernel_rfl)) (da_cons (de_op (op_or op_add op_catA) op2_add (de_v at_ (by kernel_rfl)) (de_tup (da_cons (de_v at_ (by kernel_rfl)) da_nil rfl))) (da_cons (de_op (op_or op_add op_catA) op2_add (de_v at_ (by kernel_rfl)) (de_tup (da_cons (de_v at_ (by kernel_rfl)) da_nil rfl))) (da_cons (de_op op_sub op2_sub (de_v at_ (by kernel_rfl)) de_int) da_nil rfl) rfl) rfl) rfl) rfl) rfl) rfl) rfl rfl) da_nil rfl) rfl)) da_nil rfl) rfl rfl rfl rfl) rfl) dss_nil))) (fun _ => rfl)) (dss_cons (ds_ret (de_tup (da_cons (bi_tup at_ fx (by kernel_rfl) (da_cons (de_v at_ (by kernel_rfl)) da_nil rfl) rfl) (da_cons (bi_tup at_ fx (by kernel_rfl) (da_cons (de_v at_ (by kernel_rfl)) da_nil rfl) rfl) da_nil rfl) rfl))) dss_nil))))))
def N_l_law_as_told : List Str := ["turn", "one", "other", "ones", "others"]
def d_l_law_as_told (G : Gl) (Φ Ψ Γ : Nat → List D → M D) : FS := (sSeq (sRet (fCallU 6 (Φ 23) (aCons (eVar 0) (aCons (eVar 1) (aCons (eVar 2) (aCons (eVar 3) (aCons (eVar 4) (aCons (eC (.int 0)) aNil)))))))) sNil)
theorem p_l_law_as_told {G : Gl} {X : Cx} {E : XK} {Φ Ψ Γ : Nat → List D → M D} {k : Nat} (at_ : At X N_l_law_as_told (C8.fnScope (top 46)) (C8.fnScope (top 46))) (fx : Fine G tfs tms tcs tkt Φ Ψ Γ k X) (hp : PassesOwn (model X.prog X.w) X.A X.env X.xe) : DSs G X E (C8.fnBody (top 46)) (d_l_law_as_told G Φ Ψ Γ) := by
  unfold d_l_law_as_told
  exact (dss_cons (ds_ret (bi_f at_ fx 23 rfl (by kernel_rfl) (da_cons (de_v at_ (by kernel_rfl)) (da_cons (de_v at_ (by kernel_rfl)) (da_cons (de_v at_ (by kernel_rfl)) (da_cons (de_v at_ (by kernel_rfl)) (da_cons (de_v at_ (by kernel_rfl)) (da_cons de_int da_nil rfl) rfl) rfl) rfl) rfl) rfl) rfl rfl)) dss_nil)
def N_l_law_apart : List Str := ["source", "turn", "one", "other", "ones", "others", "rounds", "good", "p", "q", "parts", "side", "point"]
def d_l_law_apart (G : Gl) (Φ Ψ Γ : Nat → List D → M D) : FS := (sSeq (sIf (bNot (bVal (fCallU 5 (Φ 25) (aCons (eVar 1) (aCons (eVar 2) (aCons (eVar 3) (aCons (eVar 4) (aCons (eVar 5) aNil)))))))) (sSeq (sRet (fTup aNil)) sNil) sNil) (sSeq (sAsg (fNew (fLst aNil)) (gVar 7)) (sSeq (sFor (fVal (fCall cRange1 (aCons (fCall cLen (aCons (eVar 2) aNil)) aNil))) (gVar 8) (sSeq (sIf (bNot (bVal (fCall cAnyN (fComp (fVal (fCall cRange1 (aCons (fCall cLen (aCons (eVar 3) aNil)) aNil))) (gVar 9) bTrue (fCallU 6 (Φ 23) (aCons (eVar 1) (aCons (eVar 2) (aCons (eVar 3) (aCons (fOp2 opAdd (eVar 4) (fTup (aCons (eVar 8) aNil))) (aCons (fOp2 opAdd (eVar 5) (fTup (aCons (eVar 9) aNil))) (aCons (fOp2 opSub (eVar 6) (eC (.int 1))) aNil))))))) [9])))) (sSeq (sDrop (fApp (eVar 7) (aCons (fTup (aCons (eC (.int 0)) (aCons (eVar 8) aNil))) aNil))) sNil) sNil) sNil)) (sSeq (sFor (fVal (fCall cRange1 (aCons (fCall cLen (aCons (eVar 3) aNil)) aNil))) (gVar 9) (sSeq (sIf (bNot (bVal (fCall cAnyN (fComp (fVal (fCall cRange1 (aCons (fCall cLen (aCons (eVar 2) aNil)) aNil))) (gVar 8) bTrue (fCallU 6 (Φ 23) (aCons (eVar 1) (aCons (eVar 2) (aCons (eVar 3) (aCons (fOp2 opAdd (eVar 4) (fTup (aCons (eVar 8) aNil))) (aCons (fOp2 opAdd (eVar 5) (fTup (aCons (eVar 9) aNil))) (aCons (fOp2 opSub (eVar 6) (eC (.int 1))) aNil))))))) [8])))) (sSeq (sDrop (fApp (eVar 7) (aCons (fTup (aCons (eC (.int 1)) (aCons (eVar 9) aNil))) aNil))) sNil) sNil) sNil)) (sSeq (sAsg (fOp2 opIx (eVar 7) (fCallU 2 (Φ 1) (aCons (eVar 0) (aCons (fCall cLen (aCons (eVar 7) aNil)) aNil)))) (gTupD [(gVar 11), (gVar 12)])) (sSeq (sAsg (fNew (fLst aNil)) (gVar 10)) (sSeq (sIf (bVal (fOp2 (opEq false) (eVar 11) (eC (.int 0)))) (sSeq (sFor (fVal (fCall cRange1 (aCons (fCall cLen (aCons (eVar 3) aNil)) aNil))) (gVar 9) (sSeq (sDrop (fApp (eVar 10) (aCons (fCallU 7 (Φ 26) (aCons (eVar 0) (aCons (eVar 1) (aCons (eVar 2) (aCons (eVar 3) (aCons (fOp2 opAdd (eVar 4) (fTup (aCons (eVar 12) aNil))) (aCons (fOp2 opAdd (eVar 5) (fTup (aCons (eVar 9) aNil))) (aCons (fOp2 opSub (eVar 6) (eC (.int 1))) aNil)))))))) aNil))) sNil)) sNil) (sSeq (sFor (fVal (fCall cRange1 (aCons (fCall cLen (aCons (eVar 2) aNil)) aNil))) (gVar 8) (sSeq (sDrop (fApp (eVar 10) (aCons (fCallU 7 (Φ 26) (aCons (eVar 0) (aCons (eVar 1) (aCons (eVar 2) (aCons (eVar 3) (aCons (fOp2 opAdd (eVar 4) (fTup (aCons (eVar 8) aNil))) (aCons (fOp2 opAdd (eVar 5) (fTup (aCons (eVar 12) aNil))) (aCons (fOp2 opSub (eVar 6) (eC (.int 1))) aNil)))))))) aNil))) sNil)) sNil)) (sSeq (sRet (fTup (aCons (eVar 11) (aCons (eVar 12) (aCons (fCall cTup (aCons (eVar 10) aNil)) aNil))))) sNil))))))))
theorem p_l_law_apart {G : Gl} {X : Cx} {E : XK} {Φ Ψ Γ : Nat → List D → M D} {k : Nat} (at_ : At X N_l_law_apart (C8.fnScope (top 50)) (C8.fnScope (top 50))) (fx : Fine G tfs tms tcs tkt Φ Ψ Γ k X) (hp : PassesOwn (model X.prog X.w) X.A X.env X.xe) : DSs G X E (C8.fnBody (top 50)) (d_l_law_apart G Φ Ψ Γ) := by
  unfold d_l_law_apart
  exact (dss_cons (ds_if (dt_not (dt_val (bi_f at_ fx 25 rfl (by kernel_rfl) (da_cons (de_v at_ (by kernel_rfl)) (da_cons (de_v at_ (by kernel_rfl)) (da_cons (de_v at_ (by kernel_rfl)) (da_cons (de_v at_ (by kernel_rfl)) (da_cons (de_v at_ (by kernel_rfl)) da_nil rfl) rfl) rfl) rfl) rfl) rfl rfl) (fun _ => rfl))) (dss_cons (ds_ret (de_tup da_nil)) dss_nil) dss_nil) (dss_cons (ds_asg (de_new (dl_lst da_nil)) (dg_v at_ (by kernel_rfl)) rfl rfl rfl) (dss_cons (ds_for hp fx.calm (di_val fx.K (bi_range1 at_ fx (by kernel_rfl) (da_cons (bi_len at_ fx (by kernel_rfl) (da_cons (de_v at_ (by kernel_rfl)) da_nil rfl) rfl) da_nil rfl) rfl)) (dg_v at_ (by kernel_rfl)) (dss_cons (ds_if (dt_not (dt_val (bi_any at_ fx (by kernel_rfl) (dl_lc fx.calm at_.nd' (di_val fx.K (bi_range1 at_ fx (by kernel_rfl) (da_cons (bi_len at_ fx (by kernel_rfl) (da_cons (de_v at_ (by kernel_rfl)) da_nil rfl) rfl) da_nil rfl) rfl)) (at_.blkOk (own := [("q", 9)]) (by kernel_rfl)) (inB (Q := fun Y => DG G Y _ _ _) at_ fx fun Y at_ fx => (dg_v at_ (by kernel_rfl))) (inB (Q := fun Y => PTs Y _ (Lf G rB NoX _)) at_ fx fun Y at_ fx => dts_nil) (inB (Q := fun Y => DE G Y NoX _ _) at_ fx fun Y at_ fx => (bi_f at_ fx 23 rfl (by kernel_rfl) (da_cons (de_v at_ (by kernel_rfl)) (da_cons (de_v at_ (by kernel_rfl)) (da_cons (de_v at_ (by kernel_rfl)) (da_cons (de_op (op_or op_add op_catA) op2_add (de_v at_ (by kernel_rfl)) (de_tup (da_cons (de_v at_ (by kernel_rfl)) da_nil rfl))) (da_cons (de_op (op_or op_add op_catA) op2_add (de_v at_ (by kernel_rfl)) (de_tup (da_cons (de_v at_ (by kernel_rfl)) da_nil rfl))) (da_cons (de_op op_sub op2_sub (de_v at_ (by kernel_rfl)) de_int) da_nil rfl) rfl) rfl) rfl) rfl) rfl) rfl rfl)) (by decide) (fun _ => rfl)) rfl) (fun _ => rfl))) (dss_cons (ds_drop (de_app (de_v at_ (by kernel_rfl)) (da_cons (de_tup (da_cons de_int (da_cons (de_v at_ (by kernel_rfl)) da_nil rfl) rfl)) da_nil rfl) rfl rfl rfl rfl) rfl) dss_nil) dss_nil) dss_nil) (fun _ => rfl)) (dss_cons (ds_for hp fx.calm (di_val fx.K (bi_range1 at_ fx (by kernel_rfl) (da_cons (bi_len at_ fx (by kernel_rfl) (da_cons (de_v at_ (by kernel_rfl)) da_nil rfl) rfl) da_nil rfl) rfl)) (dg_v at_ (by kernel_rfl)) (dss_cons (ds_if (dt_not (dt_val (bi_any at_ fx (by kernel_rfl) (dl_lc fx.calm at_.nd' (di_val fx.K (bi_range1 at_ fx (by kernel_rfl) (da_cons (bi_len at_ fx (by kernel_rfl) (da_cons (de_v at_ (by kernel_rfl)) da_nil rfl) rfl) da_nil rfl) rfl)) (at_.blkOk (own := [("p", 8)]) (by kernel_rfl)) (inB (Q := fun Y => DG G Y _ _ _) at_ fx fun Y at_ fx => (dg_v at_ (by kernel_rfl))) (inB (Q := fun Y => PTs Y _ (Lf G rB NoX _)) at_ fx fun Y at_ fx => dts_nil) (inB (Q := fun Y => DE G Y NoX _ _) at_ fx fun Y at_ fx => (bi_f at_ fx 23 rfl (by kernel_rfl) (da_cons (de_v at_ (by kernel_rfl)) (da_cons (de_v at_ (by kernel_rfl)) (da_cons (de_v at_ (by kernel_rfl)) (da_cons (de_op (op_or op_add op_catA) op2_add (de_v at_ (by kernel_rfl)) (de_tup (da_cons (de_v at_ (by kernel_rfl)) da_nil rfl))) (da_cons (de_op (op_or op_add op_catA) op2_add (de_v at_ (by kernel_rfl)) (de_tup (da_cons (de_v at_ (by kernel_rfl)) da_nil rfl))) (da_cons (de_op op_sub op2_sub (de_v at_ (by kernel_rfl)) de_int) da_nil rfl) rfl) rfl) rfl) rfl) rfl) rfl rfl)) (by decide) (fun _ => rfl)) rfl) (fun _ => rfl))) (dss_cons (ds_drop (de_app (de_v at_ (by kernel_rfl)) (da_cons (de_tup (da_cons de_int (da_cons (de_v at_ (by kernel_rfl)) da_nil rfl) rfl)) da_nil rfl) rfl rfl rfl rfl) rfl) dss_nil) dss_nil) dss_nil) (fun _ => rfl)) (dss_cons (ds_asg (de_ix fx.K (de_v at_ (by kernel_rfl)) (bi_f at_ fx 1 rfl (by kernel_rfl) (da_cons (de_v at_ (by kernel_rfl)) (da_cons (bi_len at_ fx (by kernel_rfl) (da_cons (de_v at_ (by kernel_rfl)) da_nil rfl) rfl) da_nil rfl) rfl) rfl rfl) (fun _ _ => rfl)) (dg_tup fx.calm (dgs_cons (ks := [11, 12]) (dg_v at_ (by kernel_rfl)) (dgs_cons (ks := [11, 12]) (dg_v at_ (by kernel_rfl)) (dgs_nil (is := [11, 12])) (by decide) (by decide) rfl) (by decide) (by decide) rfl) rfl rfl) rfl rfl rfl) (dss_cons (ds_asg (de_new (dl_lst da_nil)) (dg_v at_ (by kernel_rfl)) rfl rfl rfl) (dss_cons (ds_if (dt_cmp (op_eqD fx.un) op2_eq (de_v at_ (by kernel_rfl)) de_int rfl) (dss_cons (ds_for hp fx.calm (di_val fx.K (bi_range1 at_ fx (by kernel_rfl) (da_cons (bi_len at_ fx (by kernel_rfl) (da_cons (de_v at_ (by kernel_rfl)) da_nil rfl) rfl) da_nil rfl) rfl)) (dg_v at_ (by kernel_rfl)) (dss_cons (ds_drop (de_app (de_v at_ (by kernel_rfl)) (da_cons (bi_f at_ fx 26 rfl (by kernel_rfl) (da_cons (de_v at_ (by kernel_rfl)) (da_cons (de_v at_ (by kernel_rfl)) (da_cons (de_v at_ (by kernel_rfl)) (da_cons (de_v at_ (by kernel_rfl)) (da_cons (de_op (op_or op_add op_catA) op2_add (de_v at_ (by kernel_rfl)) (de_tup (da_cons (de_v at_ (by kernel_rfl)) da_nil rfl))) (da_cons (de_op (op_or op_add op_catA) op2_add (de_v at_ (by kernel_rfl)) (de_tup (da_cons (de_v at_ (by kernel_rfl)) da_nil rfl))) (da_cons (de_op op_sub op2_sub (de_v at_ (by kernel_rfl)) de_int) da_nil rfl) rfl) rfl) rfl) rfl) rfl) rfl) rfl rfl) da_nil rfl) rfl rfl rfl rfl) rfl) dss_nil) (fun _ => rfl)) dss_nil) (dss_cons (ds_for hp fx.calm (di_val fx.K (bi_range1 at_ fx (by kernel_rfl) (da_cons (bi_len at_ fx (by kernel_rfl) (da_cons (de_v at_ (by kernel_rfl)) da_nil rfl) rfl) da_nil rfl) rfl)) (dg_v at_ (by kernel_rfl)) (dss_cons (ds_drop (de_app (de_v at_ (by kernel_rfl)) (da_cons (bi_f at_ fx 26 rfl (by kernel_rfl) (da_cons (de_v at_ (by kernel_rfl)) (da_cons (de_v at_ (by kernel_rfl)) (da_cons (de_v at_ (by kernel_rfl)) (da_cons (de_v at_ (by kernel_rfl)) (da_cons (de_op (op_or op_add op_catA) op2_add (de_v at_ (by kernel_rfl)) (de_tup (da_cons (de_v at_ (by kernel_rfl)) da_nil rfl))) (da_cons (de_op (op_or op_add op_catA) op2_add (de_v at_ (by kernel_rfl)) (de_tup (da_cons (de_v at_ (by kernel_rfl)) da_nil rfl))) (da_cons (de_op op_sub op2_sub (de_v at_ (by kernel_rfl)) de_int) da_nil rfl) rfl) rfl) rfl) rfl) rfl) rfl) rfl rfl) da_nil rfl) rfl rfl rfl rfl) rfl) dss_nil) (fun _ => rfl)) dss_nil)) (dss_cons (ds_ret (de_tup (da_cons (de_v at_ (by kernel_rfl)) (da_cons (de_v at_ (by kernel_rfl)) (da_cons (bi_tup at_ fx (by kernel_rfl) (da_cons (de_v at_ (by kernel_rfl)) da_nil rfl) rfl) da_nil rfl) rfl) rfl))) dss_nil))))))))
def N_l_law_paper : List Str := ["source", "turn", "one", "other", "rounds"]
def d_l_law_paper (G : Gl) (Φ Ψ Γ : Nat → List D → M D) : FS := (sSeq (sIf (bVal (fCallU 6 (Φ 23) (aCons (eVar 1) (aCons (eVar 2) (aCons (eVar 3) (aCons (fTup aNil) (aCons (fTup aNil) (aCons (eVar 4) aNil)))))))) (sSeq (sRet (fTup (aCons (eC (.str "alike")) (aCons (fCallU 7 (Φ 24) (aCons (eVar 0) (aCons (eVar 1) (aCons (eVar 2) (aCons (eVar 3) (aCons (fTup aNil) (aCons (fTup aNil) (aCons (eVar 4) aNil)))))))) aNil)))) sNil) sNil) (sSeq (sRet (fTup (aCons (eC (.str "apart")) (aCons (fCallU 7 (Φ 26) (aCons (eVar 0) (aCons (eVar 1) (aCons (eVar 2) (aCons (eVar 3) (aCons (fTup aNil) (aCons (fTup aNil) (aCons (eVar 4) aNil)))))))) aNil)))) sNil))
theorem p_l_law_paper {G : Gl} {X : Cx} {E : XK} {Φ Ψ Γ : Nat → List D → M D} {k : Nat} (at_ : At X N_l_law_paper (C8.fnScope (top 52)) (C8.fnScope (top 52))) (fx : Fine G tfs tms tcs tkt Φ Ψ Γ k X) (hp : PassesOwn (model X.prog X.w) X.A X.env X.xe) : DSs G X E (C8.fnBody (top 52)) (d_l_law_paper G Φ Ψ Γ) := by
  unfold d_l_law_paper
  exact (dss_cons (ds_if (dt_val (bi_f at_ fx 23 rfl (by kernel_rfl) (da_cons (de_v at_ (by kernel_rfl)) (da_cons (de_v at_ (by kernel_rfl)) (da_cons (de_v at_ (by kernel_rfl)) (da_cons (de_tup da_nil) (da_cons (de_tup da_nil) (da_cons (de_v at_ (by kernel_rfl)) da_nil rfl) rfl) rfl) rfl) rfl) rfl) rfl rfl) (fun _ => rfl)) (dss_cons (ds_ret (de_tup (da_cons de_str (da_cons (bi_f at_ fx 24 rfl (by kernel_rfl) (da_cons (de_v at_ (by kernel_rfl)) (da_cons (de_v at_ (by kernel_rfl)) (da_cons (de_v at_ (by kernel_rfl)) (da_cons (de_v at_ (by kernel_rfl)) (da_cons (de_tup da_nil) (da_cons (de_tup da_nil) (da_cons (de_v at_ (by kernel_rfl)) da_nil rfl) rfl) rfl) rfl) rfl) rfl) rfl) rfl rfl) da_nil rfl) rfl))) dss_nil) dss_nil) (dss_cons (ds_ret (de_tup (da_cons de_str (da_cons (bi_f at_ fx 26 rfl (by kernel_rfl) (da_cons (de_v at_ (by kernel_rfl)) (da_cons (de_v at_ (by kernel_rfl)) (da_cons (de_v at_ (by kernel_rfl)) (da_cons (de_v at_ (by kernel_rfl)) (da_cons (de_tup da_nil) (da_cons (de_tup da_nil) (da_cons (de_v at_ (by kernel_rfl)) da_nil rfl) rfl) rfl) rfl) rfl) rfl) rfl) rfl rfl) da_nil rfl) rfl))) dss_nil))
def N_check_picture : List Str := ["table", "picture"]
def d_check_picture (G : Gl) (Φ Ψ Γ : Nat → List D → M D) : FS := (sSeq (sIf (bNot (bVal (fCallU 2 (Φ 8) (aCons (eVar 1) (aCons (fFld G "ties" (eVar 0)) aNil))))) (sSeq sNone sNil) sNil) sNil)
theorem p_check_picture {G : Gl} {X : Cx} {E : XK} {Φ Ψ Γ : Nat → List D → M D} {k : Nat} (at_ : At X N_check_picture (C8.fnScope (top 14)) (C8.fnScope (top 14))) (fx : Fine G tfs tms tcs tkt Φ Ψ Γ k X) (hp : PassesOwn (model X.prog X.w) X.A X.env X.xe) : DSs G X E (C8.fnBody (top 14)) (d_check_picture G Φ Ψ Γ) := by
  unfold d_check_picture
  exact (dss_cons (ds_if (dt_not (dt_val (bi_f at_ fx 8 rfl (by kernel_rfl) (da_cons (de_v at_ (by kernel_rfl)) (da_cons (bi_fld at_ fx (de_v at_ (by kernel_rfl)) rfl) da_nil rfl) rfl) rfl rfl) (fun _ => rfl))) (dss_cons ds_none dss_nil) dss_nil) dss_nil)
def N_check_number : List Str := ["value"]
def d_check_number (G : Gl) (Φ Ψ Γ : Nat → List D → M D) : FS := (sSeq (sIf (bNot (bVal (fCallU 1 (Φ 4) (aCons (eVar 0) aNil)))) (sSeq sNone sNil) sNil) sNil)
theorem p_check_number {G : Gl} {X : Cx} {E : XK} {Φ Ψ Γ : Nat → List D → M D} {k : Nat} (at_ : At X N_check_number (C8.fnScope (top 13)) (C8.fnScope (top 13))) (fx : Fine G tfs tms tcs tkt Φ Ψ Γ k X) (hp : PassesOwn (model X.prog X.w) X.A X.env X.xe) : DSs G X E (C8.fnBody (top 13)) (d_check_number G Φ Ψ Γ) := by
  unfold d_check_number
  exact (dss_cons (ds_if (dt_not (dt_val (bi_f at_ fx 4 rfl (by kernel_rfl) (da_cons (de_v at_ (by kernel_rfl)) da_nil rfl) rfl rfl) (fun _ => rfl))) (dss_cons ds_none dss_nil) dss_nil) dss_nil)
def N_Game___init : List Str := ["self", "turn", "one", "other"]
def d_Game___init (G : Gl) (Φ Ψ Γ : Nat → List D → M D) : FS := (sSeq (sFldD G (eVar 0) (eVar 1) "turn") (sSeq (sFldD G (eVar 0) (fTup (aCons (eVar 2) (aCons (eVar 3) aNil))) "sides") (sSeq (sFldD G (eVar 0) fDct0 "known") sNil)))
theorem p_Game___init {G : Gl} {X : Cx} {E : XK} {Φ Ψ Γ : Nat → List D → M D} {k : Nat} (at_ : At X N_Game___init (C8.fnScope ((C8.clsBody (top 24)).getD 0 (.Pass ⟨0, 0, 0, 0⟩))) (C8.fnScope ((C8.clsBody (top 24)).getD 0 (.Pass ⟨0, 0, 0, 0⟩)))) (fx : Fine G tfs tms tcs tkt Φ Ψ Γ k X) (hp : PassesOwn (model X.prog X.w) X.A X.env X.xe) : DSs G X E (C8.fnBody ((C8.clsBody (top 24)).getD 0 (.Pass ⟨0, 0, 0, 0⟩))) (d_Game___init G Φ Ψ Γ) := by
  unfold d_Game___init
  exact (dss_cons (ds_fld fx.att (de_v at_ (by kernel_rfl)) (de_v at_ (by kernel_rfl)) rfl) (dss_cons (ds_fld fx.att (de_v at_ (by kernel_rfl)) (de_tup (da_cons (de_v at_ (by kernel_rfl)) (da_cons (de_v at_ (by kernel_rfl)) da_nil rfl) rfl)) rfl) (dss_cons (ds_fld fx.att (de_v at_ (by kernel_rfl)) de_dict0 rfl) dss_nil)))
def N_game_on : List Str := ["table", "one", "other", "rounds"]
def d_game_on (G : Gl) (Φ Ψ Γ : Nat → List D → M D) : FS := (sSeq (sDrop (fCallU 2 (Φ 28) (aCons (eVar 0) (aCons (eVar 1) aNil)))) (sSeq (sDrop (fCallU 2 (Φ 28) (aCons (eVar 0) (aCons (eVar 2) aNil)))) (sSeq (sDrop (fCallU 1 (Φ 29) (aCons (eVar 3) aNil))) (sSeq (sRet (fMake "Game" 4 (Γ 1) (aCons (fFld G "turn" (eVar 0)) (aCons (eVar 1) (aCons (eVar 2) aNil))))) sNil))))
theorem p_game_on {G : Gl} {X : Cx} {E : XK} {Φ Ψ Γ : Nat → List D → M D} {k : Nat} (at_ : At X N_game_on (C8.fnScope (top 25)) (C8.fnScope (top 25))) (fx : Fine G tfs tms tcs tkt Φ Ψ Γ k X) (hp : PassesOwn (model X.prog X.w) X.A X.env X.xe) : DSs G X E (C8.fnBody (top 25)) (d_game_on G Φ Ψ Γ) := by
  unfold d_game_on
  exact (dss_cons (ds_drop (bi_f at_ fx 28 rfl (by kernel_rfl) (da_cons (de_v at_ (by kernel_rfl)) (da_cons (de_v at_ (by kernel_rfl)) da_nil rfl) rfl) rfl rfl) rfl) (dss_cons (ds_drop (bi_f at_ fx 28 rfl (by kernel_rfl) (da_cons (de_v at_ (by kernel_rfl)) (da_cons (de_v at_ (by kernel_rfl)) da_nil rfl) rfl) rfl rfl) rfl) (dss_cons (ds_drop (bi_f at_ fx 29 rfl (by kernel_rfl) (da_cons (de_v at_ (by kernel_rfl)) da_nil rfl) rfl rfl) rfl) (dss_cons (ds_ret (bi_c at_ fx 1 rfl (by kernel_rfl) (da_cons (bi_fld at_ fx (de_v at_ (by kernel_rfl)) rfl) (da_cons (de_v at_ (by kernel_rfl)) (da_cons (de_v at_ (by kernel_rfl)) da_nil rfl) rfl) rfl) rfl rfl)) dss_nil))))
def N_Game_replies : List Str := ["self", "side", "point", "answer"]
def d_Game_replies (G : Gl) (Φ Ψ Γ : Nat → List D → M D) : FS := (sSeq (sIf (bVal (fOp2 (opEq false) (eVar 1) (eC (.int 0)))) (sSeq (sRet (fNew (fComp (fVal (fCall cRange1 (aCons (fCall cLen (aCons (fOp2 opIx (fFld G "sides" (eVar 0)) (eC (.int 1))) aNil)) aNil))) (gVar 3) bTrue (fTup (aCons (eVar 2) (aCons (eVar 3) aNil))) [3]))) sNil) sNil) (sSeq (sRet (fNew (fComp (fVal (fCall cRange1 (aCons (fCall cLen (aCons (fOp2 opIx (fFld G "sides" (eVar 0)) (eC (.int 0))) aNil)) aNil))) (gVar 3) bTrue (fTup (aCons (eVar 3) (aCons (eVar 2) aNil))) [3]))) sNil))
theorem p_Game_replies {G : Gl} {X : Cx} {E : XK} {Φ Ψ Γ : Nat → List D → M D} {k : Nat} (at_ : At X N_Game_replies (C8.fnScope ((C8.clsBody (top 24)).getD 3 (.Pass ⟨0, 0, 0, 0⟩))) (C8.fnScope ((C8.clsBody (top 24)).getD 3 (.Pass ⟨0, 0, 0, 0⟩)))) (fx : Fine G tfs tms tcs tkt Φ Ψ Γ k X) (hp : PassesOwn (model X.prog X.w) X.A X.env X.xe) : DSs G X E (C8.fnBody ((C8.clsBody (top 24)).getD 3 (.Pass ⟨0, 0, 0, 0⟩))) (d_Game_replies G Φ Ψ Γ) := by
  unfold d_Game_replies
  exact (dss_cons (ds_if (dt_cmp (op_eqD fx.un) op2_eq (de_v at_ (by kernel_rfl)) de_int rfl) (dss_cons (ds_ret (de_new (dl_lc fx.calm at_.nd' (di_val fx.K (bi_range1 at_ fx (by kernel_rfl) (da_cons (bi_len at_ fx (by kernel_rfl) (da_cons (de_ix fx.K (bi_fld at_ fx (de_v at_ (by kernel_rfl)) rfl) de_int (fun _ _ => rfl)) da_nil rfl) rfl) da_nil rfl) rfl)) (at_.blkOk (own := [("answer", 3)]) (by kernel_rfl)) (inB (Q := fun Y => DG G Y _ _ _) at_ fx fun Y at_ fx => (dg_v at_ (by kernel_rfl))) (inB (Q := fun Y => PTs Y _ (Lf G rB NoX _)) at_ fx fun Y at_ fx => dts_nil) (inB (Q := fun Y => DE G Y NoX _ _) at_ fx fun Y at_ fx => (de_tup (da_cons (de_v at_ (by kernel_rfl)) (da_cons (de_v at_ (by kernel_rfl)) da_nil rfl) rfl))) (by decide) (fun _ => rfl)))) dss_nil) dss_nil) (dss_cons (ds_ret (de_new (dl_lc fx.calm at_.nd' (di_val fx.K (bi_range1 at_ fx (by kernel_rfl) (da_cons (bi_len at_ fx (by kernel_rfl) (da_cons (de_ix fx.K (bi_fld at_ fx (de_v at_ (by kernel_rfl)) rfl) de_int (fun _ _ => rfl)) da_nil rfl) rfl) da_nil rfl) rfl)) (at_.blkOk (own := [("answer", 3)]) (by kernel_rfl)) (inB (Q := fun Y => DG G Y _ _ _) at_ fx fun Y at_ fx => (dg_v at_ (by kernel_rfl))) (inB (Q := fun Y => PTs Y _ (Lf G rB NoX _)) at_ fx fun Y at_ fx => dts_nil) (inB (Q := fun Y => DE G Y NoX _ _) at_ fx fun Y at_ fx => (de_tup (da_cons (de_v at_ (by kernel_rfl)) (da_cons (de_v at_ (by kernel_rfl)) da_nil rfl) rfl))) (by decide) (fun _ => rfl)))) dss_nil))
def N_Game_goes_with : List Str := ["self", "before", "pair", "p", "q", "x", "y", "one", "other"]
def d_Game_goes_with (G : Gl) (Φ Ψ Γ : Nat → List D → M D) : FS := (sSeq (sAsg (eVar 1) (gTupD [(gVar 3), (gVar 4)])) (sSeq (sAsg (eVar 2) (gTupD [(gVar 5), (gVar 6)])) (sSeq (sIf (bOr (bVal (fOp2 (opEq false) (eVar 3) (eVar 5))) (bVal (fOp2 (opEq false) (eVar 4) (eVar 6)))) (sSeq (sRet (vAnd (fOp2 (opEq false) (eVar 3) (eVar 5)) (fOp2 (opEq false) (eVar 4) (eVar 6)))) sNil) sNil) (sSeq (sAsg (fFld G "sides" (eVar 0)) (gTupD [(gVar 7), (gVar 8)])) (sSeq (sRet (fOp2 (opEq false) (fCallU 4 (Φ 10) (aCons (fFld G "turn" (eVar 0)) (aCons (eVar 7) (aCons (eVar 3) (aCons (eVar 5) aNil))))) (fCallU 4 (Φ 10) (aCons (fFld G "turn" (eVar 0)) (aCons (eVar 8) (aCons (eVar 4) (aCons (eVar 6) aNil))))))) sNil)))))
theorem p_Game_goes_with {G : Gl} {X : Cx} {E : XK} {Φ Ψ Γ : Nat → List D → M D} {k : Nat} (at_ : At X N_Game_goes_with (C8.fnScope ((C8.clsBody (top 24)).getD 1 (.Pass ⟨0, 0, 0, 0⟩))) (C8.fnScope ((C8.clsBody (top 24)).getD 1 (.Pass ⟨0, 0, 0, 0⟩)))) (fx : Fine G tfs tms tcs tkt Φ Ψ Γ k X) (hp : PassesOwn (model X.prog X.w) X.A X.env X.xe) : DSs G X E (C8.fnBody ((C8.clsBody (top 24)).getD 1 (.Pass ⟨0, 0, 0, 0⟩))) (d_Game_goes_with G Φ Ψ Γ) := by
  unfold d_Game_goes_with
  exact (dss_cons (ds_asg (de_v at_ (by kernel_rfl)) (dg_tup fx.calm (dgs_cons (ks := [3, 4]) (dg_v at_ (by kernel_rfl)) (dgs_cons (ks := [3, 4]) (dg_v at_ (by kernel_rfl)) (dgs_nil (is := [3, 4])) (by decide) (by decide) rfl) (by decide) (by decide) rfl) rfl rfl) rfl rfl rfl) (dss_cons (ds_asg (de_v at_ (by kernel_rfl)) (dg_tup fx.calm (dgs_cons (ks := [5, 6]) (dg_v at_ (by kernel_rfl)) (dgs_cons (ks := [5, 6]) (dg_v at_ (by kernel_rfl)) (dgs_nil (is := [5, 6])) (by decide) (by decide) rfl) (by decide) (by decide) rfl) rfl rfl) rfl rfl rfl) (dss_cons (ds_if (dw_or (dt_cmp (op_eqD fx.un) op2_eq (de_v at_ (by kernel_rfl)) (de_v at_ (by kernel_rfl)) rfl) (dw_or1 (dt_cmp (op_eqD fx.un) op2_eq (de_v at_ (by kernel_rfl)) (de_v at_ (by kernel_rfl)) rfl))).pt (dss_cons (ds_ret (de_and (de_cmp (op_eqD fx.un) op2_eq (de_v at_ (by kernel_rfl)) (de_v at_ (by kernel_rfl)) rfl) (de_and1 (de_cmp (op_eqD fx.un) op2_eq (de_v at_ (by kernel_rfl)) (de_v at_ (by kernel_rfl)) rfl)))) dss_nil) dss_nil) (dss_cons (ds_asg (bi_fld at_ fx (de_v at_ (by kernel_rfl)) rfl) (dg_tup fx.calm (dgs_cons (ks := [7, 8]) (dg_v at_ (by kernel_rfl)) (dgs_cons (ks := [7, 8]) (dg_v at_ (by kernel_rfl)) (dgs_nil (is := [7, 8])) (by decide) (by decide) rfl) (by decide) (by decide) rfl) rfl rfl) rfl rfl rfl) (dss_cons (ds_ret (de_cmp (op_eqD fx.un) op2_eq (bi_f at_ fx 10 rfl (by kernel_rfl) (da_cons (bi_fld at_ fx (de_v at_ (by kernel_rfl)) rfl) (da_cons (de_v at_ (by kernel_rfl)) (da_cons (de_v at_ (by kernel_rfl)) (da_cons (de_v at_ (by kernel_rfl)) da_nil rfl) rfl) rfl) rfl) rfl rfl) (bi_f at_ fx 10 rfl (by kernel_rfl) (da_cons (bi_fld at_ fx (de_v at_ (by kernel_rfl)) rfl) (da_cons (de_v at_ (by kernel_rfl)) (da_cons (de_v at_ (by kernel_rfl)) (da_cons (de_v at_ (by kernel_rfl)) da_nil rfl) rfl) rfl) rfl) rfl rfl) rfl)) dss_nil)))))
def N_Game_goes_on : List Str := ["self", "position", "pair", "before"]
def d_Game_goes_on (G : Gl) (Φ Ψ Γ : Nat → List D → M D) : FS := (sSeq (sFor (fVal (eVar 1)) (gVar 3) (sSeq (sIf (bNot (bVal (fMeth "Game" "goes_with" 3 (Ψ 1) (eVar 0) (aCons (eVar 3) (aCons (eVar 2) aNil))))) (sSeq (sRet (eC (.bl false))) sNil) sNil) sNil)) (sSeq (sRet (eC (.bl true))) sNil))
theorem p_Game_goes_on {G : Gl} {X : Cx} {E : XK} {Φ Ψ Γ : Nat → List D → M D} {k : Nat} (at_ : At X N_Game_goes_on (C8.fnScope ((C8.clsBody (top 24)).getD 2 (.Pass ⟨0, 0, 0, 0⟩))) (C8.fnScope ((C8.clsBody (top 24)).getD 2 (.Pass ⟨0, 0, 0, 0⟩)))) (fx : Fine G tfs tms tcs tkt Φ Ψ Γ k X) (hp : PassesOwn (model X.prog X.w) X.A X.env X.xe) : DSs G X E (C8.fnBody ((C8.clsBody (top 24)).getD 2 (.Pass ⟨0, 0, 0, 0⟩))) (d_Game_goes_on G Φ Ψ Γ) := by
  unfold d_Game_goes_on
  exact (dss_cons (ds_for hp fx.calm (di_val fx.K (de_v at_ (by kernel_rfl))) (dg_v at_ (by kernel_rfl)) (dss_cons (ds_if (dt_not (dt_val (bi_m at_ fx 1 rfl (de_v at_ (by kernel_rfl)) (da_cons (de_v at_ (by kernel_rfl)) (da_cons (de_v at_ (by kernel_rfl)) da_nil rfl) rfl) rfl rfl rfl) (fun _ => rfl))) (dss_cons (ds_ret de_bool) dss_nil) dss_nil) dss_nil) (fun _ => rfl)) (dss_cons (ds_ret de_bool) dss_nil))
def N_is_apart_tree : List Str := ["game", "position", "rounds", "value", "pairs", "side", "point", "trees", "pair", "tree"]
def d_is_apart_tree (G : Gl) (Φ Ψ Γ : Nat → List D → M D) : FS := (sSeq (sIf (bOr (bNot (bVal (fIsi ["tuple"] (eVar 3)))) (bOr (bVal (fOp2 (opEq true) (fCall cLen (aCons (eVar 3) aNil)) (eC (.int 3)))) (bVal (fOp2 (opEq false) (eVar 2) (eC (.int 0)))))) (sSeq (sRet (eC (.bl false))) sNil) sNil) (sSeq (sAsg (eVar 3) (gTupD [(gVar 5), (gVar 6), (gVar 7)])) (sSeq (sIf (bOr (bNot (bVal (fCallU 2 (Φ 5) (aCons (eVar 5) (aCons (eC (.int 2)) aNil))))) (bNot (bVal (fCallU 2 (Φ 5) (aCons (eVar 6) (aCons (fCall cLen (aCons (fOp2 opIx (fFld G "sides" (eVar 0)) (eVar 5)) aNil)) aNil)))))) (sSeq (sRet (eC (.bl false))) sNil) sNil) (sSeq (sAsg (fMeth "Game" "replies" 3 (Ψ 0) (eVar 0) (aCons (eVar 5) (aCons (eVar 6) aNil))) (gVar 4)) (sSeq (sIf (bOr (bNot (bVal (fIsi ["tuple"] (eVar 7)))) (bVal (fOp2 (opEq true) (fCall cLen (aCons (eVar 7) aNil)) (fCall cLen (aCons (eVar 4) aNil))))) (sSeq (sRet (eC (.bl false))) sNil) sNil) (sSeq (sFor (fZip (aCons (eVar 4) (aCons (eVar 7) aNil))) (gTupD [(gVar 8), (gVar 9)]) (sSeq (sIf (bVal (fMeth "Game" "goes_on" 3 (Ψ 2) (eVar 0) (aCons (eVar 1) (aCons (eVar 8) aNil)))) (sSeq (sIf (bNot (bVal (fCallU 4 (Φ 31) (aCons (eVar 0) (aCons (fOp2 opAdd (eVar 1) (fTup (aCons (eVar 8) aNil))) (aCons (fOp2 opSub (eVar 2) (eC (.int 1))) (aCons (eVar 9) aNil))))))) (sSeq (sRet (eC (.bl false))) sNil) sNil) sNil) (sSeq (sIf (bVal (fOp2 (opEq true) (eVar 9) (fTup aNil))) (sSeq (sRet (eC (.bl false))) sNil) sNil) sNil)) sNil)) (sSeq (sRet (eC (.bl true))) sNil)))))))
theorem p_is_apart_tree {G : Gl} {X : Cx} {E : XK} {Φ Ψ Γ : Nat → List D → M D} {k : Nat} (at_ : At X N_is_apart_tree (C8.fnScope (top 26)) (C8.fnScope (top 26))) (fx : Fine G tfs tms tcs tkt Φ Ψ Γ k X) (hp : PassesOwn (model X.prog X.w) X.A X.env X.xe) : DSs G X E (C8.fnBody (top 26)) (d_is_apart_tree G Φ Ψ Γ) := by
  unfold d_is_apart_tree
  exact (dss_cons (ds_if (dw_or (dt_not (dt_val (bi_isi at_ fx "tuple" (by decide) (by kernel_rfl) (by kernel_rfl) (de_v at_ (by kernel_rfl)) rfl) (fun _ => rfl))) (dw_or (dt_cmp (op_neD fx.un) op2_ne (bi_len at_ fx (by kernel_rfl) (da_cons (de_v at_ (by kernel_rfl)) da_nil rfl) rfl) de_int rfl) (dw_or1 (dt_cmp (op_eqD fx.un) op2_eq (de_v at_ (by kernel_rfl)) de_int rfl)))).pt (dss_cons (ds_ret de_bool) dss_nil) dss_nil) (dss_cons (ds_asg (de_v at_ (by kernel_rfl)) (dg_tup fx.calm (dgs_cons (ks := [5, 6, 7]) (dg_v at_ (by kernel_rfl)) (dgs_cons (ks := [5, 6, 7]) (dg_v at_ (by kernel_rfl)) (dgs_cons (ks := [5, 6, 7]) (dg_v at_ (by kernel_rfl)) (dgs_nil (is := [5, 6, 7])) (by decide) (by decide) rfl) (by decide) (by decide) rfl) (by decide) (by decide) rfl) rfl rfl) rfl rfl rfl) (dss_cons (ds_if (dw_or (dt_not (dt_val (bi_f at_ fx 5 rfl (by kernel_rfl) (da_cons (de_v at_ (by kernel_rfl)) (da_cons de_int da_nil rfl) rfl) rfl rfl) (fun _ => rfl))) (dw_or1 (dt_not (dt_val (bi_f at_ fx 5 rfl (by kernel_rfl) (da_cons (de_v at_ (by kernel_rfl)) (da_cons (bi_len at_ fx (by kernel_rfl) (da_cons (de_ix fx.K (bi_fld at_ fx (de_v at_ (by kernel_rfl)) rfl) (de_v at_ (by kernel_rfl)) (fun _ _ => rfl)) da_nil rfl) rfl) da_nil rfl) rfl) rfl rfl) (fun _ => rfl))))).pt (dss_cons (ds_ret de_bool) dss_nil) dss_nil) (dss_cons (ds_asg (bi_m at_ fx 0 rfl (de_v at_ (by kernel_rfl)) (da_cons (de_v at_ (by kernel_rfl)) (da_cons (de_v at_ (by kernel_rfl)) da_nil rfl) rfl) rfl rfl rfl) (dg_v at_ (by kernel_rfl)) rfl rfl rfl) (dss_cons (ds_if (dw_or (dt_not (dt_val (bi_isi at_ fx "tuple" (by decide) (by kernel_rfl) (by kernel_rfl) (de_v at_ (by kernel_rfl)) rfl) (fun _ => rfl))) (dw_or1 (dt_cmp (op_neD fx.un) op2_ne (bi_len at_ fx (by kernel_rfl) (da_cons (de_v at_ (by kernel_rfl)) da_nil rfl) rfl) (bi_len at_ fx (by kernel_rfl) (da_cons (de_v at_ (by kernel_rfl)) da_nil rfl) rfl) rfl))).pt (dss_cons (ds_ret de_bool) dss_nil) dss_nil) (dss_cons (ds_for hp fx.calm (bi_zip at_ fx (by kernel_rfl) (da_cons (de_v at_ (by kernel_rfl)) (da_cons (de_v at_ (by kernel_rfl)) da_nil rfl) rfl) rfl rfl) (dg_tup fx.calm (dgs_cons (ks := [8, 9]) (dg_v at_ (by kernel_rfl)) (dgs_cons (ks := [8, 9]) (dg_v at_ (by kernel_rfl)) (dgs_nil (is := [8, 9])) (by decide) (by decide) rfl) (by decide) (by decide) rfl) rfl rfl) (dss_cons (ds_if (dt_val (bi_m at_ fx 2 rfl (de_v at_ (by kernel_rfl)) (da_cons (de_v at_ (by kernel_rfl)) (da_cons (de_v at_ (by kernel_rfl)) da_nil rfl) rfl) rfl rfl rfl) (fun _ => rfl)) (dss_cons (ds_if (dt_not (dt_val (bi_f at_ fx 31 rfl (by kernel_rfl) (da_cons (de_v at_ (by kernel_rfl)) (da_cons (de_op (op_or op_add op_catA) op2_add (de_v at_ (by kernel_rfl)) (de_tup (da_cons (de_v at_ (by kernel_rfl)) da_nil rfl))) (da_cons (de_op op_sub op2_sub (de_v at_ (by kernel_rfl)) de_int) (da_cons (de_v at_ (by kernel_rfl)) da_nil rfl) rfl) rfl) rfl) rfl rfl) (fun _ => rfl))) (dss_cons (ds_ret de_bool) dss_nil) dss_nil) dss_nil) (dss_cons (ds_if (dt_cmp (op_neD fx.un) op2_ne (de_v at_ (by kernel_rfl)) (de_tup da_nil) rfl) (dss_cons (ds_ret de_bool) dss_nil) dss_nil) dss_nil)) dss_nil) (fun _ => rfl)) (dss_cons (ds_ret de_bool) dss_nil)))))))
def N_is_told_answer : List Str := ["game", "position", "rounds", "side", "point", "value", "pair", "answer", "tree"]
def d_is_told_answer (G : Gl) (Φ Ψ Γ : Nat → List D → M D) : FS := (sSeq (sIf (bOr (bNot (bVal (fIsi ["tuple"] (eVar 5)))) (bVal (fOp2 (opEq true) (fCall cLen (aCons (eVar 5) aNil)) (eC (.int 2))))) (sSeq (sRet (eC (.bl false))) sNil) sNil) (sSeq (sAsg (eVar 5) (gTupD [(gVar 7), (gVar 8)])) (sSeq (sIf (bNot (bVal (fCallU 2 (Φ 5) (aCons (eVar 7) (aCons (fCall cLen (aCons (fOp2 opIx (fFld G "sides" (eVar 0)) (fOp2 opSub (eC (.int 1)) (eVar 3))) aNil)) aNil))))) (sSeq (sRet (eC (.bl false))) sNil) sNil) (sSeq (sAsg (vIf (bVal (fOp2 (opEq false) (eVar 3) (eC (.int 0)))) (fTup (aCons (eVar 4) (aCons (eVar 7) aNil))) (fTup (aCons (eVar 7) (aCons (eVar 4) aNil)))) (gVar 6)) (sSeq (sRet (vAnd (fMeth "Game" "goes_on" 3 (Ψ 2) (eVar 0) (aCons (eVar 1) (aCons (eVar 6) aNil))) (fCallU 4 (Φ 33) (aCons (eVar 0) (aCons (fOp2 opAdd (eVar 1) (fTup (aCons (eVar 6) aNil))) (aCons (fOp2 opSub (eVar 2) (eC (.int 1))) (aCons (eVar 8) aNil))))))) sNil)))))
theorem p_is_told_answer {G : Gl} {X : Cx} {E : XK} {Φ Ψ Γ : Nat → List D → M D} {k : Nat} (at_ : At X N_is_told_answer (C8.fnScope (top 27)) (C8.fnScope (top 27))) (fx : Fine G tfs tms tcs tkt Φ Ψ Γ k X) (hp : PassesOwn (model X.prog X.w) X.A X.env X.xe) : DSs G X E (C8.fnBody (top 27)) (d_is_told_answer G Φ Ψ Γ) := by
  unfold d_is_told_answer
  exact (dss_cons (ds_if (dw_or (dt_not (dt_val (bi_isi at_ fx "tuple" (by decide) (by kernel_rfl) (by kernel_rfl) (de_v at_ (by kernel_rfl)) rfl) (fun _ => rfl))) (dw_or1 (dt_cmp (op_neD fx.un) op2_ne (bi_len at_ fx (by kernel_rfl) (da_cons (de_v at_ (by kernel_rfl)) da_nil rfl) rfl) de_int rfl))).pt (dss_cons (ds_ret de_bool) dss_nil) dss_nil) (dss_cons (ds_asg (de_v at_ (by kernel_rfl)) (dg_tup fx.calm (dgs_cons (ks := [7, 8]) (dg_v at_ (by kernel_rfl)) (dgs_cons (ks := [7, 8]) (dg_v at_ (by kernel_rfl)) (dgs_nil (is := [7, 8])) (by decide) (by decide) rfl) (by decide) (by decide) rfl) rfl rfl) rfl rfl rfl) (dss_cons (ds_if (dt_not (dt_val (bi_f at_ fx 5 rfl (by kernel_rfl) (da_cons (de_v at_ (by kernel_rfl)) (da_cons (bi_len at_ fx (by kernel_rfl) (da_cons (de_ix fx.K (bi_fld at_ fx (de_v at_ (by kernel_rfl)) rfl) (de_op op_sub op2_sub de_int (de_v at_ (by kernel_rfl))) (fun _ _ => rfl)) da_nil rfl) rfl) da_nil rfl) rfl) rfl rfl) (fun _ => rfl))) (dss_cons (ds_ret de_bool) dss_nil) dss_nil) (dss_cons (ds_asg (de_if (dt_cmp (op_eqD fx.un) op2_eq (de_v at_ (by kernel_rfl)) de_int rfl) (de_tup (da_cons (de_v at_ (by kernel_rfl)) (da_cons (de_v at_ (by kernel_rfl)) da_nil rfl) rfl)) (de_tup (da_cons (de_v at_ (by kernel_rfl)) (da_cons (de_v at_ (by kernel_rfl)) da_nil rfl) rfl))) (dg_v at_ (by kernel_rfl)) rfl rfl rfl) (dss_cons (ds_ret (de_and (bi_m at_ fx 2 rfl (de_v at_ (by kernel_rfl)) (da_cons (de_v at_ (by kernel_rfl)) (da_cons (de_v at_ (by kernel_rfl)) da_nil rfl) rfl) rfl rfl rfl) (de_and1 (bi_f at_ fx 33 rfl (by kernel_rfl) (da_cons (de_v at_ (by kernel_rfl)) (da_cons (de_op (op_or op_add op_catA) op2_add (de_v at_ (by kernel_rfl)) (de_tup (da_cons (de_v at_ (by kernel_rfl)) da_nil rfl))) (da_cons (de_op op_sub op2_sub (de_v at_ (by kernel_rfl)) de_int) (da_cons (de_v at_ (by kernel_rfl)) da_nil rfl) rfl) rfl) rfl) rfl rfl)))) dss_nil)))))
def N_is_alike_tree : List Str := ["game", "position", "rounds", "value", "side", "told", "point", "answer"]
def d_is_alike_tree (G : Gl) (Φ Ψ Γ : Nat → List D → M D) : FS := (sSeq (sIf (bVal (fOp2 (opEq false) (eVar 2) (eC (.int 0)))) (sSeq (sRet (fOp2 (opEq false) (eVar 3) (fTup aNil))) sNil) sNil) (sSeq (sIf (bOr (bNot (bVal (fIsi ["tuple"] (eVar 3)))) (bVal (fOp2 (opEq true) (fCall cLen (aCons (eVar 3) aNil)) (eC (.int 2))))) (sSeq (sRet (eC (.bl false))) sNil) sNil) (sSeq (sFor (fEnum (aCons (eVar 3) aNil)) (gTupD [(gVar 4), (gVar 5)]) (sSeq (sIf (bOr (bNot (bVal (fIsi ["tuple"] (eVar 5)))) (bVal (fOp2 (opEq true) (fCall cLen (aCons (eVar 5) aNil)) (fCall cLen (aCons (fOp2 opIx (fFld G "sides" (eVar 0)) (eVar 4)) aNil))))) (sSeq (sRet (eC (.bl false))) sNil) sNil) (sSeq (sFor (fEnum (aCons (eVar 5) aNil)) (gTupD [(gVar 6), (gVar 7)]) (sSeq (sIf (bNot (bVal (fCallU 6 (Φ 32) (aCons (eVar 0) (aCons (eVar 1) (aCons (eVar 2) (aCons (eVar 4) (aCons (eVar 6) (aCons (eVar 7) aNil))))))))) (sSeq (sRet (eC (.bl false))) sNil) sNil) sNil)) sNil))) (sSeq (sRet (eC (.bl true))) sNil))))
theorem p_is_alike_tree {G : Gl} {X : Cx} {E : XK} {Φ Ψ Γ : Nat → List D → M D} {k : Nat} (at_ : At X N_is_alike_tree (C8.fnScope (top 28)) (C8.fnScope (top 28))) (fx : Fine G tfs tms tcs tkt Φ Ψ Γ k X) (hp : PassesOwn (model X.prog X.w) X.A X.env X.xe) : DSs G X E (C8.fnBody (top 28)) (d_is_alike_tree G Φ Ψ Γ) := by
  unfold d_is_alike_tree
  exact (dss_cons (ds_if (dt_cmp (op_eqD fx.un) op2_eq (de_v at_ (by kernel_rfl)) de_int rfl) (dss_cons (ds_ret (de_cmp (op_eqD fx.un) op2_eq (de_v at_ (by kernel_rfl)) (de_tup da_nil) rfl)) dss_nil) dss_nil) (dss_cons (ds_if (dw_or (dt_not (dt_val (bi_isi at_ fx "tuple" (by decide) (by kernel_rfl) (by kernel_rfl) (de_v at_ (by kernel_rfl)) rfl) (fun _ => rfl))) (dw_or1 (dt_cmp (op_neD fx.un) op2_ne (bi_len at_ fx (by kernel_rfl) (da_cons (de_v at_ (by kernel_rfl)) da_nil rfl) rfl) de_int rfl))).pt (dss_cons (ds_ret de_bool) dss_nil) dss_nil) (dss_cons (ds_for hp fx.calm (bi_enum at_ fx (by kernel_rfl) (da_cons (de_v at_ (by kernel_rfl)) da_nil rfl) rfl) (dg_tup fx.calm (dgs_cons (ks := [4, 5]) (dg_v at_ (by kernel_rfl)) (dgs_cons (ks := [4, 5]) (dg_v at_ (by kernel_rfl)) (dgs_nil (is := [4, 5])) (by decide) (by decide) rfl) (by decide) (by decide) rfl) rfl rfl) (dss_cons (ds_if (dw_or (dt_not (dt_val (bi_isi at_ fx "tuple" (by decide) (by kernel_rfl) (by kernel_rfl) (de_v at_ (by kernel_rfl)) rfl) (fun _ => rfl))) (dw_or1 (dt_cmp (op_neD fx.un) op2_ne (bi_len at_ fx (by kernel_rfl) (da_cons (de_v at_ (by kernel_rfl)) da_nil rfl) rfl) (bi_len at_ fx (by kernel_rfl) (da_cons (de_ix fx.K (bi_fld at_ fx (de_v at_ (by kernel_rfl)) rfl) (de_v at_ (by kernel_rfl)) (fun _ _ => rfl)) da_nil rfl) rfl) rfl))).pt (dss_cons (ds_ret de_bool) dss_nil) dss_nil) (dss_cons (ds_for hp fx.calm (bi_enum at_ fx (by kernel_rfl) (da_cons (de_v at_ (by kernel_rfl)) da_nil rfl) rfl) (dg_tup fx.calm (dgs_cons (ks := [6, 7]) (dg_v at_ (by kernel_rfl)) (dgs_cons (ks := [6, 7]) (dg_v at_ (by kernel_rfl)) (dgs_nil (is := [6, 7])) (by decide) (by decide) rfl) (by decide) (by decide) rfl) rfl rfl) (dss_cons (ds_if (dt_not (dt_val (bi_f at_ fx 32 rfl (by kernel_rfl) (da_cons (de_v at_ (by kernel_rfl)) (da_cons (de_v at_ (by kernel_rfl)) (da_cons (de_v at_ (by kernel_rfl)) (da_cons (de_v at_ (by kernel_rfl)) (da_cons (de_v at_ (by kernel_rfl)) (da_cons (de_v at_ (by kernel_rfl)) da_nil rfl) rfl) rfl) rfl) rfl) rfl) rfl rfl) (fun _ => rfl))) (dss_cons (ds_ret de_bool) dss_nil) dss_nil) dss_nil) (fun _ => rfl)) dss_nil)) (fun _ => rfl)) (dss_cons (ds_ret de_bool) dss_nil))))
def N_is_game_paper : List Str := ["table", "one", "other", "rounds", "value", "game"]
def d_is_game_paper (G : Gl) (Φ Ψ Γ : Nat → List D → M D) : FS := (sSeq (sAsg (fCallU 4 (Φ 30) (aCons (eVar 0) (aCons (eVar 1) (aCons (eVar 2) (aCons (eVar 3) aNil))))) (gVar 5)) (sSeq (sIf (bOr (bNot (bVal (fIsi ["tuple"] (eVar 4)))) (bOr (bVal (fOp2 (opEq true) (fCall cLen (aCons (eVar 4) aNil)) (eC (.int 2)))) (bNot (bVal (fIsi ["str"] (fOp2 opIx (eVar 4) (eC (.int 0)))))))) (sSeq (sRet (eC (.bl false))) sNil) sNil) (sSeq (sIf (bVal (fOp2 (opEq false) (fOp2 opIx (eVar 4) (eC (.int 0))) (eC (.str "apart")))) (sSeq (sRet (fCallU 4 (Φ 31) (aCons (eVar 5) (aCons (fTup aNil) (aCons (eVar 3) (aCons (fOp2 opIx (eVar 4) (eC (.int 1))) aNil)))))) sNil) sNil) (sSeq (sRet (vAnd (fOp2 (opEq false) (fOp2 opIx (eVar 4) (eC (.int 0))) (eC (.str "alike"))) (fCallU 4 (Φ 33) (aCons (eVar 5) (aCons (fTup aNil) (aCons (eVar 3) (aCons (fOp2 opIx (eVar 4) (eC (.int 1))) aNil))))))) sNil))))
theorem p_is_game_paper {G : Gl} {X : Cx} {E : XK} {Φ Ψ Γ : Nat → List D → M D} {k : Nat} (at_ : At X N_is_game_paper (C8.fnScope (top 29)) (C8.fnScope (top 29))) (fx : Fine G tfs tms tcs tkt Φ Ψ Γ k X) (hp : PassesOwn (model X.prog X.w) X.A X.env X.xe) : DSs G X E (C8.fnBody (top 29)) (d_is_game_paper G Φ Ψ Γ) := by
  unfold d_is_game_paper
  exact (dss_cons (ds_asg (bi_f at_ fx 30 rfl (by kernel_rfl) (da_cons (de_v at_ (by kernel_rfl)) (da_cons (de_v at_ (by kernel_rfl)) (da_cons (de_v at_ (by kernel_rfl)) (da_cons (de_v at_ (by kernel_rfl)) da_nil rfl) rfl) rfl) rfl) rfl rfl) (dg_v at_ (by kernel_rfl)) rfl rfl rfl) (dss_cons (ds_if (dw_or (dt_not (dt_val (bi_isi at_ fx "tuple" (by decide) (by kernel_rfl) (by kernel_rfl) (de_v at_ (by kernel_rfl)) rfl) (fun _ => rfl))) (dw_or (dt_cmp (op_neD fx.un) op2_ne (bi_len at_ fx (by kernel_rfl) (da_cons (de_v at_ (by kernel_rfl)) da_nil rfl) rfl) de_int rfl) (dw_or1 (dt_not (dt_val (bi_isi at_ fx "str" (by decide) (by kernel_rfl) (by kernel_rfl) (de_ix fx.K (de_v at_ (by kernel_rfl)) de_int (fun _ _ => rfl)) rfl) (fun _ => rfl)))))).pt (dss_cons (ds_ret de_bool) dss_nil) dss_nil) (dss_cons (ds_if (dt_cmp (op_eqD fx.un) op2_eq (de_ix fx.K (de_v at_ (by kernel_rfl)) de_int (fun _ _ => rfl)) de_str rfl) (dss_cons (ds_ret (bi_f at_ fx 31 rfl (by kernel_rfl) (da_cons (de_v at_ (by kernel_rfl)) (da_cons (de_tup da_nil) (da_cons (de_v at_ (by kernel_rfl)) (da_cons (de_ix fx.K (de_v at_ (by kernel_rfl)) de_int (fun _ _ => rfl)) da_nil rfl) rfl) rfl) rfl) rfl rfl)) dss_nil) dss_nil) (dss_cons (ds_ret (de_and (de_cmp (op_eqD fx.un) op2_eq (de_ix fx.K (de_v at_ (by kernel_rfl)) de_int (fun _ _ => rfl)) de_str rfl) (de_and1 (bi_f at_ fx 33 rfl (by kernel_rfl) (da_cons (de_v at_ (by kernel_rfl)) (da_cons (de_tup da_nil) (da_cons (de_v at_ (by kernel_rfl)) (da_cons (de_ix fx.K (de_v at_ (by kernel_rfl)) de_int (fun _ _ => rfl)) da_nil rfl) rfl) rfl) rfl) rfl rfl)))) dss_nil))))
def N_l_law_bent : List Str := ["source", "value", "menu", "form", "k", "changed"]
def d_l_law_bent (G : Gl) (Φ Ψ Γ : Nat → List D → M D) : FS := (sSeq (sIf (bAnd (bVal (fIsi ["tuple"] (eVar 1))) (bAnd (bVal (fOp2 (opI fun i j => decide (j < i)) (fCall cLen (aCons (eVar 1) aNil)) (eC (.int 0)))) (bVal (fOp2 (opI fun i j => decide (j < i)) (fCallU 2 (Φ 1) (aCons (eVar 0) (aCons (eC (.int 5)) aNil))) (eC (.int 0)))))) (sSeq (sAsg (fCallU 2 (Φ 1) (aCons (eVar 0) (aCons (fCall cLen (aCons (eVar 1) aNil)) aNil))) (gVar 4)) (sSeq (sRet (fOp2 opAdd (fOp2 opAdd (fSlT (eVar 1) oNone (oSome (eVar 4))) (fTup (aCons (fCallU 3 (Φ 35) (aCons (eVar 0) (aCons (fOp2 opIx (eVar 1) (eVar 4)) (aCons (eVar 2) aNil)))) aNil))) (fSlT (eVar 1) (oSome (fOp2 opAdd (eVar 4) (eC (.int 1)))) oNone))) sNil)) sNil) (sSeq (sAsg (fCallU 2 (Φ 1) (aCons (eVar 0) (aCons (eC (.int 8)) aNil))) (gVar 3)) (sSeq (sIf (bAnd (bVal (fIsi ["tuple"] (eVar 1))) (bVal (fOp2 opLt (eVar 3) (eC (.int 6))))) (sSeq (sAsg (fTup (aCons (fNew (fCall cList (aCons (eVar 1) aNil))) (aCons (fOp2 opAdd (eVar 1) (fTup (aCons (fTup aNil) aNil))) (aCons (fSlT (eVar 1) oNone (oSome (vNeg (eC (.int 1))))) (aCons (fOp2 opAdd (eVar 1) (fSlT (eVar 1) (oSome (vNeg (eC (.int 1)))) oNone)) (aCons (fSlT (eVar 1) (oSome (eC (.int 1))) oNone) (aCons (fTup (aCons (eVar 1) aNil)) aNil))))))) (gVar 5)) (sSeq (sRet (fOp2 opIx (eVar 5) (eVar 3))) sNil)) sNil) (sSeq (sIf (bAnd (bVal (fIsi ["int"] (eVar 1))) (bAnd (bNot (bVal (fIsi ["bool"] (eVar 1)))) (bVal (fOp2 opLt (eVar 3) (eC (.int 5)))))) (sSeq (sIf (bAnd (bVal (fOp2 (opEq false) (eVar 3) (eC (.int 0)))) (bVal (fOp2 opLt (eVar 1) (eC (.int 2))))) (sSeq (sRet (fOp2 (opEq false) (eVar 1) (eC (.int 1)))) sNil) sNil) (sSeq (sRet (fOp2 opIx (fTup (aCons (fOp2 opAdd (eVar 1) (eC (.int 1))) (aCons (fOp2 opSub (eVar 1) (eC (.int 1))) (aCons (fOp2 opAdd (eVar 1) (eC (.int 1))) (aCons (eC (.int 0)) (aCons (eC (.int 1)) aNil)))))) (eVar 3))) sNil)) sNil) (sSeq (sRet (fOp2 opIx (eVar 2) (fCallU 2 (Φ 1) (aCons (eVar 0) (aCons (fCall cLen (aCons (eVar 2) aNil)) aNil))))) sNil)))))
theorem p_l_law_bent {G : Gl} {X : Cx} {E : XK} {Φ Ψ Γ : Nat → List D → M D} {k : Nat} (at_ : At X N_l_law_bent (C8.fnScope (top 54)) (C8.fnScope (top 54))) (fx : Fine G tfs tms tcs tkt Φ Ψ Γ k X) (hp : PassesOwn (model X.prog X.w) X.A X.env X.xe) : DSs G X E (C8.fnBody (top 54)) (d_l_law_bent G Φ Ψ Γ) := by
  unfold d_l_law_bent
  exact (dss_cons (ds_if (dw_and (dt_val (bi_isi at_ fx "tuple" (by decide) (by kernel_rfl) (by kernel_rfl) (de_v at_ (by kernel_rfl)) rfl) (fun _ => rfl)) (dw_and (dt_cmp op_gt op2_i (bi_len at_ fx (by kernel_rfl) (da_cons (de_v at_ (by kernel_rfl)) da_nil rfl) rfl) de_int rfl) (dw_and1 (dt_cmp op_gt op2_i (bi_f at_ fx 1 rfl (by kernel_rfl) (da_cons (de_v at_ (by kernel_rfl)) (da_cons de_int da_nil rfl) rfl) rfl rfl) de_int rfl)))).pt (dss_cons (ds_asg (bi_f at_ fx 1 rfl (by kernel_rfl) (da_cons (de_v at_ (by kernel_rfl)) (da_cons (bi_len at_ fx (by kernel_rfl) (da_cons (de_v at_ (by kernel_rfl)) da_nil rfl) rfl) da_nil rfl) rfl) rfl rfl) (dg_v at_ (by kernel_rfl)) rfl rfl rfl) (dss_cons (ds_ret (de_op (op_or op_add op_catA) op2_add (de_op (op_or op_add op_catA) op2_add (de_slT (de_v at_ (by kernel_rfl)) do_none (do_some (de_v at_ (by kernel_rfl)))) (de_tup (da_cons (bi_f at_ fx 35 rfl (by kernel_rfl) (da_cons (de_v at_ (by kernel_rfl)) (da_cons (de_ix fx.K (de_v at_ (by kernel_rfl)) (de_v at_ (by kernel_rfl)) (fun _ _ => rfl)) (da_cons (de_v at_ (by kernel_rfl)) da_nil rfl) rfl) rfl) rfl rfl) da_nil rfl))) (de_slT (de_v at_ (by kernel_rfl)) (do_some (de_op (op_or op_add op_catA) op2_add (de_v at_ (by kernel_rfl)) de_int)) do_none))) dss_nil)) dss_nil) (dss_cons (ds_asg (bi_f at_ fx 1 rfl (by kernel_rfl) (da_cons (de_v at_ (by kernel_rfl)) (da_cons de_int da_nil rfl) rfl) rfl rfl) (dg_v at_ (by kernel_rfl)) rfl rfl rfl) (dss_cons (ds_if (dw_and (dt_val (bi_isi at_ fx "tuple" (by decide) (by kernel_rfl) (by kernel_rfl) (de_v at_ (by kernel_rfl)) rfl) (fun _ => rfl)) (dw_and1 (dt_cmp (op_or op_lt (op_ltT fx.un0)) op2_lt (de_v at_ (by kernel_rfl)) de_int rfl))).pt (dss_cons (ds_asg (de_tup (da_cons (de_new (bi_list at_ fx (by kernel_rfl) (da_cons (de_v at_ (by kernel_rfl)) da_nil rfl) rfl)) (da_cons (de_op (op_or op_add op_catA) op2_add (de_v at_ (by kernel_rfl)) (de_tup (da_cons (de_tup da_nil) da_nil rfl))) (da_cons (de_slT (de_v at_ (by kernel_rfl)) do_none (do_some (de_neg de_int))) (da_cons (de_op (op_or op_add op_catA) op2_add (de_v at_ (by kernel_rfl)) (de_slT (de_v at_ (by kernel_rfl)) (do_some (de_neg de_int)) do_none)) (da_cons (de_slT (de_v at_ (by kernel_rfl)) (do_some de_int) do_none) (da_cons (de_tup (da_cons (de_v at_ (by kernel_rfl)) da_nil rfl)) da_nil rfl) rfl) rfl) rfl) rfl) rfl)) (dg_v at_ (by kernel_rfl)) rfl rfl rfl) (dss_cons (ds_ret (de_ix fx.K (de_v at_ (by kernel_rfl)) (de_v at_ (by kernel_rfl)) (fun _ _ => rfl))) dss_nil)) dss_nil) (dss_cons (ds_if (dw_and (dt_val (bi_isi at_ fx "int" (by decide) (by kernel_rfl) (by kernel_rfl) (de_v at_ (by kernel_rfl)) rfl) (fun _ => rfl)) (dw_and (dt_not (dt_val (bi_isi at_ fx "bool" (by decide) (by kernel_rfl) (by kernel_rfl) (de_v at_ (by kernel_rfl)) rfl) (fun _ => rfl))) (dw_and1 (dt_cmp (op_or op_lt (op_ltT fx.un0)) op2_lt (de_v at_ (by kernel_rfl)) de_int rfl)))).pt (dss_cons (ds_if (dw_and (dt_cmp (op_eqD fx.un) op2_eq (de_v at_ (by kernel_rfl)) de_int rfl) (dw_and1 (dt_cmp (op_or op_lt (op_ltT fx.un0)) op2_lt (de_v at_ (by kernel_rfl)) de_int rfl))).pt (dss_cons (ds_ret (de_cmp (op_eqD fx.un) op2_eq (de_v at_ (by kernel_rfl)) de_int rfl)) dss_nil) dss_nil) (dss_cons (ds_ret (de_ix fx.K (de_tup (da_cons (de_op (op_or op_add op_catA) op2_add (de_v at_ (by kernel_rfl)) de_int) (da_cons (de_op op_sub op2_sub (de_v at_ (by kernel_rfl)) de_int) (da_cons (de_op (op_or op_add op_catA) op2_add (de_v at_ (by kernel_rfl)) de_int) (da_cons de_int (da_cons de_int da_nil rfl) rfl) rfl) rfl) rfl)) (de_v at_ (by kernel_rfl)) (fun _ _ => rfl))) dss_nil)) dss_nil) (dss_cons (ds_ret (de_ix fx.K (de_v at_ (by kernel_rfl)) (bi_f at_ fx 1 rfl (by kernel_rfl) (da_cons (de_v at_ (by kernel_rfl)) (da_cons (bi_len at_ fx (by kernel_rfl) (da_cons (de_v at_ (by kernel_rfl)) da_nil rfl) rfl) da_nil rfl) rfl) rfl rfl) (fun _ _ => rfl))) dss_nil)))))
def N_l_law_odd_paper : List Str := ["source", "rounds", "menu"]
def d_l_law_odd_paper (G : Gl) (Φ Ψ Γ : Nat → List D → M D) : FS := (sSeq (sAsg (fNew (fLst (aCons (eC .non) (aCons (eC (.int 0)) (aCons (eC (.str "apart")) (aCons (eC (.str "alike")) (aCons (fTup aNil) (aCons (fTup (aCons (eC (.str "apart")) aNil)) (aCons (fTup (aCons (eC (.str "alike")) aNil)) (aCons (fTup (aCons (eC (.str "apart")) (aCons (fTup aNil) aNil))) (aCons (fTup (aCons (eC (.str "alike")) (aCons (fTup aNil) aNil))) (aCons (fNew (fLst (aCons (eC (.str "alike")) (aCons (fTup aNil) aNil)))) aNil)))))))))))) (gVar 2)) (sSeq (sDrop (fExt (eVar 2) (fLst (aCons (fTup (aCons (eC (.str "apart")) (aCons (fTup aNil) (aCons (fTup aNil) aNil)))) (aCons (fTup (aCons (eC (.str "alike")) (aCons (fTup (aCons (fTup aNil) (aCons (fTup aNil) aNil))) aNil))) (aCons (fTup (aCons (eC (.str "alike")) (aCons (fNew (fLst (aCons (fTup aNil) (aCons (fTup aNil) aNil)))) aNil))) (aCons (fTup (aCons (eC (.str "apart")) (aCons (fTup (aCons (eC (.int 0)) (aCons (eC (.int 0)) (aCons (fTup aNil) aNil)))) aNil))) (aCons (fTup (aCons (eC (.str "apart")) (aCons (fTup (aCons (eC (.int 1)) (aCons (eC (.int 0)) (aCons (fTup aNil) aNil)))) aNil))) aNil)))))))) (sSeq (sDrop (fExt (eVar 2) (fLst (aCons (fTup (aCons (eC (.str "apart")) (aCons (fNew (fLst (aCons (eC (.int 0)) (aCons (eC (.int 0)) (aCons (fTup aNil) aNil))))) aNil))) (aCons (fTup (aCons (eC (.str "Alike")) (aCons (fTup aNil) aNil))) (aCons (fTup (aCons (eC (.bl true)) (aCons (fTup aNil) aNil))) (aCons (fTup (aCons (eC (.str "alike")) (aCons (eC .non) aNil))) (aCons (fTup (aCons (eC (.str "alike")) (aCons (fTup (aCons (fTup (aCons (fTup (aCons (eC (.int 0)) (aCons (fTup aNil) aNil))) aNil)) (aCons (fTup (aCons (fTup (aCons (eC (.int 0)) (aCons (fTup aNil) aNil))) aNil)) aNil))) aNil))) aNil)))))))) (sSeq (sDrop (fApp (eVar 2) (aCons (fTup (aCons (eC (.str "apart")) (aCons (fTup (aCons (eVar 1) (aCons (eC (.int 0)) (aCons (fTup (aCons (fTup aNil) aNil)) aNil)))) aNil))) aNil))) (sSeq (sRet (fOp2 opIx (eVar 2) (fCallU 2 (Φ 1) (aCons (eVar 0) (aCons (fCall cLen (aCons (eVar 2) aNil)) aNil))))) sNil)))))
theorem p_l_law_odd_paper {G : Gl} {X : Cx} {E : XK} {Φ Ψ Γ : Nat → List D → M D} {k : Nat} (at_ : At X N_l_law_odd_paper (C8.fnScope (top 55)) (C8.fnScope (top 55))) (fx : Fine G tfs tms tcs tkt Φ Ψ Γ k X) (hp : PassesOwn (model X.prog X.w) X.A X.env X.xe) : DSs G X E (C8.fnBody (top 55)) (d_l_law_odd_paper G Φ Ψ Γ) := by
  unfold d_l_law_odd_paper
  exact (dss_cons (ds_asg (de_new (dl_lst (da_cons de_non (da_cons de_int (da_cons de_str (da_cons de_str (da_cons (de_tup da_nil) (da_cons (de_tup (da_cons de_str da_nil rfl)) (da_cons (de_tup (da_cons de_str da_nil rfl)) (da_cons (de_tup (da_cons de_str (da_cons (de_tup da_nil) da_nil rfl) rfl)) (da_cons (de_tup (da_cons de_str (da_cons (de_tup da_nil) da_nil rfl) rfl)) (da_cons (de_new (dl_lst (da_cons de_str (da_cons (de_tup da_nil) da_nil rfl) rfl))) da_nil rfl) rfl) rfl) rfl) rfl) rfl) rfl) rfl) rfl) rfl))) (dg_v at_ (by kernel_rfl)) rfl rfl rfl) (dss_cons (ds_drop (de_ext (de_v at_ (by kernel_rfl)) (dl_lst (da_cons (de_tup (da_cons de_str (da_cons (de_tup da_nil) (da_cons (de_tup da_nil) da_nil rfl) rfl) rfl)) (da_cons (de_tup (da_cons de_str (da_cons (de_tup (da_cons (de_tup da_nil) (da_cons (de_tup da_nil) da_nil rfl) rfl)) da_nil rfl) rfl)) (da_cons (de_tup (da_cons de_str (da_cons (de_new (dl_lst (da_cons (de_tup da_nil) (da_cons (de_tup da_nil) da_nil rfl) rfl))) da_nil rfl) rfl)) (da_cons (de_tup (da_cons de_str (da_cons (de_tup (da_cons de_int (da_cons de_int (da_cons (de_tup da_nil) da_nil rfl) rfl) rfl)) da_nil rfl) rfl)) (da_cons (de_tup (da_cons de_str (da_cons (de_tup (da_cons de_int (da_cons de_int (da_cons (de_tup da_nil) da_nil rfl) rfl) rfl)) da_nil rfl) rfl)) da_nil rfl) rfl) rfl) rfl) rfl)) rfl rfl rfl rfl) rfl) (dss_cons (ds_drop (de_ext (de_v at_ (by kernel_rfl)) (dl_lst (da_cons (de_tup (da_cons de_str (da_cons (de_new (dl_lst (da_cons de_int (da_cons de_int (da_cons (de_tup da_nil) da_nil rfl) rfl) rfl))) da_nil rfl) rfl)) (da_cons (de_tup (da_cons de_str (da_cons (de_tup da_nil) da_nil rfl) rfl)) (da_cons (de_tup (da_cons de_bool (da_cons (de_tup da_nil) da_nil rfl) rfl)) (da_cons (de_tup (da_cons de_str (da_cons de_non da_nil rfl) rfl)) (da_cons (de_tup (da_cons de_str (da_cons (de_tup (da_cons (de_tup (da_cons (de_tup (da_cons de_int (da_cons (de_tup da_nil) da_nil rfl) rfl)) da_nil rfl)) (da_cons (de_tup (da_cons (de_tup (da_cons de_int (da_cons (de_tup da_nil) da_nil rfl) rfl)) da_nil rfl)) da_nil rfl) rfl)) da_nil rfl) rfl)) da_nil rfl) rfl) rfl) rfl) rfl)) rfl rfl rfl rfl) rfl) (dss_cons (ds_drop (de_app (de_v at_ (by kernel_rfl)) (da_cons (de_tup (da_cons de_str (da_cons (de_tup (da_cons (de_v at_ (by kernel_rfl)) (da_cons de_int (da_cons (de_tup (da_cons (de_tup da_nil) da_nil rfl)) da_nil rfl) rfl) rfl)) da_nil rfl) rfl)) da_nil rfl) rfl rfl rfl rfl) rfl) (dss_cons (ds_ret (de_ix fx.K (de_v at_ (by kernel_rfl)) (bi_f at_ fx 1 rfl (by kernel_rfl) (da_cons (de_v at_ (by kernel_rfl)) (da_cons (bi_len at_ fx (by kernel_rfl) (da_cons (de_v at_ (by kernel_rfl)) da_nil rfl) rfl) da_nil rfl) rfl) rfl rfl) (fun _ _ => rfl))) dss_nil)))))
def N_l_law_number : List Str := ["value", "below"]
def d_l_law_number (G : Gl) (Φ Ψ Γ : Nat → List D → M D) : FS := (sSeq (sRet (vAnd (fIsi ["int"] (eVar 0)) (vAnd (vNot (fIsi ["bool"] (eVar 0))) (vAnd (fOp2 (opI fun i j => decide (j ≤ i)) (eVar 0) (eC (.int 0))) (fOp2 opLt (eVar 0) (eVar 1)))))) sNil)
theorem p_l_law_number {G : Gl} {X : Cx} {E : XK} {Φ Ψ Γ : Nat → List D → M D} {k : Nat} (at_ : At X N_l_law_number (C8.fnScope (top 38)) (C8.fnScope (top 38))) (fx : Fine G tfs tms tcs tkt Φ Ψ Γ k X) (hp : PassesOwn (model X.prog X.w) X.A X.env X.xe) : DSs G X E (C8.fnBody (top 38)) (d_l_law_number G Φ Ψ Γ) := by
  unfold d_l_law_number
  exact (dss_cons (ds_ret (de_and (bi_isi at_ fx "int" (by decide) (by kernel_rfl) (by kernel_rfl) (de_v at_ (by kernel_rfl)) rfl) (de_and (de_not (bi_isi at_ fx "bool" (by decide) (by kernel_rfl) (by kernel_rfl) (de_v at_ (by kernel_rfl)) rfl)) (de_and (de_cmp op_ge op2_i (de_v at_ (by kernel_rfl)) de_int rfl) (de_and1 (de_cmp (op_or op_lt (op_ltT fx.un0)) op2_lt (de_v at_ (by kernel_rfl)) (de_v at_ (by kernel_rfl)) rfl)))))) dss_nil)
def N_l_law_is_apart : List Str := ["turn", "one", "other", "ones", "others", "rounds", "value", "p", "q"]
def d_l_law_is_apart (G : Gl) (Φ Ψ Γ : Nat → List D → M D) : FS := (sSeq (sIf (bNot (bVal (fIsi ["tuple"] (eVar 6)))) (sSeq (sRet (eC (.bl false))) sNil) sNil) (sSeq (sIf (bNot (bVal (fCallU 5 (Φ 25) (aCons (eVar 0) (aCons (eVar 1) (aCons (eVar 2) (aCons (eVar 3) (aCons (eVar 4) aNil)))))))) (sSeq (sRet (fOp2 (opEq false) (fCall cLen (aCons (eVar 6) aNil)) (eC (.int 0)))) sNil) sNil) (sSeq (sIf (bOr (bVal (fOp2 (opEq false) (eVar 5) (eC (.int 0)))) (bOr (bVal (fOp2 (opEq true) (fCall cLen (aCons (eVar 6) aNil)) (eC (.int 3)))) (bOr (bNot (bVal (fIsi ["tuple"] (fOp2 opIx (eVar 6) (eC (.int 2)))))) (bNot (bVal (fCallU 2 (Φ 37) (aCons (fOp2 opIx (eVar 6) (eC (.int 0))) (aCons (eC (.int 2)) aNil)))))))) (sSeq (sRet (eC (.bl false))) sNil) sNil) (sSeq (sIf (bVal (fOp2 (opEq false) (fOp2 opIx (eVar 6) (eC (.int 0))) (eC (.int 0)))) (sSeq (sIf (bOr (bNot (bVal (fCallU 2 (Φ 37) (aCons (fOp2 opIx (eVar 6) (eC (.int 1))) (aCons (fCall cLen (aCons (eVar 1) aNil)) aNil))))) (bVal (fOp2 (opEq true) (fCall cLen (aCons (fOp2 opIx (eVar 6) (eC (.int 2))) aNil)) (fCall cLen (aCons (eVar 2) aNil))))) (sSeq (sRet (eC (.bl false))) sNil) sNil) (sSeq (sFor (fVal (fCall cRange1 (aCons (fCall cLen (aCons (eVar 2) aNil)) aNil))) (gVar 8) (sSeq (sIf (bNot (bVal (fCallU 7 (Φ 38) (aCons (eVar 0) (aCons (eVar 1) (aCons (eVar 2) (aCons (fOp2 opAdd (eVar 3) (fTup (aCons (fOp2 opIx (eVar 6) (eC (.int 1))) aNil))) (aCons (fOp2 opAdd (eVar 4) (fTup (aCons (eVar 8) aNil))) (aCons (fOp2 opSub (eVar 5) (eC (.int 1))) (aCons (fOp2 opIx (fOp2 opIx (eVar 6) (eC (.int 2))) (eVar 8)) aNil)))))))))) (sSeq (sRet (eC (.bl false))) sNil) sNil) sNil)) (sSeq (sRet (eC (.bl true))) sNil))) sNil) (sSeq (sIf (bOr (bNot (bVal (fCallU 2 (Φ 37) (aCons (fOp2 opIx (eVar 6) (eC (.int 1))) (aCons (fCall cLen (aCons (eVar 2) aNil)) aNil))))) (bVal (fOp2 (opEq true) (fCall cLen (aCons (fOp2 opIx (eVar 6) (eC (.int 2))) aNil)) (fCall cLen (aCons (eVar 1) aNil))))) (sSeq (sRet (eC (.bl false))) sNil) sNil) (sSeq (sFor (fVal (fCall cRange1 (aCons (fCall cLen (aCons (eVar 1) aNil)) aNil))) (gVar 7) (sSeq (sIf (bNot (bVal (fCallU 7 (Φ 38) (aCons (eVar 0) (aCons (eVar 1) (aCons (eVar 2) (aCons (fOp2 opAdd (eVar 3) (fTup (aCons (eVar 7) aNil))) (aCons (fOp2 opAdd (eVar 4) (fTup (aCons (fOp2 opIx (eVar 6) (eC (.int 1))) aNil))) (aCons (fOp2 opSub (eVar 5) (eC (.int 1))) (aCons (fOp2 opIx (fOp2 opIx (eVar 6) (eC (.int 2))) (eVar 7)) aNil)))))))))) (sSeq (sRet (eC (.bl false))) sNil) sNil) sNil)) (sSeq (sRet (eC (.bl true))) sNil)))))))
theorem p_l_law_is_apart {G : Gl} {X : Cx} {E : XK} {Φ Ψ Γ : Nat → List D → M D} {k : Nat} (at_ : At X N_l_law_is_apart (C8.fnScope (top 47)) (C8.fnScope (top 47))) (fx : Fine G tfs tms tcs tkt Φ Ψ Γ k X) (hp : PassesOwn (model X.prog X.w) X.A X.env X.xe) : DSs G X E (C8.fnBody (top 47)) (d_l_law_is_apart G Φ Ψ Γ) := by
  unfold d_l_law_is_apart
  exact (dss_cons (ds_if (dt_not (dt_val (bi_isi at_ fx "tuple" (by decide) (by kernel_rfl) (by kernel_rfl) (de_v at_ (by kernel_rfl)) rfl) (fun _ => rfl))) (dss_cons (ds_ret de_bool) dss_nil) dss_nil) (dss_cons (ds_if (dt_not (dt_val (bi_f at_ fx 25 rfl (by kernel_rfl) (da_cons (de_v at_ (by kernel_rfl)) (da_cons (de_v at_ (by kernel_rfl)) (da_cons (de_v at_ (by kernel_rfl)) (da_cons (de_v at_ (by kernel_rfl)) (da_cons (de_v at_ (by kernel_rfl)) da_nil rfl) rfl) rfl) rfl) rfl) rfl rfl) (fun _ => rfl))) (dss_cons (ds_ret (de_cmp (op_eqD fx.un) op2_eq (bi_len at_ fx (by kernel_rfl) (da_cons (de_v at_ (by kernel_rfl)) da_nil rfl) rfl) de_int rfl)) dss_nil) dss_nil) (dss_cons (ds_if (dw_or (dt_cmp (op_eqD fx.un) op2_eq (de_v at_ (by kernel_rfl)) de_int rfl) (dw_or (dt_cmp (op_neD fx.un) op2_ne (bi_len at_ fx (by kernel_rfl) (da_cons (de_v at_ (by kernel_rfl)) da_nil rfl) rfl) de_int rfl) (dw_or (dt_not (dt_val (bi_isi at_ fx "tuple" (by decide) (by kernel_rfl) (by kernel_rfl) (de_ix fx.K (de_v at_ (by kernel_rfl)) de_int (fun _ _ => rfl)) rfl) (fun _ => rfl))) (dw_or1 (dt_not (dt_val (bi_f at_ fx 37 rfl (by kernel_rfl) (da_cons (de_ix fx.K (de_v at_ (by kernel_rfl)) de_int (fun _ _ => rfl)) (da_cons de_int da_nil rfl) rfl) rfl rfl) (fun _ => rfl))))))).pt (dss_cons (ds_ret de_bool) dss_nil) dss_nil) (dss_cons (ds_if (dt_cmp (op_eqD fx.un) op2_eq (de_ix fx.K (de_v at_ (by kernel_rfl)) de_int (fun _ _ => rfl)) de_int rfl) (dss_cons (ds_if (dw_or (dt_not (dt_val (bi_f at_ fx 37 rfl (by kernel_rfl) (da_cons (de_ix fx.K (de_v at_ (by kernel_rfl)) de_int (fun _ _ => rfl)) (da_cons (bi_len at_ fx (by kernel_rfl) (da_cons (de_v at_ (by kernel_rfl)) da_nil rfl) rfl) da_nil rfl) rfl) rfl rfl) (fun _ => rfl))) (dw_or1 (dt_cmp (op_neD fx.un) op2_ne (bi_len at_ fx (by kernel_rfl) (da_cons (de_ix fx.K (de_v at_ (by kernel_rfl)) de_int (fun _ _ => rfl)) da_nil rfl) rfl) (bi_len at_ fx (by kernel_rfl) (da_cons (de_v at_ (by kernel_rfl)) da_nil rfl) rfl) rfl))).pt (dss_cons (ds_ret de_bool) dss_nil) dss_nil) (dss_cons (ds_for hp fx.calm (di_val fx.K (bi_range1 at_ fx (by kernel_rfl) (da_cons (bi_len at_ fx (by kernel_rfl) (da_cons (de_v at_ (by kernel_rfl)) da_nil rfl) rfl) da_nil rfl) rfl)) (dg_v at_ (by kernel_rfl)) (dss_cons (ds_if (dt_not (dt_val (bi_f at_ fx 38 rfl (by kernel_rfl) (da_cons (de_v at_ (by kernel_rfl)) (da_cons (de_v at_ (by kernel_rfl)) (da_cons (de_v at_ (by kernel_rfl)) (da_cons (de_op (op_or op_add op_catA) op2_add (de_v at_ (by kernel_rfl)) (de_tup (da_cons (de_ix fx.K (de_v at_ (by kernel_rfl)) de_int (fun _ _ => rfl)) da_nil rfl))) (da_cons (de_op (op_or op_add op_catA) op2_add (de_v at_ (by kernel_rfl)) (de_tup (da_cons (de_v at_ (by kernel_rfl)) da_nil rfl))) (da_cons (de_op op_sub op2_sub (de_v at_ (by kernel_rfl)) de_int) (da_cons (de_ix fx.K (de_ix fx.K (de_v at_ (by kernel_rfl)) de_int (fun _ _ => rfl)) (de_v at_ (by kernel_rfl)) (fun _ _ => rfl)) da_nil rfl) rfl) rfl) rfl) rfl) rfl) rfl) rfl rfl) (fun _ => rfl))) (dss_cons (ds_ret de_bool) dss_nil) dss_nil) dss_nil) (fun _ => rfl)) (dss_cons (ds_ret de_bool) dss_nil))) dss_nil) (dss_cons (ds_if (dw_or (dt_not (dt_val (bi_f at_ fx 37 rfl (by kernel_rfl) (da_cons (de_ix fx.K (de_v at_ (by kernel_rfl)) de_int (fun _ _ => rfl)) (da_cons (bi_len at_ fx (by kernel_rfl) (da_cons (de_v at_ (by kernel_rfl)) da_nil rfl) rfl) da_nil rfl) rfl) rfl rfl) (fun _ => rfl))) (dw_or1 (dt_cmp (op_neD fx.un) op2_ne (bi_len at_ fx (by kernel_rfl) (da_cons (de_ix fx.K (de_v at_ (by kernel_rfl)) de_int (fun _ _ => rfl)) da_nil rfl) rfl) (bi_len at_ fx (by kernel_rfl) (da_cons (de_v at_ (by kernel_rfl)) da_nil rfl) rfl) rfl))).pt (dss_cons (ds_ret de_bool) dss_nil) dss_nil) (dss_cons (ds_for hp fx.calm (di_val fx.K (bi_range1 at_ fx (by kernel_rfl) (da_cons (bi_len at_ fx (by kernel_rfl) (da_cons (de_v at_ (by kernel_rfl)) da_nil rfl) rfl) da_nil rfl) rfl)) (dg_v at_ (by kernel_rfl)) (dss_cons (ds_if (dt_not (dt_val (bi_f at_ fx 38 rfl (by kernel_rfl) (da_cons (de_v at_ (by kernel_rfl)) (da_cons (de_v at_ (by kernel_rfl)) (da_cons (de_v at_ (by kernel_rfl)) (da_cons (de_op (op_or op_add op_catA) op2_add (de_v at_ (by kernel_rfl)) (de_tup (da_cons (de_v at_ (by kernel_rfl)) da_nil rfl))) (da_cons (de_op (op_or op_add op_catA) op2_add (de_v at_ (by kernel_rfl)) (de_tup (da_cons (de_ix fx.K (de_v at_ (by kernel_rfl)) de_int (fun _ _ => rfl)) da_nil rfl))) (da_cons (de_op op_sub op2_sub (de_v at_ (by kernel_rfl)) de_int) (da_cons (de_ix fx.K (de_ix fx.K (de_v at_ (by kernel_rfl)) de_int (fun _ _ => rfl)) (de_v at_ (by kernel_rfl)) (fun _ _ => rfl)) da_nil rfl) rfl) rfl) rfl) rfl) rfl) rfl) rfl rfl) (fun _ => rfl))) (dss_cons (ds_ret de_bool) dss_nil) dss_nil) dss_nil) (fun _ => rfl)) (dss_cons (ds_ret de_bool) dss_nil)))))))
def N_l_law_is_alike : List Str := ["turn", "one", "other", "ones", "others", "rounds", "value", "many", "side", "p", "pair", "chosen"]
def d_l_law_is_alike (G : Gl) (Φ Ψ Γ : Nat → List D → M D) : FS := (sSeq (sIf (bOr (bNot (bVal (fIsi ["tuple"] (eVar 6)))) (bNot (bVal (fCallU 5 (Φ 25) (aCons (eVar 0) (aCons (eVar 1) (aCons (eVar 2) (aCons (eVar 3) (aCons (eVar 4) aNil))))))))) (sSeq (sRet (eC (.bl false))) sNil) sNil) (sSeq (sIf (bVal (fOp2 (opEq false) (eVar 5) (eC (.int 0)))) (sSeq (sRet (fOp2 (opEq false) (fCall cLen (aCons (eVar 6) aNil)) (eC (.int 0)))) sNil) sNil) (sSeq (sIf (bVal (fOp2 (opEq true) (fCall cLen (aCons (eVar 6) aNil)) (eC (.int 2)))) (sSeq (sRet (eC (.bl false))) sNil) sNil) (sSeq (sAsg (fTup (aCons (fCall cLen (aCons (eVar 1) aNil)) (aCons (fCall cLen (aCons (eVar 2) aNil)) aNil))) (gVar 7)) (sSeq (sFor (fVal (fCall cRange1 (aCons (eC (.int 2)) aNil))) (gVar 8) (sSeq (sIf (bOr (bNot (bVal (fIsi ["tuple"] (fOp2 opIx (eVar 6) (eVar 8))))) (bVal (fOp2 (opEq true) (fCall cLen (aCons (fOp2 opIx (eVar 6) (eVar 8)) aNil)) (fOp2 opIx (eVar 7) (eVar 8))))) (sSeq (sRet (eC (.bl false))) sNil) sNil) (sSeq (sFor (fVal (fCall cRange1 (aCons (fOp2 opIx (eVar 7) (eVar 8)) aNil))) (gVar 9) (sSeq (sAsg (fOp2 opIx (fOp2 opIx (eVar 6) (eVar 8)) (eVar 9)) (gVar 10)) (sSeq (sIf (bOr (bNot (bVal (fIsi ["tuple"] (eVar 10)))) (bOr (bVal (fOp2 (opEq true) (fCall cLen (aCons (eVar 10) aNil)) (eC (.int 2)))) (bNot (bVal (fCallU 2 (Φ 37) (aCons (fOp2 opIx (eVar 10) (eC (.int 0))) (aCons (fOp2 opIx (eVar 7) (fOp2 opSub (eC (.int 1)) (eVar 8))) aNil))))))) (sSeq (sRet (eC (.bl false))) sNil) sNil) (sSeq (sAsg (fTup (aCons (eVar 9) (aCons (fOp2 opIx (eVar 10) (eC (.int 0))) aNil))) (gVar 11)) (sSeq (sIf (bNot (bVal (fCallU 7 (Φ 39) (aCons (eVar 0) (aCons (eVar 1) (aCons (eVar 2) (aCons (fOp2 opAdd (eVar 3) (fTup (aCons (fOp2 opIx (eVar 11) (eVar 8)) aNil))) (aCons (fOp2 opAdd (eVar 4) (fTup (aCons (fOp2 opIx (eVar 11) (fOp2 opSub (eC (.int 1)) (eVar 8))) aNil))) (aCons (fOp2 opSub (eVar 5) (eC (.int 1))) (aCons (fOp2 opIx (eVar 10) (eC (.int 1))) aNil)))))))))) (sSeq (sRet (eC (.bl false))) sNil) sNil) sNil))))) sNil))) (sSeq (sRet (eC (.bl true))) sNil))))))
theorem p_l_law_is_alike {G : Gl} {X : Cx} {E : XK} {Φ Ψ Γ : Nat → List D → M D} {k : Nat} (at_ : At X N_l_law_is_alike (C8.fnScope (top 48)) (C8.fnScope (top 48))) (fx : Fine G tfs tms tcs tkt Φ Ψ Γ k X) (hp : PassesOwn (model X.prog X.w) X.A X.env X.xe) : DSs G X E (C8.fnBody (top 48)) (d_l_law_is_alike G Φ Ψ Γ) := by
  unfold d_l_law_is_alike
  exact (dss_cons (ds_if (dw_or (dt_not (dt_val (bi_isi at_ fx "tuple" (by decide) (by kernel_rfl) (by kernel_rfl) (de_v at_ (by kernel_rfl)) rfl) (fun _ => rfl))) (dw_or1 (dt_not (dt_val (bi_f at_ fx 25 rfl (by kernel_rfl) (da_cons (de_v at_ (by kernel_rfl)) (da_cons (de_v at_ (by kernel_rfl)) (da_cons (de_v at_ (by kernel_rfl)) (da_cons (de_v at_ (by kernel_rfl)) (da_cons (de_v at_ (by kernel_rfl)) da_nil rfl) rfl) rfl) rfl) rfl) rfl rfl) (fun _ => rfl))))).pt (dss_cons (ds_ret de_bool) dss_nil) dss_nil) (dss_cons (ds_if (dt_cmp (op_eqD fx.un) op2_eq (de_v at_ (by kernel_rfl)) de_int rfl) (dss_cons (ds_ret (de_cmp (op_eqD fx.un) op2_eq (bi_len at_ fx (by kernel_rfl) (da_cons (de_v at_ (by kernel_rfl)) da_nil rfl) rfl) de_int rfl)) dss_nil) dss_nil) (dss_cons (ds_if (dt_cmp (op_neD fx.un) op2_ne (bi_len at_ fx (by kernel_rfl) (da_cons (de_v at_ (by kernel_rfl)) da_nil rfl) rfl) de_int rfl) (dss_cons (ds_ret de_bool) dss_nil) dss_nil) (dss_cons (ds_asg (de_tup (da_cons (bi_len at_ fx (by kernel_rfl) (da_cons (de_v at_ (by kernel_rfl)) da_nil rfl) rfl) (da_cons (bi_len at_ fx (by kernel_rfl) (da_cons (de_v at_ (by kernel_rfl)) da_nil rfl) rfl) da_nil rfl) rfl)) (dg_v at_ (by kernel_rfl)) rfl rfl rfl) (dss_cons (ds_for hp fx.calm (di_val fx.K (bi_range1 at_ fx (by kernel_rfl) (da_cons de_int da_nil rfl) rfl)) (dg_v at_ (by kernel_rfl)) (dss_cons (ds_if (dw_or (dt_not (dt_val (bi_isi at_ fx "tuple" (by decide) (by kernel_rfl) (by kernel_rfl) (de_ix fx.K (de_v at_ (by kernel_rfl)) (de_v at_ (by kernel_rfl)) (fun _ _ => rfl)) rfl) (fun _ => rfl))) (dw_or1 (dt_cmp (op_neD fx.un) op2_ne (bi_len at_ fx (by kernel_rfl) (da_cons (de_ix fx.K (de_v at_ (by kernel_rfl)) (de_v at_ (by kernel_rfl)) (fun _ _ => rfl)) da_nil rfl) rfl) (de_ix fx.K (de_v at_ (by kernel_rfl)) (de_v at_ (by kernel_rfl)) (fun _ _ => rfl)) rfl))).pt (dss_cons (ds_ret de_bool) dss_nil) dss_nil) (dss_cons (ds_for hp fx.calm (di_val fx.K (bi_range1 at_ fx (by kernel_rfl) (da_cons (de_ix fx.K (de_v at_ (by kernel_rfl)) (de_v at_ (by kernel_rfl)) (fun _ _ => rfl)) da_nil rfl) rfl)) (dg_v at_ (by kernel_rfl)) (dss_cons (ds_asg (de_ix fx.K (de_ix fx.K (de_v at_ (by kernel_rfl)) (de_v at_ (by kernel_rfl)) (fun _ _ => rfl)) (de_v at_ (by kernel_rfl)) (fun _ _ => rfl)) (dg_v at_ (by kernel_rfl)) rfl rfl rfl) (dss_cons (ds_if (dw_or (dt_not (dt_val (bi_isi at_ fx "tuple" (by decide) (by kernel_rfl) (by kernel_rfl) (de_v at_ (by kernel_rfl)) rfl) (fun _ => rfl))) (dw_or (dt_cmp (op_neD fx.un) op2_ne (bi_len at_ fx (by kernel_rfl) (da_cons (de_v at_ (by kernel_rfl)) da_nil rfl) rfl) de_int rfl) (dw_or1 (dt_not (dt_val (bi_f at_ fx 37 rfl (by kernel_rfl) (da_cons (de_ix fx.K (de_v at_ (by kernel_rfl)) de_int (fun _ _ => rfl)) (da_cons (de_ix fx.K (de_v at_ (by kernel_rfl)) (de_op op_sub op2_sub de_int (de_v at_ (by kernel_rfl))) (fun _ _ => rfl)) da_nil rfl) rfl) rfl rfl) (fun _ => rfl)))))).pt (dss_cons (ds_ret de_bool) dss_nil) dss_nil) (dss_cons (ds_asg (de_tup (da_cons (de_v at_ (by kernel_rfl)) (da_cons (de_ix fx.K (de_v at_ (by kernel_rfl)) de_int (fun _ _ => rfl)) da_nil rfl) rfl)) (dg_v at_ (by kernel_rfl)) rfl rfl rfl) (dss_cons (ds_if (dt_not (dt_val (bi_f at_ fx 39 rfl (by kernel_rfl) (da_cons (de_v at_ (by kernel_rfl)) (da_cons (de_v at_ (by kernel_rfl)) (da_cons (de_v at_ (by kernel_rfl)) (da_cons (de_op (op_or op_add op_catA) op2_add (de_v at_ (by kernel_rfl)) (de_tup (da_cons (de_ix fx.K (de_v at_ (by kernel_rfl)) (de_v at_ (by kernel_rfl)) (fun _ _ => rfl)) da_nil rfl))) (da_cons (de_op (op_or op_add op_catA) op2_add (de_v at_ (by kernel_rfl)) (de_tup (da_cons (de_ix fx.K (de_v at_ (by kernel_rfl)) (de_op op_sub op2_sub de_int (de_v at_ (by kernel_rfl))) (fun _ _ => rfl)) da_nil rfl))) (da_cons (de_op op_sub op2_sub (de_v at_ (by kernel_rfl)) de_int) (da_cons (de_ix fx.K (de_v at_ (by kernel_rfl)) de_int (fun _ _ => rfl)) da_nil rfl) rfl) rfl) rfl) rfl) rfl) rfl) rfl rfl) (fun _ => rfl))) (dss_cons (ds_ret de_bool) dss_nil) dss_nil) dss_nil)))) (fun _ => rfl)) dss_nil)) (fun _ => rfl)) (dss_cons (ds_ret de_bool) dss_nil))))))
def N_l_law_is_paper : List Str := ["turn", "one", "other", "rounds", "value"]
def d_l_law_is_paper (G : Gl) (Φ Ψ Γ : Nat → List D → M D) : FS := (sSeq (sIf (bOr (bNot (bVal (fIsi ["tuple"] (eVar 4)))) (bOr (bVal (fOp2 (opEq true) (fCall cLen (aCons (eVar 4) aNil)) (eC (.int 2)))) (bNot (bVal (fIsi ["str"] (fOp2 opIx (eVar 4) (eC (.int 0)))))))) (sSeq (sRet (eC (.bl false))) sNil) sNil) (sSeq (sIf (bVal (fOp2 (opEq false) (fOp2 opIx (eVar 4) (eC (.int 0))) (eC (.str "apart")))) (sSeq (sRet (fCallU 7 (Φ 38) (aCons (eVar 0) (aCons (eVar 1) (aCons (eVar 2) (aCons (fTup aNil) (aCons (fTup aNil) (aCons (eVar 3) (aCons (fOp2 opIx (eVar 4) (eC (.int 1))) aNil))))))))) sNil) sNil) (sSeq (sRet (vAnd (fOp2 (opEq false) (fOp2 opIx (eVar 4) (eC (.int 0))) (eC (.str "alike"))) (fCallU 7 (Φ 39) (aCons (eVar 0) (aCons (eVar 1) (aCons (eVar 2) (aCons (fTup aNil) (aCons (fTup aNil) (aCons (eVar 3) (aCons (fOp2 opIx (eVar 4) (eC (.int 1))) aNil)))))))))) sNil)))
theorem p_l_law_is_paper {G : Gl} {X : Cx} {E : XK} {Φ Ψ Γ : Nat → List D → M D} {k : Nat} (at_ : At X N_l_law_is_paper (C8.fnScope (top 49)) (C8.fnScope (top 49))) (fx : Fine G tfs tms tcs tkt Φ Ψ Γ k X) (hp : PassesOwn (model X.prog X.w) X.A X.env X.xe) : DSs G X E (C8.fnBody (top 49)) (d_l_law_is_paper G Φ Ψ Γ) := by
  unfold d_l_law_is_paper
  exact (dss_cons (ds_if (dw_or (dt_not (dt_val (bi_isi at_ fx "tuple" (by decide) (by kernel_rfl) (by kernel_rfl) (de_v at_ (by kernel_rfl)) rfl) (fun _ => rfl))) (dw_or (dt_cmp (op_neD fx.un) op2_ne (bi_len at_ fx (by kernel_rfl) (da_cons (de_v at_ (by kernel_rfl)) da_nil rfl) rfl) de_int rfl) (dw_or1 (dt_not (dt_val (bi_isi at_ fx "str" (by decide) (by kernel_rfl) (by kernel_rfl) (de_ix fx.K (de_v at_ (by kernel_rfl)) de_int (fun _ _ => rfl)) rfl) (fun _ => rfl)))))).pt (dss_cons (ds_ret de_bool) dss_nil) dss_nil) (dss_cons (ds_if (dt_cmp (op_eqD fx.un) op2_eq (de_ix fx.K (de_v at_ (by kernel_rfl)) de_int (fun _ _ => rfl)) de_str rfl) (dss_cons (ds_ret (bi_f at_ fx 38 rfl (by kernel_rfl) (da_cons (de_v at_ (by kernel_rfl)) (da_cons (de_v at_ (by kernel_rfl)) (da_cons (de_v at_ (by kernel_rfl)) (da_cons (de_tup da_nil) (da_cons (de_tup da_nil) (da_cons (de_v at_ (by kernel_rfl)) (da_cons (de_ix fx.K (de_v at_ (by kernel_rfl)) de_int (fun _ _ => rfl)) da_nil rfl) rfl) rfl) rfl) rfl) rfl) rfl) rfl rfl)) dss_nil) dss_nil) (dss_cons (ds_ret (de_and (de_cmp (op_eqD fx.un) op2_eq (de_ix fx.K (de_v at_ (by kernel_rfl)) de_int (fun _ _ => rfl)) de_str rfl) (de_and1 (bi_f at_ fx 39 rfl (by kernel_rfl) (da_cons (de_v at_ (by kernel_rfl)) (da_cons (de_v at_ (by kernel_rfl)) (da_cons (de_v at_ (by kernel_rfl)) (da_cons (de_tup da_nil) (da_cons (de_tup da_nil) (da_cons (de_v at_ (by kernel_rfl)) (da_cons (de_ix fx.K (de_v at_ (by kernel_rfl)) de_int (fun _ _ => rfl)) da_nil rfl) rfl) rfl) rfl) rfl) rfl) rfl) rfl rfl)))) dss_nil)))
def N_l_law_same : List Str := ["told", "due", "k"]
def d_l_law_same (G : Gl) (Φ Ψ Γ : Nat → List D → M D) : FS := (sSeq (sIf (bVal (fOp2 (opIs false) (eVar 1) (eC .non))) (sSeq (sRet (fOp2 (opIs false) (eVar 0) (eC .non))) sNil) sNil) (sSeq (sIf (bVal (fIsi ["bool"] (eVar 1))) (sSeq (sRet (vAnd (fIsi ["bool"] (eVar 0)) (fOp2 (opEq false) (eVar 0) (eVar 1)))) sNil) sNil) (sSeq (sIf (bVal (fIsi ["int"] (eVar 1))) (sSeq (sRet (vAnd (fIsi ["int"] (eVar 0)) (vAnd (vNot (fIsi ["bool"] (eVar 0))) (fOp2 (opEq false) (eVar 0) (eVar 1))))) sNil) sNil) (sSeq (sIf (bVal (fIsi ["str"] (eVar 1))) (sSeq (sRet (vAnd (fIsi ["str"] (eVar 0)) (fOp2 (opEq false) (eVar 0) (eVar 1)))) sNil) sNil) (sSeq (sIf (bOr (bVal (fOp2 (opEq true) (fIsi ["list"] (eVar 1)) (fIsi ["list"] (eVar 0)))) (bVal (fOp2 (opEq true) (fIsi ["tuple"] (eVar 1)) (fIsi ["tuple"] (eVar 0))))) (sSeq (sRet (eC (.bl false))) sNil) sNil) (sSeq (sIf (bOr (bNot (bVal (fIsi ["list", "tuple"] (eVar 1)))) (bVal (fOp2 (opEq true) (fCall cLen (aCons (eVar 0) aNil)) (fCall cLen (aCons (eVar 1) aNil))))) (sSeq (sRet (eC (.bl false))) sNil) sNil) (sSeq (sFor (fVal (fCall cRange1 (aCons (fCall cLen (aCons (eVar 1) aNil)) aNil))) (gVar 2) (sSeq (sIf (bNot (bVal (fCallU 2 (Φ 41) (aCons (fOp2 opIx (eVar 0) (eVar 2)) (aCons (fOp2 opIx (eVar 1) (eVar 2)) aNil))))) (sSeq (sRet (eC (.bl false))) sNil) sNil) sNil)) (sSeq (sRet (eC (.bl true))) sNil))))))))
theorem p_l_law_same {G : Gl} {X : Cx} {E : XK} {Φ Ψ Γ : Nat → List D → M D} {k : Nat} (at_ : At X N_l_law_same (C8.fnScope (top 37)) (C8.fnScope (top 37))) (fx : Fine G tfs tms tcs tkt Φ Ψ Γ k X) (hp : PassesOwn (model X.prog X.w) X.A X.env X.xe) : DSs G X E (C8.fnBody (top 37)) (d_l_law_same G Φ Ψ Γ) := by
  unfold d_l_law_same
  exact (dss_cons (ds_if (dt_cmp (op_or op_isN op_isBl) op2_is (de_v at_ (by kernel_rfl)) de_non rfl) (dss_cons (ds_ret (de_cmp (op_or op_isN op_isBl) op2_is (de_v at_ (by kernel_rfl)) de_non rfl)) dss_nil) dss_nil) (dss_cons (ds_if (dt_val (bi_isi at_ fx "bool" (by decide) (by kernel_rfl) (by kernel_rfl) (de_v at_ (by kernel_rfl)) rfl) (fun _ => rfl)) (dss_cons (ds_ret (de_and (bi_isi at_ fx "bool" (by decide) (by kernel_rfl) (by kernel_rfl) (de_v at_ (by kernel_rfl)) rfl) (de_and1 (de_cmp (op_eqD fx.un) op2_eq (de_v at_ (by kernel_rfl)) (de_v at_ (by kernel_rfl)) rfl)))) dss_nil) dss_nil) (dss_cons (ds_if (dt_val (bi_isi at_ fx "int" (by decide) (by kernel_rfl) (by kernel_rfl) (de_v at_ (by kernel_rfl)) rfl) (fun _ => rfl)) (dss_cons (ds_ret (de_and (bi_isi at_ fx "int" (by decide) (by kernel_rfl) (by kernel_rfl) (de_v at_ (by kernel_rfl)) rfl) (de_and (de_not (bi_isi at_ fx "bool" (by decide) (by kernel_rfl) (by kernel_rfl) (de_v at_ (by kernel_rfl)) rfl)) (de_and1 (de_cmp (op_eqD fx.un) op2_eq (de_v at_ (by kernel_rfl)) (de_v at_ (by kernel_rfl)) rfl))))) dss_nil) dss_nil) (dss_cons (ds_if (dt_val (bi_isi at_ fx "str" (by decide) (by kernel_rfl) (by kernel_rfl) (de_v at_ (by kernel_rfl)) rfl) (fun _ => rfl)) (dss_cons (ds_ret (de_and (bi_isi at_ fx "str" (by decide) (by kernel_rfl) (by kernel_rfl) (de_v at_ (by kernel_rfl)) rfl) (de_and1 (de_cmp (op_eqD fx.un) op2_eq (de_v at_ (by kernel_rfl)) (de_v at_ (by kernel_rfl)) rfl)))) dss_nil) dss_nil) (dss_cons (ds_if (dw_or (dt_cmp (op_neD fx.un) op2_ne (bi_isi at_ fx "list" (by decide) (by kernel_rfl) (by kernel_rfl) (de_v at_ (by kernel_rfl)) rfl) (bi_isi at_ fx "list" (by decide) (by kernel_rfl) (by kernel_rfl) (de_v at_ (by kernel_rfl)) rfl) rfl) (dw_or1 (dt_cmp (op_neD fx.un) op2_ne (bi_isi at_ fx "tuple" (by decide) (by kernel_rfl) (by kernel_rfl) (de_v at_ (by kernel_rfl)) rfl) (bi_isi at_ fx "tuple" (by decide) (by kernel_rfl) (by kernel_rfl) (de_v at_ (by kernel_rfl)) rfl) rfl))).pt (dss_cons (ds_ret de_bool) dss_nil) dss_nil) (dss_cons (ds_if (dw_or (dt_not (dt_val (bi_isi2 at_ fx (by kernel_rfl) (by kernel_rfl) (by kernel_rfl) (de_v at_ (by kernel_rfl)) rfl) (fun _ => rfl))) (dw_or1 (dt_cmp (op_neD fx.un) op2_ne (bi_len at_ fx (by kernel_rfl) (da_cons (de_v at_ (by kernel_rfl)) da_nil rfl) rfl) (bi_len at_ fx (by kernel_rfl) (da_cons (de_v at_ (by kernel_rfl)) da_nil rfl) rfl) rfl))).pt (dss_cons (ds_ret de_bool) dss_nil) dss_nil) (dss_cons (ds_for hp fx.calm (di_val fx.K (bi_range1 at_ fx (by kernel_rfl) (da_cons (bi_len at_ fx (by kernel_rfl) (da_cons (de_v at_ (by kernel_rfl)) da_nil rfl) rfl) da_nil rfl) rfl)) (dg_v at_ (by kernel_rfl)) (dss_cons (ds_if (dt_not (dt_val (bi_f at_ fx 41 rfl (by kernel_rfl) (da_cons (de_ix fx.K (de_v at_ (by kernel_rfl)) (de_v at_ (by kernel_rfl)) (fun _ _ => rfl)) (da_cons (de_ix fx.K (de_v at_ (by kernel_rfl)) (de_v at_ (by kernel_rfl)) (fun _ _ => rfl)) da_nil rfl) rfl) rfl rfl) (fun _ => rfl))) (dss_cons (ds_ret de_bool) dss_nil) dss_nil) dss_nil) (fun _ => rfl)) (dss_cons (ds_ret de_bool) dss_nil))))))))
def N_law : List Str := ["script", "source", "ties", "turn", "table", "rounds", "right", "menu", "k", "again", "paper", "pair", "one", "other", "value", "due", "near"]
def d_law (G : Gl) (Φ Ψ Γ : Nat → List D → M D) : FS := (sSeq (sAsg (fCallU 1 (Φ 0) (aCons (eVar 0) aNil)) (gVar 1)) (sSeq (sAsg (fOp2 opAdd (eC (.int 1)) (fCallU 2 (Φ 1) (aCons (eVar 1) (aCons (eC (.int 4)) aNil)))) (gVar 2)) (sSeq (sAsg (fCallU 2 (Φ 2) (aCons (eVar 1) (aCons (eVar 2) aNil))) (gVar 3)) (sSeq (sAsg (fMake "Table" 3 (Γ 0) (aCons (fNew (fCall cList (aCons (eVar 3) aNil))) (aCons (fNew (fComp (fVal (fCall cRange1 (aCons (fCallU 2 (Φ 1) (aCons (eVar 1) (aCons (eC (.int 3)) aNil))) aNil))) (gVar 8) bTrue (fCallU 3 (Φ 17) (aCons (eVar 1) (aCons (eVar 2) (aCons (eC (.int 3)) aNil)))) [8])) aNil))) (gVar 4)) (sSeq (sAsg (fCallU 3 (Φ 21) (aCons (eVar 1) (aCons (eVar 2) (aCons (eVar 3) aNil)))) (gTupD [(gVar 12), (gVar 13)])) (sSeq (sAsg (fOp2 opIx (fTup (aCons (eC (.int 0)) (aCons (eC (.int 1)) (aCons (eC (.int 1)) (aCons (eC (.int 2)) (aCons (eC (.int 2)) (aCons (eC (.int 3)) aNil))))))) (fCallU 2 (Φ 1) (aCons (eVar 1) (aCons (eC (.int 6)) aNil)))) (gVar 5)) (sSeq (sAsg (fCallU 5 (Φ 27) (aCons (eVar 1) (aCons (eVar 3) (aCons (eVar 12) (aCons (eVar 13) (aCons (eVar 5) aNil)))))) (gVar 6)) (sSeq (sIf (bVal (fOp2 (opIs true) (fCallU 5 (Φ 34) (aCons (eVar 4) (aCons (eVar 12) (aCons (eVar 13) (aCons (eVar 5) (aCons (eVar 6) aNil)))))) (eC (.bl true)))) (sSeq (sRet (eC (.bl false))) sNil) sNil) (sSeq (sAsg (fNew (fLst (aCons (eC .non) (aCons (eC (.int 0)) (aCons (eC (.int 1)) (aCons (eC (.int 2)) (aCons (eC (.int 3)) (aCons (eC (.bl true)) (aCons (eC (.bl false)) (aCons (fTup aNil) (aCons (fTup (aCons (fTup aNil) aNil)) (aCons (fTup (aCons (fTup aNil) (aCons (fTup aNil) aNil))) (aCons (fTup (aCons (eC (.int 0)) (aCons (fTup aNil) aNil))) (aCons (fTup (aCons (eC (.int 0)) (aCons (eC (.int 0)) (aCons (fTup aNil) aNil)))) (aCons (fTup (aCons (eC (.int 1)) (aCons (eC (.int 0)) (aCons (fTup (aCons (fTup aNil) aNil)) aNil)))) (aCons (eC (.str "alike")) (aCons (eC (.str "apart")) (aCons (fNew (fLst (aCons (eC (.int 0)) aNil))) aNil)))))))))))))))))) (gVar 7)) (sSeq (sFor (fVal (fCall cRange1 (aCons (eC (.int 8)) aNil))) (gVar 8) (sSeq (sAsg (fCallU 3 (Φ 35) (aCons (eVar 1) (aCons (eVar 6) (aCons (eVar 7) aNil)))) (gVar 14)) (sSeq (sIf (bVal (fOp2 (opEq false) (fCallU 2 (Φ 1) (aCons (eVar 1) (aCons (eC (.int 3)) aNil))) (eC (.int 0)))) (sSeq (sAsg (fCallU 3 (Φ 35) (aCons (eVar 1) (aCons (eVar 14) (aCons (eVar 7) aNil)))) (gVar 14)) sNil) sNil) (sSeq (sIf (bVal (fOp2 (opEq false) (eVar 8) (eC (.int 7)))) (sSeq (sAsg (fCallU 2 (Φ 36) (aCons (eVar 1) (aCons (eVar 5) aNil))) (gVar 14)) sNil) sNil) (sSeq (sAsg (fCallU 5 (Φ 40) (aCons (eVar 3) (aCons (eVar 12) (aCons (eVar 13) (aCons (eVar 5) (aCons (eVar 14) aNil)))))) (gVar 15)) (sSeq (sIf (bNot (bVal (fCallU 2 (Φ 41) (aCons (fCallU 5 (Φ 34) (aCons (eVar 4) (aCons (eVar 12) (aCons (eVar 13) (aCons (eVar 5) (aCons (eVar 14) aNil)))))) (aCons (eVar 15) aNil))))) (sSeq (sRet (eC (.bl false))) sNil) sNil) (sSeq (sAsg (fOp2 opIx (fTup (aCons (fCall cMax2 (aCons (eC (.int 0)) (aCons (fOp2 opSub (eVar 5) (eC (.int 1))) aNil))) (aCons (fCall cMin2 (aCons (eC (.int 3)) (aCons (fOp2 opAdd (eVar 5) (eC (.int 1))) aNil))) aNil))) (fCallU 2 (Φ 1) (aCons (eVar 1) (aCons (eC (.int 2)) aNil)))) (gVar 16)) (sSeq (sAsg (fCallU 5 (Φ 40) (aCons (eVar 3) (aCons (eVar 13) (aCons (eVar 12) (aCons (eVar 16) (aCons (eVar 14) aNil)))))) (gVar 15)) (sSeq (sIf (bNot (bVal (fCallU 2 (Φ 41) (aCons (fCallK 5 (Φ 34) [4, 3, 2, 1, 0] (aCons (eVar 14) (aCons (eVar 16) (aCons (eVar 12) (aCons (eVar 13) (aCons (eVar 4) aNil)))))) (aCons (eVar 15) aNil))))) (sSeq (sRet (eC (.bl false))) sNil) sNil) sNil))))))))) (sSeq (sAsg (fCallU 3 (Φ 21) (aCons (eVar 1) (aCons (eVar 2) (aCons (eVar 3) aNil)))) (gVar 9)) (sSeq (sAsg (fCallU 5 (Φ 27) (aCons (eVar 1) (aCons (eVar 3) (aCons (fOp2 opIx (eVar 9) (eC (.int 0))) (aCons (fOp2 opIx (eVar 9) (eC (.int 1))) (aCons (eVar 5) aNil)))))) (gVar 10)) (sSeq (sFor (fVal (fTup (aCons (fTup (aCons (eVar 12) (aCons (fOp2 opIx (eVar 9) (eC (.int 0))) aNil))) (aCons (fTup (aCons (fOp2 opIx (eVar 9) (eC (.int 1))) (aCons (eVar 13) aNil))) (aCons (fTup (aCons (eVar 12) (aCons (eVar 13) aNil))) (aCons (fTup (aCons (fOp2 opIx (eVar 9) (eC (.int 1))) (aCons (fOp2 opIx (eVar 9) (eC (.int 0))) aNil))) aNil)))))) (gVar 11) (sSeq (sAsg (fCallU 5 (Φ 40) (aCons (eVar 3) (aCons (fOp2 opIx (eVar 11) (eC (.int 0))) (aCons (fOp2 opIx (eVar 11) (eC (.int 1))) (aCons (eVar 5) (aCons (eVar 10) aNil)))))) (gVar 15)) (sSeq (sIf (bNot (bVal (fCallU 2 (Φ 41) (aCons (fCallU 5 (Φ 34) (aCons (eVar 4) (aCons (fOp2 opIx (eVar 11) (eC (.int 0))) (aCons (fOp2 opIx (eVar 11) (eC (.int 1))) (aCons (eVar 5) (aCons (eVar 10) aNil)))))) (aCons (eVar 15) aNil))))) (sSeq (sRet (eC (.bl false))) sNil) sNil) sNil))) (sSeq (sRet (fOp2 (opIs false) (fCallU 5 (Φ 34) (aCons (eVar 4) (aCons (fOp2 opIx (eVar 9) (eC (.int 0))) (aCons (fOp2 opIx (eVar 9) (eC (.int 1))) (aCons (eVar 5) (aCons (eVar 10) aNil)))))) (eC (.bl true)))) sNil))))))))))))))
theorem p_law {G : Gl} {X : Cx} {E : XK} {Φ Ψ Γ : Nat → List D → M D} {k : Nat} (at_ : At X N_law (C8.fnScope (top 56)) (C8.fnScope (top 56))) (fx : Fine G tfs tms tcs tkt Φ Ψ Γ k X) (hp : PassesOwn (model X.prog X.w) X.A X.env X.xe) : DSs G X E (C8.fnBody (top 56)) (d_law G Φ Ψ Γ) := by
  unfold d_law
  exact (dss_cons (ds_asg (bi_f at_ fx 0 rfl (by kernel_rfl) (da_cons (de_v at_ (by kernel_rfl)) da_nil rfl) rfl rfl) (dg_v at_ (by kernel_rfl)) rfl rfl rfl) (dss_cons (ds_asg (de_op (op_or op_add op_catA) op2_add de_int (bi_f at_ fx 1 rfl (by kernel_rfl) (da_cons (de_v at_ (by kernel_rfl)) (da_cons de_int da_nil rfl) rfl) rfl rfl)) (dg_v at_ (by kernel_rfl)) rfl rfl rfl) (dss_cons (ds_asg (bi_f at_ fx 2 rfl (by kernel_rfl) (da_cons (de_v at_ (by kernel_rfl)) (da_cons (de_v at_ (by kernel_rfl)) da_nil rfl) rfl) rfl rfl) (dg_v at_ (by kernel_rfl)) rfl rfl rfl) (dss_cons (ds_asg (bi_c at_ fx 0 rfl (by kernel_rfl) (da_cons (de_new (bi_list at_ fx (by kernel_rfl) (da_cons (de_v at_ (by kernel_rfl)) da_nil rfl) rfl)) (da_cons (de_new (dl_lc fx.calm at_.nd' (di_val fx.K (bi_range1 at_ fx (by kernel_rfl) (da_cons (bi_f at_ fx 1 rfl (by kernel_rfl) (da_cons (de_v at_ (by kernel_rfl)) (da_cons de_int da_nil rfl) rfl) rfl rfl) da_nil rfl) rfl)) (at_.blkOk (own := [("k", 8)]) (by kernel_rfl)) (inB (Q := fun Y => DG G Y _ _ _) at_ fx fun Y at_ fx => (dg_v at_ (by kernel_rfl))) (inB (Q := fun Y => PTs Y _ (Lf G rB NoX _)) at_ fx fun Y at_ fx => dts_nil) (inB (Q := fun Y => DE G Y NoX _ _) at_ fx fun Y at_ fx => (bi_f at_ fx 17 rfl (by kernel_rfl) (da_cons (de_v at_ (by kernel_rfl)) (da_cons (de_v at_ (by kernel_rfl)) (da_cons de_int da_nil rfl) rfl) rfl) rfl rfl)) (by decide) (fun _ => rfl))) da_nil rfl) rfl) rfl rfl) (dg_v at_ (by kernel_rfl)) rfl rfl rfl) (dss_cons (ds_asg (bi_f at_ fx 21 rfl (by kernel_rfl) (da_cons (de_v at_ (by kernel_rfl)) (da_cons (de_v at_ (by kernel_rfl)) (da_cons (de_v at_ (by kernel_rfl)) da_nil rfl) rfl) rfl) rfl rfl) (dg_tup fx.calm (dgs_cons (ks := [12, 13]) (dg_v at_ (by kernel_rfl)) (dgs_cons (ks := [12, 13]) (dg_v at_ (by kernel_rfl)) (dgs_nil (is := [12, 13])) (by decide) (by decide) rfl) (by decide) (by decide) rfl) rfl rfl) rfl rfl rfl) (dss_cons (ds_asg (de_ix fx.K (de_tup (da_cons de_int (da_cons de_int (da_cons de_int (da_cons de_int (da_cons de_int (da_cons de_int da_nil rfl) rfl) rfl) rfl) rfl) rfl)) (bi_f at_ fx 1 rfl (by kernel_rfl) (da_cons (de_v at_ (by kernel_rfl)) (da_cons de_int da_nil rfl) rfl) rfl rfl) (fun _ _ => rfl)) (dg_v at_ (by kernel_rfl)) rfl rfl rfl) (dss_cons (ds_asg (bi_f at_ fx 27 rfl (by kernel_rfl) (da_cons (de_v at_ (by kernel_rfl)) (da_cons (de_v at_ (by kernel_rfl)) (da_cons (de_v at_ (by kernel_rfl)) (da_cons (de_v at_ (by kernel_rfl)) (da_cons (de_v at_ (by kernel_rfl)) da_nil rfl) rfl) rfl) rfl) rfl) rfl rfl) (dg_v at_ (by kernel_rfl)) rfl rfl rfl) (dss_cons (ds_if (dt_cmp (op_or op_notN op_notBl) op2_isnot (bi_f at_ fx 34 rfl (by kernel_rfl) (da_cons (de_v at_ (by kernel_rfl)) (da_cons (de_v at_ (by kernel_rfl)) (da_cons (de_v at_ (by kernel_rfl)) (da_cons (de_v at_ (by kernel_rfl)) (da_cons (de_v at_ (by kernel_rfl)) da_nil rfl) rfl) rfl) rfl) rfl) rfl rfl) de_bool rfl) (dss_cons (ds_ret de_bool) dss_nil) dss_nil) (dss_cons (ds_asg (de_new (dl_lst (da_cons de_non (da_cons de_int (da_cons de_int (da_cons de_int (da_cons de_int (da_cons de_bool (da_cons de_bool (da_cons (de_tup da_nil) (da_cons (de_tup (da_cons (de_tup da_nil) da_nil rfl)) (da_cons (de_tup (da_cons (de_tup da_nil) (da_cons (de_tup da_nil) da_nil rfl) rfl)) (da_cons (de_tup (da_cons de_int (da_cons (de_tup da_nil) da_nil rfl) rfl)) (da_cons (de_tup (da_cons de_int (da_cons de_int (da_cons (de_tup da_nil) da_nil rfl) rfl) rfl)) (da_cons (de_tup (da_cons de_int (da_cons de_int (da_cons (de_tup (da_cons (de_tup da_nil) da_nil rfl)) da_nil rfl) rfl) rfl)) (da_cons de_str (da_cons de_str (da_cons (de_new (dl_lst (da_cons de_int da_nil rfl))) da_nil rfl) rfl) rfl) rfl) rfl) rfl) rfl) rfl) rfl) rfl) rfl) rfl) rfl) rfl) rfl) rfl))) (dg_v at_ (by kernel_rfl)) rfl rfl rfl) (dss_cons (ds_for hp fx.calm (di_val fx.K (bi_range1 at_ fx (by kernel_rfl) (da_cons de_int da_nil rfl) rfl)) (dg_v at_ (by kernel_rfl)) (dss_cons (ds_asg (bi_f at_ fx 35 rfl (by kernel_rfl) (da_cons (de_v at_ (by kernel_rfl)) (da_cons (de_v at_ (by kernel_rfl)) (da_cons (de_v at_ (by kernel_rfl)) da_nil rfl) rfl) rfl) rfl rfl) (dg_v at_ (by kernel_rfl)) rfl rfl rfl) (dss_cons (ds_if (dt_cmp (op_eqD fx.un) op2_eq (bi_f at_ fx 1 rfl (by kernel_rfl) (da_cons (de_v at_ (by kernel_rfl)) (da_cons de_int da_nil rfl) rfl) rfl rfl) de_int rfl) (dss_cons (ds_asg (bi_f at_ fx 35 rfl (by kernel_rfl) (da_cons (de_v at_ (by kernel_rfl)) (da_cons (de_v at_ (by kernel_rfl)) (da_cons (de_v at_ (by kernel_rfl)) da_nil rfl) rfl) rfl) rfl rfl) (dg_v at_ (by kernel_rfl)) rfl rfl rfl) dss_nil) dss_nil) (dss_cons (ds_if (dt_cmp (op_eqD fx.un) op2_eq (de_v at_ (by kernel_rfl)) de_int rfl) (dss_cons (ds_asg (bi_f at_ fx 36 rfl (by kernel_rfl) (da_cons (de_v at_ (by kernel_rfl)) (da_cons (de_v at_ (by kernel_rfl)) da_nil rfl) rfl) rfl rfl) (dg_v at_ (by kernel_rfl)) rfl rfl rfl) dss_nil) dss_nil) (dss_cons (ds_asg (bi_f at_ fx 40 rfl (by kernel_rfl) (da_cons (de_v at_ (by kernel_rfl)) (da_cons (de_v at_ (by kernel_rfl)) (da_cons (de_v at_ (by kernel_rfl)) (da_cons (de_v at_ (by kernel_rfl)) (da_cons (de_v at_ (by kernel_rfl)) da_nil rfl) rfl) rfl) rfl) rfl) rfl rfl) (dg_v at_ (by kernel_rfl)) rfl rfl rfl) (dss_cons (ds_if (dt_not (dt_val (bi_f at_ fx 41 rfl (by kernel_rfl) (da_cons (bi_f at_ fx 34 rfl (by kernel_rfl) (da_cons (de_v at_ (by kernel_rfl)) (da_cons (de_v at_ (by kernel_rfl)) (da_cons (de_v at_ (by kernel_rfl)) (da_cons (de_v at_ (by kernel_rfl)) (da_cons (de_v at_ (by kernel_rfl)) da_nil rfl) rfl) rfl) rfl) rfl) rfl rfl) (da_cons (de_v at_ (by kernel_rfl)) da_nil rfl) rfl) rfl rfl) (fun _ => rfl))) (dss_cons (ds_ret de_bool) dss_nil) dss_nil) (dss_cons (ds_asg (de_ix fx.K (de_tup (da_cons (bi_max2 at_ fx (by kernel_rfl) (da_cons de_int (da_cons (de_op op_sub op2_sub (de_v at_ (by kernel_rfl)) de_int) da_nil rfl) rfl) rfl rfl) (da_cons (bi_min2 at_ fx (by kernel_rfl) (da_cons de_int (da_cons (de_op (op_or op_add op_catA) op2_add (de_v at_ (by kernel_rfl)) de_int) da_nil rfl) rfl) rfl rfl) da_nil rfl) rfl)) (bi_f at_ fx 1 rfl (by kernel_rfl) (da_cons (de_v at_ (by kernel_rfl)) (da_cons de_int da_nil rfl) rfl) rfl rfl) (fun _ _ => rfl)) (dg_v at_ (by kernel_rfl)) rfl rfl rfl) (dss_cons (ds_asg (bi_f at_ fx 40 rfl (by kernel_rfl) (da_cons (de_v at_ (by kernel_rfl)) (da_cons (de_v at_ (by kernel_rfl)) (da_cons (de_v at_ (by kernel_rfl)) (da_cons (de_v at_ (by kernel_rfl)) (da_cons (de_v at_ (by kernel_rfl)) da_nil rfl) rfl) rfl) rfl) rfl) rfl rfl) (dg_v at_ (by kernel_rfl)) rfl rfl rfl) (dss_cons (ds_if (dt_not (dt_val (bi_f at_ fx 41 rfl (by kernel_rfl) (da_cons (bi_k at_ fx 0 rfl (by kernel_rfl) rfl (dk_cons (de_v at_ (by kernel_rfl)) (dk_cons (de_v at_ (by kernel_rfl)) (dk_cons (de_v at_ (by kernel_rfl)) (dk_cons (de_v at_ (by kernel_rfl)) (dk_cons (de_v at_ (by kernel_rfl)) dk_nil))))) rfl rfl rfl) (da_cons (de_v at_ (by kernel_rfl)) da_nil rfl) rfl) rfl rfl) (fun _ => rfl))) (dss_cons (ds_ret de_bool) dss_nil) dss_nil) dss_nil)))))))) (fun _ => rfl)) (dss_cons (ds_asg (bi_f at_ fx 21 rfl (by kernel_rfl) (da_cons (de_v at_ (by kernel_rfl)) (da_cons (de_v at_ (by kernel_rfl)) (da_cons (de_v at_ (by kernel_rfl)) da_nil rfl) rfl) rfl) rfl rfl) (dg_v at_ (by kernel_rfl)) rfl rfl rfl) (dss_cons (ds_asg (bi_f at_ fx 27 rfl (by kernel_rfl) (da_cons (de_v at_ (by kernel_rfl)) (da_cons (de_v at_ (by kernel_rfl)) (da_cons (de_ix fx.K (de_v at_ (by kernel_rfl)) de_int (fun _ _ => rfl)) (da_cons (de_ix fx.K (de_v at_ (by kernel_rfl)) de_int (fun _ _ => rfl)) (da_cons (de_v at_ (by kernel_rfl)) da_nil rfl) rfl) rfl) rfl) rfl) rfl rfl) (dg_v at_ (by kernel_rfl)) rfl rfl rfl) (dss_cons (ds_for hp fx.calm (di_val fx.K (de_tup (da_cons (de_tup (da_cons (de_v at_ (by kernel_rfl)) (da_cons (de_ix fx.K (de_v at_ (by kernel_rfl)) de_int (fun _ _ => rfl)) da_nil rfl) rfl)) (da_cons (de_tup (da_cons (de_ix fx.K (de_v at_ (by kernel_rfl)) de_int (fun _ _ => rfl)) (da_cons (de_v at_ (by kernel_rfl)) da_nil rfl) rfl)) (da_cons (de_tup (da_cons (de_v at_ (by kernel_rfl)) (da_cons (de_v at_ (by kernel_rfl)) da_nil rfl) rfl)) (da_cons (de_tup (da_cons (de_ix fx.K (de_v at_ (by kernel_rfl)) de_int (fun _ _ => rfl)) (da_cons (de_ix fx.K (de_v at_ (by kernel_rfl)) de_int (fun _ _ => rfl)) da_nil rfl) rfl)) da_nil rfl) rfl) rfl) rfl))) (dg_v at_ (by kernel_rfl)) (dss_cons (ds_asg (bi_f at_ fx 40 rfl (by kernel_rfl) (da_cons (de_v at_ (by kernel_rfl)) (da_cons (de_ix fx.K (de_v at_ (by kernel_rfl)) de_int (fun _ _ => rfl)) (da_cons (de_ix fx.K (de_v at_ (by kernel_rfl)) de_int (fun _ _ => rfl)) (da_cons (de_v at_ (by kernel_rfl)) (da_cons (de_v at_ (by kernel_rfl)) da_nil rfl) rfl) rfl) rfl) rfl) rfl rfl) (dg_v at_ (by kernel_rfl)) rfl rfl rfl) (dss_cons (ds_if (dt_not (dt_val (bi_f at_ fx 41 rfl (by kernel_rfl) (da_cons (bi_f at_ fx 34 rfl (by kernel_rfl) (da_cons (de_v at_ (by kernel_rfl)) (da_cons (de_ix fx.K (de_v at_ (by kernel_rfl)) de_int (fun _ _ => rfl)) (da_cons (de_ix fx.K (de_v at_ (by kernel_rfl)) de_int (fun _ _ => rfl)) (da_cons (de_v at_ (by kernel_rfl)) (da_cons (de_v at_ (by kernel_rfl)) da_nil rfl) rfl) rfl) rfl) rfl) rfl rfl) (da_cons (de_v at_ (by kernel_rfl)) da_nil rfl) rfl) rfl rfl) (fun _ => rfl))) (dss_cons (ds_ret de_bool) dss_nil) dss_nil) dss_nil)) (fun _ => rfl)) (dss_cons (ds_ret (de_cmp (op_or op_isN op_isBl) op2_is (bi_f at_ fx 34 rfl (by kernel_rfl) (da_cons (de_v at_ (by kernel_rfl)) (da_cons (de_ix fx.K (de_v at_ (by kernel_rfl)) de_int (fun _ _ => rfl)) (da_cons (de_ix fx.K (de_v at_ (by kernel_rfl)) de_int (fun _ _ => rfl)) (da_cons (de_v at_ (by kernel_rfl)) (da_cons (de_v at_ (by kernel_rfl)) da_nil rfl) rfl) rfl) rfl) rfl) rfl rfl) de_bool rfl)) dss_nil))))))))))))))
end Mini
end

section
set_option Elab.async false
set_option linter.all false
set_option maxRecDepth 100000
set_option maxHeartbeats 4000000
namespace Mini
open PySem PySem.Spec PyProof.Rows L2
def attB (c f : Str) : Bool := [(Str.ofString "Table", Str.ofString "turn"), (Str.ofString "Table", Str.ofString "ties"), (Str.ofString "Table", Str.ofString "bars"), (Str.ofString "Table", Str.ofString "widest"), (Str.ofString "Table", Str.ofString "barred"), (Str.ofString "Table", Str.ofString "notes"), (Str.ofString "Game", Str.ofString "turn"), (Str.ofString "Game", Str.ofString "sides"), (Str.ofString "Game", Str.ofString "known")].any fun p => decide (p.1 = c) && decide (p.2 = f)
def mkG (P : Program) (w : World) (K : PySem.W.Frag) : Gl := ⟨P, w, K, fun c => if c = Str.ofString "Game" ∨ c = Str.ofString "Table" then some (He.ga K c) else none, attB⟩
def dd_l_law_source : He.DefD := ⟨("_law_source", none), "_law_source", "_law_source", C8.fnArgs (top 35), C8.fnBody (top 35), C8.fnScope (top 35), [], []⟩
def dd_l_law_draw : He.DefD := ⟨("_law_draw", none), "_law_draw", "_law_draw", C8.fnArgs (top 36), C8.fnBody (top 36), C8.fnScope (top 36), [], []⟩
def dd_l_law_turn : He.DefD := ⟨("_law_turn", none), "_law_turn", "_law_turn", C8.fnArgs (top 42), C8.fnBody (top 42), C8.fnScope (top 42), [], []⟩
def dd_is_sequence : He.DefD := ⟨("is_sequence", none), "is_sequence", "is_sequence", C8.fnArgs (top 10), C8.fnBody (top 10), C8.fnScope (top 10), [], []⟩
def dd_is_number : He.DefD := ⟨("is_number", none), "is_number", "is_number", C8.fnArgs (top 8), C8.fnBody (top 8), C8.fnScope (top 8), [], []⟩
def dd_is_below : He.DefD := ⟨("is_below", none), "is_below", "is_below", C8.fnArgs (top 9), C8.fnBody (top 9), C8.fnScope (top 9), [], []⟩
def dd_check_turn : He.DefD := ⟨("check_turn", none), "check_turn", "check_turn", C8.fnArgs (top 15), C8.fnBody (top 15), C8.fnScope (top 15), [], []⟩
def dd_is_row : He.DefD := ⟨("is_row", none), "is_row", "is_row", C8.fnArgs (top 11), C8.fnBody (top 11), C8.fnScope (top 11), [], []⟩
def dd_is_shape : He.DefD := ⟨("is_shape", none), "is_shape", "is_shape", C8.fnArgs (top 12), C8.fnBody (top 12), C8.fnScope (top 12), [], []⟩
def dd_check_bars : He.DefD := ⟨("check_bars", none), "check_bars", "check_bars", C8.fnArgs (top 31), C8.fnBody (top 31), C8.fnScope (top 31), [], []⟩
def dd_tie_in : He.DefD := ⟨("tie_in", none), "tie_in", "tie_in", C8.fnArgs (top 17), C8.fnBody (top 17), C8.fnScope (top 17), [], []⟩
def dd_least_shape : He.DefD := ⟨("least_shape", none), "least_shape", "least_shape", C8.fnArgs (top 21), C8.fnBody (top 21), C8.fnScope (top 21), [], []⟩
def dd_by_size : He.DefD := ⟨("by_size", none), "by_size", "by_size", C8.fnArgs (top 22), C8.fnBody (top 22), C8.fnScope (top 22), [], []⟩
def dd_flat : He.DefD := ⟨("flat", none), "flat", "flat", C8.fnArgs (top 20), C8.fnBody (top 20), C8.fnScope (top 20), [], []⟩
def dd_row_to : He.DefD := ⟨("row_to", none), "row_to", "row_to", C8.fnArgs (top 18), C8.fnBody (top 18), C8.fnScope (top 18), [], []⟩
def dd_cut : He.DefD := ⟨("cut", none), "cut", "cut", C8.fnArgs (top 19), C8.fnBody (top 19), C8.fnScope (top 19), [], []⟩
def dd_barred_orders : He.DefD := ⟨("barred_orders", none), "barred_orders", "barred_orders", C8.fnArgs (top 32), C8.fnBody (top 32), C8.fnScope (top 32), [], []⟩
def dd_l_law_picture : He.DefD := ⟨("_law_picture", none), "_law_picture", "_law_picture", C8.fnArgs (top 43), C8.fnBody (top 43), C8.fnScope (top 43), [], []⟩
def dd_l_law_orders : He.DefD := ⟨("_law_orders", none), "_law_orders", "_law_orders", C8.fnArgs (top 39), C8.fnBody (top 39), C8.fnScope (top 39), [], []⟩
def dd_l_law_tie : He.DefD := ⟨("_law_tie", none), "_law_tie", "_law_tie", C8.fnArgs (top 40), C8.fnBody (top 40), C8.fnScope (top 40), [], []⟩
def dd_l_law_piece : He.DefD := ⟨("_law_piece", none), "_law_piece", "_law_piece", C8.fnArgs (top 41), C8.fnBody (top 41), C8.fnScope (top 41), [], []⟩
def dd_l_law_shown : He.DefD := ⟨("_law_shown", none), "_law_shown", "_law_shown", C8.fnArgs (top 53), C8.fnBody (top 53), C8.fnScope (top 53), [], []⟩
def dd_l_law_sort : He.DefD := ⟨("_law_sort", none), "_law_sort", "_law_sort", C8.fnArgs (top 44), C8.fnBody (top 44), C8.fnScope (top 44), [], []⟩
def dd_l_law_alike : He.DefD := ⟨("_law_alike", none), "_law_alike", "_law_alike", C8.fnArgs (top 45), C8.fnBody (top 45), C8.fnScope (top 45), [], []⟩
def dd_l_law_answers : He.DefD := ⟨("_law_answers", none), "_law_answers", "_law_answers", C8.fnArgs (top 51), C8.fnBody (top 51), C8.fnScope (top 51), [], []⟩
def dd_l_law_as_told : He.DefD := ⟨("_law_as_told", none), "_law_as_told", "_law_as_told", C8.fnArgs (top 46), C8.fnBody (top 46), C8.fnScope (top 46), [], []⟩
def dd_l_law_apart : He.DefD := ⟨("_law_apart", none), "_law_apart", "_law_apart", C8.fnArgs (top 50), C8.fnBody (top 50), C8.fnScope (top 50), [], []⟩
def dd_l_law_paper : He.DefD := ⟨("_law_paper", none), "_law_paper", "_law_paper", C8.fnArgs (top 52), C8.fnBody (top 52), C8.fnScope (top 52), [], []⟩
def dd_check_picture : He.DefD := ⟨("check_picture", none), "check_picture", "check_picture", C8.fnArgs (top 14), C8.fnBody (top 14), C8.fnScope (top 14), [], []⟩
def dd_check_number : He.DefD := ⟨("check_number", none), "check_number", "check_number", C8.fnArgs (top 13), C8.fnBody (top 13), C8.fnScope (top 13), [], []⟩
def dd_game_on : He.DefD := ⟨("game_on", none), "game_on", "game_on", C8.fnArgs (top 25), C8.fnBody (top 25), C8.fnScope (top 25), [], []⟩
def dd_is_apart_tree : He.DefD := ⟨("is_apart_tree", none), "is_apart_tree", "is_apart_tree", C8.fnArgs (top 26), C8.fnBody (top 26), C8.fnScope (top 26), [], []⟩
def dd_is_told_answer : He.DefD := ⟨("is_told_answer", none), "is_told_answer", "is_told_answer", C8.fnArgs (top 27), C8.fnBody (top 27), C8.fnScope (top 27), [], []⟩
def dd_is_alike_tree : He.DefD := ⟨("is_alike_tree", none), "is_alike_tree", "is_alike_tree", C8.fnArgs (top 28), C8.fnBody (top 28), C8.fnScope (top 28), [], []⟩
def dd_is_game_paper : He.DefD := ⟨("is_game_paper", none), "is_game_paper", "is_game_paper", C8.fnArgs (top 29), C8.fnBody (top 29), C8.fnScope (top 29), [], []⟩
def dd_l_law_bent : He.DefD := ⟨("_law_bent", none), "_law_bent", "_law_bent", C8.fnArgs (top 54), C8.fnBody (top 54), C8.fnScope (top 54), [], []⟩
def dd_l_law_odd_paper : He.DefD := ⟨("_law_odd_paper", none), "_law_odd_paper", "_law_odd_paper", C8.fnArgs (top 55), C8.fnBody (top 55), C8.fnScope (top 55), [], []⟩
def dd_l_law_number : He.DefD := ⟨("_law_number", none), "_law_number", "_law_number", C8.fnArgs (top 38), C8.fnBody (top 38), C8.fnScope (top 38), [], []⟩
def dd_l_law_is_apart : He.DefD := ⟨("_law_is_apart", none), "_law_is_apart", "_law_is_apart", C8.fnArgs (top 47), C8.fnBody (top 47), C8.fnScope (top 47), [], []⟩
def dd_l_law_is_alike : He.DefD := ⟨("_law_is_alike", none), "_law_is_alike", "_law_is_alike", C8.fnArgs (top 48), C8.fnBody (top 48), C8.fnScope (top 48), [], []⟩
def dd_l_law_is_paper : He.DefD := ⟨("_law_is_paper", none), "_law_is_paper", "_law_is_paper", C8.fnArgs (top 49), C8.fnBody (top 49), C8.fnScope (top 49), [], []⟩
def dd_l_law_same : He.DefD := ⟨("_law_same", none), "_law_same", "_law_same", C8.fnArgs (top 37), C8.fnBody (top 37), C8.fnScope (top 37), [], []⟩
def dd_law : He.DefD := ⟨("law", none), "law", "law", C8.fnArgs (top 56), C8.fnBody (top 56), C8.fnScope (top 56), [], []⟩
def dd_Game_replies : He.DefD := ⟨("Game", some "replies"), "replies", "Game.replies", C8.fnArgs ((C8.clsBody (top 24)).getD 3 (.Pass ⟨0, 0, 0, 0⟩)), C8.fnBody ((C8.clsBody (top 24)).getD 3 (.Pass ⟨0, 0, 0, 0⟩)), C8.fnScope ((C8.clsBody (top 24)).getD 3 (.Pass ⟨0, 0, 0, 0⟩)), [], []⟩
def dd_Game_goes_with : He.DefD := ⟨("Game", some "goes_with"), "goes_with", "Game.goes_with", C8.fnArgs ((C8.clsBody (top 24)).getD 1 (.Pass ⟨0, 0, 0, 0⟩)), C8.fnBody ((C8.clsBody (top 24)).getD 1 (.Pass ⟨0, 0, 0, 0⟩)), C8.fnScope ((C8.clsBody (top 24)).getD 1 (.Pass ⟨0, 0, 0, 0⟩)), [], []⟩
def dd_Game_goes_on : He.DefD := ⟨("Game", some "goes_on"), "goes_on", "Game.goes_on", C8.fnArgs ((C8.clsBody (top 24)).getD 2 (.Pass ⟨0, 0, 0, 0⟩)), C8.fnBody ((C8.clsBody (top 24)).getD 2 (.Pass ⟨0, 0, 0, 0⟩)), C8.fnScope ((C8.clsBody (top 24)).getD 2 (.Pass ⟨0, 0, 0, 0⟩)), [], []⟩
def dd_Table___init : He.DefD := ⟨("Table", some "__init__"), "__init__", "Table.__init__", C8.fnArgs ((C8.clsBody (top 33)).getD 0 (.Pass ⟨0, 0, 0, 0⟩)), C8.fnBody ((C8.clsBody (top 33)).getD 0 (.Pass ⟨0, 0, 0, 0⟩)), C8.fnScope ((C8.clsBody (top 33)).getD 0 (.Pass ⟨0, 0, 0, 0⟩)), [], []⟩
def dd_Game___init : He.DefD := ⟨("Game", some "__init__"), "__init__", "Game.__init__", C8.fnArgs ((C8.clsBody (top 24)).getD 0 (.Pass ⟨0, 0, 0, 0⟩)), C8.fnBody ((C8.clsBody (top 24)).getD 0 (.Pass ⟨0, 0, 0, 0⟩)), C8.fnScope ((C8.clsBody (top 24)).getD 0 (.Pass ⟨0, 0, 0, 0⟩)), [], []⟩
def hfn : List He.DefD := [dd_l_law_source, dd_l_law_draw, dd_l_law_turn, dd_is_sequence, dd_is_number, dd_is_below, dd_check_turn, dd_is_row, dd_is_shape, dd_check_bars, dd_tie_in, dd_least_shape, dd_by_size, dd_flat, dd_row_to, dd_cut, dd_barred_orders, dd_l_law_picture, dd_l_law_orders, dd_l_law_tie, dd_l_law_piece, dd_l_law_shown, dd_l_law_sort, dd_l_law_alike, dd_l_law_answers, dd_l_law_as_told, dd_l_law_apart, dd_l_law_paper, dd_check_picture, dd_check_number, dd_game_on, dd_is_apart_tree, dd_is_told_answer, dd_is_alike_tree, dd_is_game_paper, dd_l_law_bent, dd_l_law_odd_paper, dd_l_law_number, dd_l_law_is_apart, dd_l_law_is_alike, dd_l_law_is_paper, dd_l_law_same, dd_law, dd_Game_replies, dd_Game_goes_with, dd_Game_goes_on, dd_Table___init, dd_Game___init]
def hfa : List He.Fa := [.glo "_law_source", .glo "_law_draw", .glo "_law_turn", .glo "is_sequence", .glo "is_number", .glo "is_below", .glo "check_turn", .glo "is_row", .glo "is_shape", .glo "check_bars", .glo "tie_in", .glo "least_shape", .glo "by_size", .glo "flat", .glo "row_to", .glo "cut", .glo "barred_orders", .glo "_law_picture", .glo "_law_orders", .glo "_law_tie", .glo "_law_piece", .glo "_law_shown", .glo "_law_sort", .glo "_law_alike", .glo "_law_answers", .glo "_law_as_told", .glo "_law_apart", .glo "_law_paper", .glo "check_picture", .glo "check_number", .glo "game_on", .glo "is_apart_tree", .glo "is_told_answer", .glo "is_alike_tree", .glo "is_game_paper", .glo "_law_bent", .glo "_law_odd_paper", .glo "_law_number", .glo "_law_is_apart", .glo "_law_is_alike", .glo "_law_is_paper", .glo "_law_same", .glo "law", .free "len", .free "tuple", .free "list", .free "int", .free "abs", .free "max", .free "min", .free "range", .free "any", .free "sorted", .free "set", .free "isinstance", .free "enumerate", .free "zip", .free "bool", .free "str", .glo "Game", .cls "Game", .mkr "Game", .glo "Table", .cls "Table", .mkr "Table", .noat "Table" "turn", .noat "Table" "ties", .noat "Table" "bars", .noat "Table" "widest", .noat "Table" "barred", .noat "Table" "notes", .noat "Game" "turn", .noat "Game" "sides", .noat "Game" "known", .meth "Game" "replies", .meth "Game" "goes_with", .meth "Game" "goes_on"]
def sF (G : Gl) (Φ Ψ Γ : Nat → List D → M D) : Nat → List D → M D
  | 0 => runFn 1 N_l_law_source.length (d_l_law_source G Φ Ψ Γ)
  | 1 => runFn 2 N_l_law_draw.length (d_l_law_draw G Φ Ψ Γ)
  | 2 => runFn 2 N_l_law_turn.length (d_l_law_turn G Φ Ψ Γ)
  | 3 => runFn 1 N_is_sequence.length (d_is_sequence G Φ Ψ Γ)
  | 4 => runFn 1 N_is_number.length (d_is_number G Φ Ψ Γ)
  | 5 => runFn 2 N_is_below.length (d_is_below G Φ Ψ Γ)
  | 6 => runFn 1 N_check_turn.length (d_check_turn G Φ Ψ Γ)
  | 7 => runFn 3 N_is_row.length (d_is_row G Φ Ψ Γ)
  | 8 => runFn 2 N_is_shape.length (d_is_shape G Φ Ψ Γ)
  | 9 => runFn 2 N_check_bars.length (d_check_bars G Φ Ψ Γ)
  | 10 => runFn 4 N_tie_in.length (d_tie_in G Φ Ψ Γ)
  | 11 => runFn 2 N_least_shape.length (d_least_shape G Φ Ψ Γ)
  | 12 => runFn 1 N_by_size.length (d_by_size G Φ Ψ Γ)
  | 13 => runFn 1 N_flat.length (d_flat G Φ Ψ Γ)
  | 14 => runFn 4 N_row_to.length (d_row_to G Φ Ψ Γ)
  | 15 => runFn 3 N_cut.length (d_cut G Φ Ψ Γ)
  | 16 => runFn 2 N_barred_orders.length (d_barred_orders G Φ Ψ Γ)
  | 17 => runFn 3 N_l_law_picture.length (d_l_law_picture G Φ Ψ Γ)
  | 18 => runFn 1 N_l_law_orders.length (d_l_law_orders G Φ Ψ Γ)
  | 19 => runFn 4 N_l_law_tie.length (d_l_law_tie G Φ Ψ Γ)
  | 20 => runFn 3 N_l_law_piece.length (d_l_law_piece G Φ Ψ Γ)
  | 21 => runFn 3 N_l_law_shown.length (d_l_law_shown G Φ Ψ Γ)
  | 22 => runFn 4 N_l_law_sort.length (d_l_law_sort G Φ Ψ Γ)
  | 23 => runFn 6 N_l_law_alike.length (d_l_law_alike G Φ Ψ Γ)
  | 24 => runFn 7 N_l_law_answers.length (d_l_law_answers G Φ Ψ Γ)
  | 25 => runFn 5 N_l_law_as_told.length (d_l_law_as_told G Φ Ψ Γ)
  | 26 => runFn 7 N_l_law_apart.length (d_l_law_apart G Φ Ψ Γ)
  | 27 => runFn 5 N_l_law_paper.length (d_l_law_paper G Φ Ψ Γ)
  | 28 => runFn 2 N_check_picture.length (d_check_picture G Φ Ψ Γ)
  | 29 => runFn 1 N_check_number.length (d_check_number G Φ Ψ Γ)
  | 30 => runFn 4 N_game_on.length (d_game_on G Φ Ψ Γ)
  | 31 => runFn 4 N_is_apart_tree.length (d_is_apart_tree G Φ Ψ Γ)
  | 32 => runFn 6 N_is_told_answer.length (d_is_told_answer G Φ Ψ Γ)
  | 33 => runFn 4 N_is_alike_tree.length (d_is_alike_tree G Φ Ψ Γ)
  | 34 => runFn 5 N_is_game_paper.length (d_is_game_paper G Φ Ψ Γ)
  | 35 => runFn 3 N_l_law_bent.length (d_l_law_bent G Φ Ψ Γ)
  | 36 => runFn 2 N_l_law_odd_paper.length (d_l_law_odd_paper G Φ Ψ Γ)
  | 37 => runFn 2 N_l_law_number.length (d_l_law_number G Φ Ψ Γ)
  | 38 => runFn 7 N_l_law_is_apart.length (d_l_law_is_apart G Φ Ψ Γ)
  | 39 => runFn 7 N_l_law_is_alike.length (d_l_law_is_alike G Φ Ψ Γ)
  | 40 => runFn 5 N_l_law_is_paper.length (d_l_law_is_paper G Φ Ψ Γ)
  | 41 => runFn 2 N_l_law_same.length (d_l_law_same G Φ Ψ Γ)
  | 42 => runFn 1 N_law.length (d_law G Φ Ψ Γ)
  | _ => fun _ _ => none
def sM (G : Gl) (Φ Ψ Γ : Nat → List D → M D) : Nat → List D → M D
  | 0 => runFn 3 N_Game_replies.length (d_Game_replies G Φ Ψ Γ)
  | 1 => runFn 3 N_Game_goes_with.length (d_Game_goes_with G Φ Ψ Γ)
  | 2 => runFn 3 N_Game_goes_on.length (d_Game_goes_on G Φ Ψ Γ)
  | _ => fun _ _ => none
def sC (G : Gl) (Φ Ψ Γ : Nat → List D → M D) : Nat → List D → M D
  | 0 => runFn 3 N_Table___init.length (d_Table___init G Φ Ψ Γ)
  | 1 => runFn 4 N_Game___init.length (d_Game___init G Φ Ψ Γ)
  | _ => fun _ _ => none
structure Tb where
  f : Nat → List D → M D
  m : Nat → List D → M D
  c : Nat → List D → M D
def tb (G : Gl) : Nat → Tb
  | 0 => ⟨fun _ _ _ => none, fun _ _ _ => none, fun _ _ _ => none⟩
  | k + 1 => ⟨sF G (tb G k).f (tb G k).m (tb G k).c, sM G (tb G k).f (tb G k).m (tb G k).c, sC G (tb G k).f (tb G k).m (tb G k).c⟩
section
variable {P : Program} {w : World} {K : PySem.W.Frag} {h : Heap} {mg : Str → Option Value} {base : Heap} {k : Nat} {Φ Ψ Γ : Nat → List D → M D}
theorem txt (KX : K.In h) (Gn : h.Ns mainGlobals mg) (c : SaysP hfa hfn permB K) : Txt (mkG P w K) mg := by
  refine ⟨fun c' f C hC hf => ?_, fun x hx => ?_, perm_ok KX Gn c.2⟩
  · simp only [mkG] at hC
    split at hC
    · cases hC
      simp only [mkG, attB, List.any_cons, List.any_nil, Bool.or_false, Bool.or_eq_true, Bool.and_eq_true, decide_eq_true_eq] at hf
      rcases hf with ⟨rfl, rfl⟩ | ⟨rfl, rfl⟩ | ⟨rfl, rfl⟩ | ⟨rfl, rfl⟩ | ⟨rfl, rfl⟩ | ⟨rfl, rfl⟩ | ⟨rfl, rfl⟩ | ⟨rfl, rfl⟩ | ⟨rfl, rfl⟩
      · exact ⟨He.cls_ok (c.1.fact 63 rfl), He.noat_ok (c.1.fact 65 rfl)⟩
      · exact ⟨He.cls_ok (c.1.fact 63 rfl), He.noat_ok (c.1.fact 66 rfl)⟩
      · exact ⟨He.cls_ok (c.1.fact 63 rfl), He.noat_ok (c.1.fact 67 rfl)⟩
      · exact ⟨He.cls_ok (c.1.fact 63 rfl), He.noat_ok (c.1.fact 68 rfl)⟩
      · exact ⟨He.cls_ok (c.1.fact 63 rfl), He.noat_ok (c.1.fact 69 rfl)⟩
      · exact ⟨He.cls_ok (c.1.fact 63 rfl), He.noat_ok (c.1.fact 70 rfl)⟩
      · exact ⟨He.cls_ok (c.1.fact 60 rfl), He.noat_ok (c.1.fact 71 rfl)⟩
      · exact ⟨He.cls_ok (c.1.fact 60 rfl), He.noat_ok (c.1.fact 72 rfl)⟩
      · exact ⟨He.cls_ok (c.1.fact 60 rfl), He.noat_ok (c.1.fact 73 rfl)⟩
    · cases hC
  · simp only [List.mem_cons, List.not_mem_nil, or_false] at hx
    rcases hx with rfl | rfl | rfl | rfl | rfl | rfl | rfl | rfl | rfl | rfl | rfl | rfl | rfl | rfl | rfl | rfl
    · exact He.free_ok KX Gn (c.1.fact 43 rfl)
    · exact He.free_ok KX Gn (c.1.fact 44 rfl)
    · exact He.free_ok KX Gn (c.1.fact 45 rfl)
    · exact He.free_ok KX Gn (c.1.fact 46 rfl)
    · exact He.free_ok KX Gn (c.1.fact 47 rfl)
    · exact He.free_ok KX Gn (c.1.fact 48 rfl)
    · exact He.free_ok KX Gn (c.1.fact 49 rfl)
    · exact He.free_ok KX Gn (c.1.fact 50 rfl)
    · exact He.free_ok KX Gn (c.1.fact 51 rfl)
    · exact He.free_ok KX Gn (c.1.fact 52 rfl)
    · exact He.free_ok KX Gn (c.1.fact 53 rfl)
    · exact He.free_ok KX Gn (c.1.fact 54 rfl)
    · exact He.free_ok KX Gn (c.1.fact 55 rfl)
    · exact He.free_ok KX Gn (c.1.fact 56 rfl)
    · exact He.free_ok KX Gn (c.1.fact 57 rfl)
    · exact He.free_ok KX Gn (c.1.fact 58 rfl)
theorem sc_l_law_source : FnScope N_l_law_source ["script"] (C8.fnScope (top 35)) := C8.fnScope_by (by kernel_rfl)
theorem fd_l_law_source (c : SaysP hfa hfn permB K) : ∃ fd, FunD K "_law_source" "_law_source" (C8.fnArgs (top 35)) (C8.fnBody (top 35)) (C8.fnScope (top 35)) [] [] (He.fAd K ("_law_source", none)) fd ∧ Binds K fd ["script"] [] := by
  obtain ⟨fd, F⟩ := c.1.def_ 0 (d := dd_l_law_source) rfl
  exact ⟨fd, F, FunD.bindsN (ps := ["script"]) F fun _ _ _ _ _ _ us hl => match us, hl with | [_], _ => by kernel_rfl⟩
theorem ok_l_law_source (T : Txt (mkG P w K) mg) (L : Lev (mkG P w K) mg base tfs tms tcs tkt Φ Ψ Γ k) {f : Addr} {fd : FuncData} (F : FunD K "_law_source" "_law_source" (C8.fnArgs (top 35)) (C8.fnBody (top 35)) (C8.fnScope (top 35)) [] [] f fd) : FnOk P w K mg base C8.CX0 (k + 4) f fd ["script"] (spOf (mkG P w K) 1 (runFn 1 N_l_law_source.length (d_l_law_source (mkG P w K) Φ Ψ Γ))) :=
  one_fn T L F sc_l_law_source rfl fun X E at_ fx hp => p_l_law_source at_ fx hp
theorem sc_l_law_draw : FnScope N_l_law_draw ["source", "many"] (C8.fnScope (top 36)) := C8.fnScope_by (by kernel_rfl)
theorem fd_l_law_draw (c : SaysP hfa hfn permB K) : ∃ fd, FunD K "_law_draw" "_law_draw" (C8.fnArgs (top 36)) (C8.fnBody (top 36)) (C8.fnScope (top 36)) [] [] (He.fAd K ("_law_draw", none)) fd ∧ Binds K fd ["source", "many"] [] := by
  obtain ⟨fd, F⟩ := c.1.def_ 1 (d := dd_l_law_draw) rfl
  exact ⟨fd, F, FunD.bindsN (ps := ["source", "many"]) F fun _ _ _ _ _ _ us hl => match us, hl with | [_, _], _ => by kernel_rfl⟩
theorem ok_l_law_draw (T : Txt (mkG P w K) mg) (L : Lev (mkG P w K) mg base tfs tms tcs tkt Φ Ψ Γ k) {f : Addr} {fd : FuncData} (F : FunD K "_law_draw" "_law_draw" (C8.fnArgs (top 36)) (C8.fnBody (top 36)) (C8.fnScope (top 36)) [] [] f fd) : FnOk P w K mg base C8.CX0 (k + 4) f fd ["source", "many"] (spOf (mkG P w K) 2 (runFn 2 N_l_law_draw.length (d_l_law_draw (mkG P w K) Φ Ψ Γ))) :=
  one_fn T L F sc_l_law_draw rfl fun X E at_ fx hp => p_l_law_draw at_ fx hp
theorem sc_l_law_turn : FnScope N_l_law_turn ["source", "ties"] (C8.fnScope (top 42)) := C8.fnScope_by (by kernel_rfl)
theorem fd_l_law_turn (c : SaysP hfa hfn permB K) : ∃ fd, FunD K "_law_turn" "_law_turn" (C8.fnArgs (top 42)) (C8.fnBody (top 42)) (C8.fnScope (top 42)) [] [] (He.fAd K ("_law_turn", none)) fd ∧ Binds K fd ["source", "ties"] [] := by
  obtain ⟨fd, F⟩ := c.1.def_ 2 (d := dd_l_law_turn) rfl
  exact ⟨fd, F, FunD.bindsN (ps := ["source", "ties"]) F fun _ _ _ _ _ _ us hl => match us, hl with | [_, _], _ => by kernel_rfl⟩
theorem ok_l_law_turn (T : Txt (mkG P w K) mg) (L : Lev (mkG P w K) mg base tfs tms tcs tkt Φ Ψ Γ k) {f : Addr} {fd : FuncData} (F : FunD K "_law_turn" "_law_turn" (C8.fnArgs (top 42)) (C8.fnBody (top 42)) (C8.fnScope (top 42)) [] [] f fd) : FnOk P w K mg base C8.CX0 (k + 4) f fd ["source", "ties"] (spOf (mkG P w K) 2 (runFn 2 N_l_law_turn.length (d_l_law_turn (mkG P w K) Φ Ψ Γ))) :=
  one_fn T L F sc_l_law_turn rfl fun X E at_ fx hp => p_l_law_turn at_ fx hp
theorem sc_is_sequence : FnScope N_is_sequence ["value"] (C8.fnScope (top 10)) := C8.fnScope_by (by kernel_rfl)
theorem fd_is_sequence (c : SaysP hfa hfn permB K) : ∃ fd, FunD K "is_sequence" "is_sequence" (C8.fnArgs (top 10)) (C8.fnBody (top 10)) (C8.fnScope (top 10)) [] [] (He.fAd K ("is_sequence", none)) fd ∧ Binds K fd ["value"] [] := by
  obtain ⟨fd, F⟩ := c.1.def_ 3 (d := dd_is_sequence) rfl
  exact ⟨fd, F, FunD.bindsN (ps := ["value"]) F fun _ _ _ _ _ _ us hl => match us, hl with | [_], _ => by kernel_rfl⟩
theorem ok_is_sequence (T : Txt (mkG P w K) mg) (L : Lev (mkG P w K) mg base tfs tms tcs tkt Φ Ψ Γ k) {f : Addr} {fd : FuncData} (F : FunD K "is_sequence" "is_sequence" (C8.fnArgs (top 10)) (C8.fnBody (top 10)) (C8.fnScope (top 10)) [] [] f fd) : FnOk P w K mg base C8.CX0 (k + 4) f fd ["value"] (spOf (mkG P w K) 1 (runFn 1 N_is_sequence.length (d_is_sequence (mkG P w K) Φ Ψ Γ))) :=
  one_fn T L F sc_is_sequence rfl fun X E at_ fx hp => p_is_sequence at_ fx hp
theorem sc_is_number : FnScope N_is_number ["value"] (C8.fnScope (top 8)) := C8.fnScope_by (by kernel_rfl)
theorem fd_is_number (c : SaysP hfa hfn permB K) : ∃ fd, FunD K "is_number" "is_number" (C8.fnArgs (top 8)) (C8.fnBody (top 8)) (C8.fnScope (top 8)) [] [] (He.fAd K ("is_number", none)) fd ∧ Binds K fd ["value"] [] := by
  obtain ⟨fd, F⟩ := c.1.def_ 4 (d := dd_is_number) rfl
  exact ⟨fd, F, FunD.bindsN (ps := ["value"]) F fun _ _ _ _ _ _ us hl => match us, hl with | [_], _ => by kernel_rfl⟩
theorem ok_is_number (T : Txt (mkG P w K) mg) (L : Lev (mkG P w K) mg base tfs tms tcs tkt Φ Ψ Γ k) {f : Addr} {fd : FuncData} (F : FunD K "is_number" "is_number" (C8.fnArgs (top 8)) (C8.fnBody (top 8)) (C8.fnScope (top 8)) [] [] f fd) : FnOk P w K mg base C8.CX0 (k + 4) f fd ["value"] (spOf (mkG P w K) 1 (runFn 1 N_is_number.length (d_is_number (mkG P w K) Φ Ψ Γ))) :=
  one_fn T L F sc_is_number rfl fun X E at_ fx hp => p_is_number at_ fx hp
theorem sc_is_below : FnScope N_is_below ["value", "limit"] (C8.fnScope (top 9)) := C8.fnScope_by (by kernel_rfl)
theorem fd_is_below (c : SaysP hfa hfn permB K) : ∃ fd, FunD K "is_below" "is_below" (C8.fnArgs (top 9)) (C8.fnBody (top 9)) (C8.fnScope (top 9)) [] [] (He.fAd K ("is_below", none)) fd ∧ Binds K fd ["value", "limit"] [] := by
  obtain ⟨fd, F⟩ := c.1.def_ 5 (d := dd_is_below) rfl
  exact ⟨fd, F, FunD.bindsN (ps := ["value", "limit"]) F fun _ _ _ _ _ _ us hl => match us, hl with | [_, _], _ => by kernel_rfl⟩
theorem ok_is_below (T : Txt (mkG P w K) mg) (L : Lev (mkG P w K) mg base tfs tms tcs tkt Φ Ψ Γ k) {f : Addr} {fd : FuncData} (F : FunD K "is_below" "is_below" (C8.fnArgs (top 9)) (C8.fnBody (top 9)) (C8.fnScope (top 9)) [] [] f fd) : FnOk P w K mg base C8.CX0 (k + 4) f fd ["value", "limit"] (spOf (mkG P w K) 2 (runFn 2 N_is_below.length (d_is_below (mkG P w K) Φ Ψ Γ))) :=
  one_fn T L F sc_is_below rfl fun X E at_ fx hp => p_is_below at_ fx hp
theorem sc_check_turn : FnScope N_check_turn ["turn"] (C8.fnScope (top 15)) := C8.fnScope_by (by kernel_rfl)
theorem fd_check_turn (c : SaysP hfa hfn permB K) : ∃ fd, FunD K "check_turn" "check_turn" (C8.fnArgs (top 15)) (C8.fnBody (top 15)) (C8.fnScope (top 15)) [] [] (He.fAd K ("check_turn", none)) fd ∧ Binds K fd ["turn"] [] := by
  obtain ⟨fd, F⟩ := c.1.def_ 6 (d := dd_check_turn) rfl
  exact ⟨fd, F, FunD.bindsN (ps := ["turn"]) F fun _ _ _ _ _ _ us hl => match us, hl with | [_], _ => by kernel_rfl⟩
theorem ok_check_turn (T : Txt (mkG P w K) mg) (L : Lev (mkG P w K) mg base tfs tms tcs tkt Φ Ψ Γ k) {f : Addr} {fd : FuncData} (F : FunD K "check_turn" "check_turn" (C8.fnArgs (top 15)) (C8.fnBody (top 15)) (C8.fnScope (top 15)) [] [] f fd) : FnOk P w K mg base C8.CX0 (k + 4) f fd ["turn"] (spOf (mkG P w K) 1 (runFn 1 N_check_turn.length (d_check_turn (mkG P w K) Φ Ψ Γ))) :=
  one_fn T L F sc_check_turn rfl fun X E at_ fx hp => p_check_turn at_ fx hp
theorem sc_is_row : FnScope N_is_row ["value", "points", "ties"] (C8.fnScope (top 11)) := C8.fnScope_by (by kernel_rfl)
theorem fd_is_row (c : SaysP hfa hfn permB K) : ∃ fd, FunD K "is_row" "is_row" (C8.fnArgs (top 11)) (C8.fnBody (top 11)) (C8.fnScope (top 11)) [] [] (He.fAd K ("is_row", none)) fd ∧ Binds K fd ["value", "points", "ties"] [] := by
  obtain ⟨fd, F⟩ := c.1.def_ 7 (d := dd_is_row) rfl
  exact ⟨fd, F, FunD.bindsN (ps := ["value", "points", "ties"]) F fun _ _ _ _ _ _ us hl => match us, hl with | [_, _, _], _ => by kernel_rfl⟩
theorem ok_is_row (T : Txt (mkG P w K) mg) (L : Lev (mkG P w K) mg base tfs tms tcs tkt Φ Ψ Γ k) {f : Addr} {fd : FuncData} (F : FunD K "is_row" "is_row" (C8.fnArgs (top 11)) (C8.fnBody (top 11)) (C8.fnScope (top 11)) [] [] f fd) : FnOk P w K mg base C8.CX0 (k + 4) f fd ["value", "points", "ties"] (spOf (mkG P w K) 3 (runFn 3 N_is_row.length (d_is_row (mkG P w K) Φ Ψ Γ))) :=
  one_fn T L F sc_is_row rfl fun X E at_ fx hp => p_is_row at_ fx hp
theorem sc_is_shape : FnScope N_is_shape ["value", "ties"] (C8.fnScope (top 12)) := C8.fnScope_by (by kernel_rfl)
theorem fd_is_shape (c : SaysP hfa hfn permB K) : ∃ fd, FunD K "is_shape" "is_shape" (C8.fnArgs (top 12)) (C8.fnBody (top 12)) (C8.fnScope (top 12)) [] [] (He.fAd K ("is_shape", none)) fd ∧ Binds K fd ["value", "ties"] [] := by
  obtain ⟨fd, F⟩ := c.1.def_ 8 (d := dd_is_shape) rfl
  exact ⟨fd, F, FunD.bindsN (ps := ["value", "ties"]) F fun _ _ _ _ _ _ us hl => match us, hl with | [_, _], _ => by kernel_rfl⟩
theorem ok_is_shape (T : Txt (mkG P w K) mg) (L : Lev (mkG P w K) mg base tfs tms tcs tkt Φ Ψ Γ k) {f : Addr} {fd : FuncData} (F : FunD K "is_shape" "is_shape" (C8.fnArgs (top 12)) (C8.fnBody (top 12)) (C8.fnScope (top 12)) [] [] f fd) : FnOk P w K mg base C8.CX0 (k + 4) f fd ["value", "ties"] (spOf (mkG P w K) 2 (runFn 2 N_is_shape.length (d_is_shape (mkG P w K) Φ Ψ Γ))) :=
  one_fn T L F sc_is_shape rfl fun X E at_ fx hp => p_is_shape at_ fx hp
theorem sc_check_bars : FnScope N_check_bars ["bars", "ties"] (C8.fnScope (top 31)) := C8.fnScope_by (by kernel_rfl)
theorem fd_check_bars (c : SaysP hfa hfn permB K) : ∃ fd, FunD K "check_bars" "check_bars" (C8.fnArgs (top 31)) (C8.fnBody (top 31)) (C8.fnScope (top 31)) [] [] (He.fAd K ("check_bars", none)) fd ∧ Binds K fd ["bars", "ties"] [] := by
  obtain ⟨fd, F⟩ := c.1.def_ 9 (d := dd_check_bars) rfl
  exact ⟨fd, F, FunD.bindsN (ps := ["bars", "ties"]) F fun _ _ _ _ _ _ us hl => match us, hl with | [_, _], _ => by kernel_rfl⟩
theorem ok_check_bars (T : Txt (mkG P w K) mg) (L : Lev (mkG P w K) mg base tfs tms tcs tkt Φ Ψ Γ k) {f : Addr} {fd : FuncData} (F : FunD K "check_bars" "check_bars" (C8.fnArgs (top 31)) (C8.fnBody (top 31)) (C8.fnScope (top 31)) [] [] f fd) : FnOk P w K mg base C8.CX0 (k + 4) f fd ["bars", "ties"] (spOf (mkG P w K) 2 (runFn 2 N_check_bars.length (d_check_bars (mkG P w K) Φ Ψ Γ))) :=
  one_fn T L F sc_check_bars rfl fun X E at_ fx hp => p_check_bars at_ fx hp
theorem sc_tie_in : FnScope N_tie_in ["turn", "picture", "start", "end"] (C8.fnScope (top 17)) := C8.fnScope_by (by kernel_rfl)
theorem fd_tie_in (c : SaysP hfa hfn permB K) : ∃ fd, FunD K "tie_in" "tie_in" (C8.fnArgs (top 17)) (C8.fnBody (top 17)) (C8.fnScope (top 17)) [] [] (He.fAd K ("tie_in", none)) fd ∧ Binds K fd ["turn", "picture", "start", "end"] [] := by
  obtain ⟨fd, F⟩ := c.1.def_ 10 (d := dd_tie_in) rfl
  exact ⟨fd, F, FunD.bindsN (ps := ["turn", "picture", "start", "end"]) F fun _ _ _ _ _ _ us hl => match us, hl with | [_, _, _, _], _ => by kernel_rfl⟩
theorem ok_tie_in (T : Txt (mkG P w K) mg) (L : Lev (mkG P w K) mg base tfs tms tcs tkt Φ Ψ Γ k) {f : Addr} {fd : FuncData} (F : FunD K "tie_in" "tie_in" (C8.fnArgs (top 17)) (C8.fnBody (top 17)) (C8.fnScope (top 17)) [] [] f fd) : FnOk P w K mg base C8.CX0 (k + 4) f fd ["turn", "picture", "start", "end"] (spOf (mkG P w K) 4 (runFn 4 N_tie_in.length (d_tie_in (mkG P w K) Φ Ψ Γ))) :=
  one_fn T L F sc_tie_in rfl fun X E at_ fx hp => p_tie_in at_ fx hp
theorem sc_least_shape : FnScope N_least_shape ["turn", "picture"] (C8.fnScope (top 21)) := C8.fnScope_by (by kernel_rfl)
theorem fd_least_shape (c : SaysP hfa hfn permB K) : ∃ fd, FunD K "least_shape" "least_shape" (C8.fnArgs (top 21)) (C8.fnBody (top 21)) (C8.fnScope (top 21)) [] [] (He.fAd K ("least_shape", none)) fd ∧ Binds K fd ["turn", "picture"] [] := by
  obtain ⟨fd, F⟩ := c.1.def_ 11 (d := dd_least_shape) rfl
  exact ⟨fd, F, FunD.bindsN (ps := ["turn", "picture"]) F fun _ _ _ _ _ _ us hl => match us, hl with | [_, _], _ => by kernel_rfl⟩
theorem ok_least_shape (T : Txt (mkG P w K) mg) (L : Lev (mkG P w K) mg base tfs tms tcs tkt Φ Ψ Γ k) {f : Addr} {fd : FuncData} (F : FunD K "least_shape" "least_shape" (C8.fnArgs (top 21)) (C8.fnBody (top 21)) (C8.fnScope (top 21)) [] [] f fd) : FnOk P w K mg base C8.CX0 (k + 4) f fd ["turn", "picture"] (spOf (mkG P w K) 2 (runFn 2 N_least_shape.length (d_least_shape (mkG P w K) Φ Ψ Γ))) :=
  one_fn T L F sc_least_shape rfl fun X E at_ fx hp => p_least_shape at_ fx hp
theorem sc_by_size : FnScope N_by_size ["picture"] (C8.fnScope (top 22)) := C8.fnScope_by (by kernel_rfl)
theorem fd_by_size (c : SaysP hfa hfn permB K) : ∃ fd, FunD K "by_size" "by_size" (C8.fnArgs (top 22)) (C8.fnBody (top 22)) (C8.fnScope (top 22)) [] [] (He.fAd K ("by_size", none)) fd ∧ Binds K fd ["picture"] [] := by
  obtain ⟨fd, F⟩ := c.1.def_ 12 (d := dd_by_size) rfl
  exact ⟨fd, F, FunD.bindsN (ps := ["picture"]) F fun _ _ _ _ _ _ us hl => match us, hl with | [_], _ => by kernel_rfl⟩
theorem ok_by_size (T : Txt (mkG P w K) mg) (L : Lev (mkG P w K) mg base tfs tms tcs tkt Φ Ψ Γ k) {f : Addr} {fd : FuncData} (F : FunD K "by_size" "by_size" (C8.fnArgs (top 22)) (C8.fnBody (top 22)) (C8.fnScope (top 22)) [] [] f fd) : FnOk P w K mg base C8.CX0 (k + 4) f fd ["picture"] (spOf (mkG P w K) 1 (runFn 1 N_by_size.length (d_by_size (mkG P w K) Φ Ψ Γ))) :=
  one_fn T L F sc_by_size rfl fun X E at_ fx hp => p_by_size at_ fx hp
theorem sc_flat : FnScope N_flat ["picture"] (C8.fnScope (top 20)) := C8.fnScope_by (by kernel_rfl)
theorem fd_flat (c : SaysP hfa hfn permB K) : ∃ fd, FunD K "flat" "flat" (C8.fnArgs (top 20)) (C8.fnBody (top 20)) (C8.fnScope (top 20)) [] [] (He.fAd K ("flat", none)) fd ∧ Binds K fd ["picture"] [] := by
  obtain ⟨fd, F⟩ := c.1.def_ 13 (d := dd_flat) rfl
  exact ⟨fd, F, FunD.bindsN (ps := ["picture"]) F fun _ _ _ _ _ _ us hl => match us, hl with | [_], _ => by kernel_rfl⟩
theorem ok_flat (T : Txt (mkG P w K) mg) (L : Lev (mkG P w K) mg base tfs tms tcs tkt Φ Ψ Γ k) {f : Addr} {fd : FuncData} (F : FunD K "flat" "flat" (C8.fnArgs (top 20)) (C8.fnBody (top 20)) (C8.fnScope (top 20)) [] [] f fd) : FnOk P w K mg base C8.CX0 (k + 4) f fd ["picture"] (spOf (mkG P w K) 1 (runFn 1 N_flat.length (d_flat (mkG P w K) Φ Ψ Γ))) :=
  one_fn T L F sc_flat rfl fun X E at_ fx hp => p_flat at_ fx hp
theorem sc_row_to : FnScope N_row_to ["turn", "picture", "places", "point"] (C8.fnScope (top 18)) := C8.fnScope_by (by kernel_rfl)
theorem fd_row_to (c : SaysP hfa hfn permB K) : ∃ fd, FunD K "row_to" "row_to" (C8.fnArgs (top 18)) (C8.fnBody (top 18)) (C8.fnScope (top 18)) [] [] (He.fAd K ("row_to", none)) fd ∧ Binds K fd ["turn", "picture", "places", "point"] [] := by
  obtain ⟨fd, F⟩ := c.1.def_ 14 (d := dd_row_to) rfl
  exact ⟨fd, F, FunD.bindsN (ps := ["turn", "picture", "places", "point"]) F fun _ _ _ _ _ _ us hl => match us, hl with | [_, _, _, _], _ => by kernel_rfl⟩
theorem ok_row_to (T : Txt (mkG P w K) mg) (L : Lev (mkG P w K) mg base tfs tms tcs tkt Φ Ψ Γ k) {f : Addr} {fd : FuncData} (F : FunD K "row_to" "row_to" (C8.fnArgs (top 18)) (C8.fnBody (top 18)) (C8.fnScope (top 18)) [] [] f fd) : FnOk P w K mg base C8.CX0 (k + 4) f fd ["turn", "picture", "places", "point"] (spOf (mkG P w K) 4 (runFn 4 N_row_to.length (d_row_to (mkG P w K) Φ Ψ Γ))) :=
  one_fn T L F sc_row_to rfl fun X E at_ fx hp => p_row_to at_ fx hp
theorem sc_cut : FnScope N_cut ["turn", "picture", "places"] (C8.fnScope (top 19)) := C8.fnScope_by (by kernel_rfl)
theorem fd_cut (c : SaysP hfa hfn permB K) : ∃ fd, FunD K "cut" "cut" (C8.fnArgs (top 19)) (C8.fnBody (top 19)) (C8.fnScope (top 19)) [] [] (He.fAd K ("cut", none)) fd ∧ Binds K fd ["turn", "picture", "places"] [] := by
  obtain ⟨fd, F⟩ := c.1.def_ 15 (d := dd_cut) rfl
  exact ⟨fd, F, FunD.bindsN (ps := ["turn", "picture", "places"]) F fun _ _ _ _ _ _ us hl => match us, hl with | [_, _, _], _ => by kernel_rfl⟩
theorem ok_cut (T : Txt (mkG P w K) mg) (L : Lev (mkG P w K) mg base tfs tms tcs tkt Φ Ψ Γ k) {f : Addr} {fd : FuncData} (F : FunD K "cut" "cut" (C8.fnArgs (top 19)) (C8.fnBody (top 19)) (C8.fnScope (top 19)) [] [] f fd) : FnOk P w K mg base C8.CX0 (k + 4) f fd ["turn", "picture", "places"] (spOf (mkG P w K) 3 (runFn 3 N_cut.length (d_cut (mkG P w K) Φ Ψ Γ))) :=
  one_fn T L F sc_cut rfl fun X E at_ fx hp => p_cut at_ fx hp
theorem sc_barred_orders : FnScope N_barred_orders ["turn", "bars"] (C8.fnScope (top 32)) := C8.fnScope_by (by kernel_rfl)
theorem fd_barred_orders (c : SaysP hfa hfn permB K) : ∃ fd, FunD K "barred_orders" "barred_orders" (C8.fnArgs (top 32)) (C8.fnBody (top 32)) (C8.fnScope (top 32)) [] [] (He.fAd K ("barred_orders", none)) fd ∧ Binds K fd ["turn", "bars"] [] := by
  obtain ⟨fd, F⟩ := c.1.def_ 16 (d := dd_barred_orders) rfl
  exact ⟨fd, F, FunD.bindsN (ps := ["turn", "bars"]) F fun _ _ _ _ _ _ us hl => match us, hl with | [_, _], _ => by kernel_rfl⟩
theorem ok_barred_orders (T : Txt (mkG P w K) mg) (L : Lev (mkG P w K) mg base tfs tms tcs tkt Φ Ψ Γ k) {f : Addr} {fd : FuncData} (F : FunD K "barred_orders" "barred_orders" (C8.fnArgs (top 32)) (C8.fnBody (top 32)) (C8.fnScope (top 32)) [] [] f fd) : FnOk P w K mg base C8.CX0 (k + 4) f fd ["turn", "bars"] (spOf (mkG P w K) 2 (runFn 2 N_barred_orders.length (d_barred_orders (mkG P w K) Φ Ψ Γ))) :=
  one_fn T L F sc_barred_orders rfl fun X E at_ fx hp => p_barred_orders at_ fx hp
theorem sc_l_law_picture : FnScope N_l_law_picture ["source", "ties", "points"] (C8.fnScope (top 43)) := C8.fnScope_by (by kernel_rfl)
theorem fd_l_law_picture (c : SaysP hfa hfn permB K) : ∃ fd, FunD K "_law_picture" "_law_picture" (C8.fnArgs (top 43)) (C8.fnBody (top 43)) (C8.fnScope (top 43)) [] [] (He.fAd K ("_law_picture", none)) fd ∧ Binds K fd ["source", "ties", "points"] [] := by
  obtain ⟨fd, F⟩ := c.1.def_ 17 (d := dd_l_law_picture) rfl
  exact ⟨fd, F, FunD.bindsN (ps := ["source", "ties", "points"]) F fun _ _ _ _ _ _ us hl => match us, hl with | [_, _, _], _ => by kernel_rfl⟩
theorem ok_l_law_picture (T : Txt (mkG P w K) mg) (L : Lev (mkG P w K) mg base tfs tms tcs tkt Φ Ψ Γ k) {f : Addr} {fd : FuncData} (F : FunD K "_law_picture" "_law_picture" (C8.fnArgs (top 43)) (C8.fnBody (top 43)) (C8.fnScope (top 43)) [] [] f fd) : FnOk P w K mg base C8.CX0 (k + 4) f fd ["source", "ties", "points"] (spOf (mkG P w K) 3 (runFn 3 N_l_law_picture.length (d_l_law_picture (mkG P w K) Φ Ψ Γ))) :=
  one_fn T L F sc_l_law_picture rfl fun X E at_ fx hp => p_l_law_picture at_ fx hp
theorem sc_l_law_orders : FnScope N_l_law_orders ["many"] (C8.fnScope (top 39)) := C8.fnScope_by (by kernel_rfl)
theorem fd_l_law_orders (c : SaysP hfa hfn permB K) : ∃ fd, FunD K "_law_orders" "_law_orders" (C8.fnArgs (top 39)) (C8.fnBody (top 39)) (C8.fnScope (top 39)) [] [] (He.fAd K ("_law_orders", none)) fd ∧ Binds K fd ["many"] [] := by
  obtain ⟨fd, F⟩ := c.1.def_ 18 (d := dd_l_law_orders) rfl
  exact ⟨fd, F, FunD.bindsN (ps := ["many"]) F fun _ _ _ _ _ _ us hl => match us, hl with | [_], _ => by kernel_rfl⟩
theorem ok_l_law_orders (T : Txt (mkG P w K) mg) (L : Lev (mkG P w K) mg base tfs tms tcs tkt Φ Ψ Γ k) {f : Addr} {fd : FuncData} (F : FunD K "_law_orders" "_law_orders" (C8.fnArgs (top 39)) (C8.fnBody (top 39)) (C8.fnScope (top 39)) [] [] f fd) : FnOk P w K mg base C8.CX0 (k + 4) f fd ["many"] (spOf (mkG P w K) 1 (runFn 1 N_l_law_orders.length (d_l_law_orders (mkG P w K) Φ Ψ Γ))) :=
  one_fn T L F sc_l_law_orders rfl fun X E at_ fx hp => p_l_law_orders at_ fx hp
theorem sc_l_law_tie : FnScope N_l_law_tie ["turn", "picture", "i", "j"] (C8.fnScope (top 40)) := C8.fnScope_by (by kernel_rfl)
theorem fd_l_law_tie (c : SaysP hfa hfn permB K) : ∃ fd, FunD K "_law_tie" "_law_tie" (C8.fnArgs (top 40)) (C8.fnBody (top 40)) (C8.fnScope (top 40)) [] [] (He.fAd K ("_law_tie", none)) fd ∧ Binds K fd ["turn", "picture", "i", "j"] [] := by
  obtain ⟨fd, F⟩ := c.1.def_ 19 (d := dd_l_law_tie) rfl
  exact ⟨fd, F, FunD.bindsN (ps := ["turn", "picture", "i", "j"]) F fun _ _ _ _ _ _ us hl => match us, hl with | [_, _, _, _], _ => by kernel_rfl⟩
theorem ok_l_law_tie (T : Txt (mkG P w K) mg) (L : Lev (mkG P w K) mg base tfs tms tcs tkt Φ Ψ Γ k) {f : Addr} {fd : FuncData} (F : FunD K "_law_tie" "_law_tie" (C8.fnArgs (top 40)) (C8.fnBody (top 40)) (C8.fnScope (top 40)) [] [] f fd) : FnOk P w K mg base C8.CX0 (k + 4) f fd ["turn", "picture", "i", "j"] (spOf (mkG P w K) 4 (runFn 4 N_l_law_tie.length (d_l_law_tie (mkG P w K) Φ Ψ Γ))) :=
  one_fn T L F sc_l_law_tie rfl fun X E at_ fx hp => p_l_law_tie at_ fx hp
theorem sc_l_law_piece : FnScope N_l_law_piece ["turn", "picture", "places"] (C8.fnScope (top 41)) := C8.fnScope_by (by kernel_rfl)
theorem fd_l_law_piece (c : SaysP hfa hfn permB K) : ∃ fd, FunD K "_law_piece" "_law_piece" (C8.fnArgs (top 41)) (C8.fnBody (top 41)) (C8.fnScope (top 41)) [] [] (He.fAd K ("_law_piece", none)) fd ∧ Binds K fd ["turn", "picture", "places"] [] := by
  obtain ⟨fd, F⟩ := c.1.def_ 20 (d := dd_l_law_piece) rfl
  exact ⟨fd, F, FunD.bindsN (ps := ["turn", "picture", "places"]) F fun _ _ _ _ _ _ us hl => match us, hl with | [_, _, _], _ => by kernel_rfl⟩
theorem ok_l_law_piece (T : Txt (mkG P w K) mg) (L : Lev (mkG P w K) mg base tfs tms tcs tkt Φ Ψ Γ k) {f : Addr} {fd : FuncData} (F : FunD K "_law_piece" "_law_piece" (C8.fnArgs (top 41)) (C8.fnBody (top 41)) (C8.fnScope (top 41)) [] [] f fd) : FnOk P w K mg base C8.CX0 (k + 4) f fd ["turn", "picture", "places"] (spOf (mkG P w K) 3 (runFn 3 N_l_law_piece.length (d_l_law_piece (mkG P w K) Φ Ψ Γ))) :=
  one_fn T L F sc_l_law_piece rfl fun X E at_ fx hp => p_l_law_piece at_ fx hp
theorem sc_l_law_shown : FnScope N_l_law_shown ["source", "ties", "turn"] (C8.fnScope (top 53)) := C8.fnScope_by (by kernel_rfl)
theorem fd_l_law_shown (c : SaysP hfa hfn permB K) : ∃ fd, FunD K "_law_shown" "_law_shown" (C8.fnArgs (top 53)) (C8.fnBody (top 53)) (C8.fnScope (top 53)) [] [] (He.fAd K ("_law_shown", none)) fd ∧ Binds K fd ["source", "ties", "turn"] [] := by
  obtain ⟨fd, F⟩ := c.1.def_ 21 (d := dd_l_law_shown) rfl
  exact ⟨fd, F, FunD.bindsN (ps := ["source", "ties", "turn"]) F fun _ _ _ _ _ _ us hl => match us, hl with | [_, _, _], _ => by kernel_rfl⟩
theorem ok_l_law_shown (T : Txt (mkG P w K) mg) (L : Lev (mkG P w K) mg base tfs tms tcs tkt Φ Ψ Γ k) {f : Addr} {fd : FuncData} (F : FunD K "_law_shown" "_law_shown" (C8.fnArgs (top 53)) (C8.fnBody (top 53)) (C8.fnScope (top 53)) [] [] f fd) : FnOk P w K mg base C8.CX0 (k + 4) f fd ["source", "ties", "turn"] (spOf (mkG P w K) 3 (runFn 3 N_l_law_shown.length (d_l_law_shown (mkG P w K) Φ Ψ Γ))) :=
  one_fn T L F sc_l_law_shown rfl fun X E at_ fx hp => p_l_law_shown at_ fx hp
theorem sc_l_law_sort : FnScope N_l_law_sort ["turn", "picture", "points", "rounds"] (C8.fnScope (top 44)) := C8.fnScope_by (by kernel_rfl)
theorem fd_l_law_sort (c : SaysP hfa hfn permB K) : ∃ fd, FunD K "_law_sort" "_law_sort" (C8.fnArgs (top 44)) (C8.fnBody (top 44)) (C8.fnScope (top 44)) [] [] (He.fAd K ("_law_sort", none)) fd ∧ Binds K fd ["turn", "picture", "points", "rounds"] [] := by
  obtain ⟨fd, F⟩ := c.1.def_ 22 (d := dd_l_law_sort) rfl
  exact ⟨fd, F, FunD.bindsN (ps := ["turn", "picture", "points", "rounds"]) F fun _ _ _ _ _ _ us hl => match us, hl with | [_, _, _, _], _ => by kernel_rfl⟩
theorem ok_l_law_sort (T : Txt (mkG P w K) mg) (L : Lev (mkG P w K) mg base tfs tms tcs tkt Φ Ψ Γ k) {f : Addr} {fd : FuncData} (F : FunD K "_law_sort" "_law_sort" (C8.fnArgs (top 44)) (C8.fnBody (top 44)) (C8.fnScope (top 44)) [] [] f fd) : FnOk P w K mg base C8.CX0 (k + 4) f fd ["turn", "picture", "points", "rounds"] (spOf (mkG P w K) 4 (runFn 4 N_l_law_sort.length (d_l_law_sort (mkG P w K) Φ Ψ Γ))) :=
  one_fn T L F sc_l_law_sort rfl fun X E at_ fx hp => p_l_law_sort at_ fx hp
theorem sc_l_law_alike : FnScope N_l_law_alike ["turn", "one", "other", "ones", "others", "rounds"] (C8.fnScope (top 45)) := C8.fnScope_by (by kernel_rfl)
theorem fd_l_law_alike (c : SaysP hfa hfn permB K) : ∃ fd, FunD K "_law_alike" "_law_alike" (C8.fnArgs (top 45)) (C8.fnBody (top 45)) (C8.fnScope (top 45)) [] [] (He.fAd K ("_law_alike", none)) fd ∧ Binds K fd ["turn", "one", "other", "ones", "others", "rounds"] [] := by
  obtain ⟨fd, F⟩ := c.1.def_ 23 (d := dd_l_law_alike) rfl
  exact ⟨fd, F, FunD.bindsN (ps := ["turn", "one", "other", "ones", "others", "rounds"]) F fun _ _ _ _ _ _ us hl => match us, hl with | [_, _, _, _, _, _], _ => by kernel_rfl⟩
theorem ok_l_law_alike (T : Txt (mkG P w K) mg) (L : Lev (mkG P w K) mg base tfs tms tcs tkt Φ Ψ Γ k) {f : Addr} {fd : FuncData} (F : FunD K "_law_alike" "_law_alike" (C8.fnArgs (top 45)) (C8.fnBody (top 45)) (C8.fnScope (top 45)) [] [] f fd) : FnOk P w K mg base C8.CX0 (k + 4) f fd ["turn", "one", "other", "ones", "others", "rounds"] (spOf (mkG P w K) 6 (runFn 6 N_l_law_alike.length (d_l_law_alike (mkG P w K) Φ Ψ Γ))) :=
  one_fn T L F sc_l_law_alike rfl fun X E at_ fx hp => p_l_law_alike at_ fx hp
theorem sc_l_law_answers : FnScope N_l_law_answers ["source", "turn", "one", "other", "ones", "others", "rounds"] (C8.fnScope (top 51)) := C8.fnScope_by (by kernel_rfl)
theorem fd_l_law_answers (c : SaysP hfa hfn permB K) : ∃ fd, FunD K "_law_answers" "_law_answers" (C8.fnArgs (top 51)) (C8.fnBody (top 51)) (C8.fnScope (top 51)) [] [] (He.fAd K ("_law_answers", none)) fd ∧ Binds K fd ["source", "turn", "one", "other", "ones", "others", "rounds"] [] := by
  obtain ⟨fd, F⟩ := c.1.def_ 24 (d := dd_l_law_answers) rfl
  exact ⟨fd, F, FunD.bindsN (ps := ["source", "turn", "one", "other", "ones", "others", "rounds"]) F fun _ _ _ _ _ _ us hl => match us, hl with | [_, _, _, _, _, _, _], _ => by kernel_rfl⟩
theorem ok_l_law_answers (T : Txt (mkG P w K) mg) (L : Lev (mkG P w K) mg base tfs tms tcs tkt Φ Ψ Γ k) {f : Addr} {fd : FuncData} (F : FunD K "_law_answers" "_law_answers" (C8.fnArgs (top 51)) (C8.fnBody (top 51)) (C8.fnScope (top 51)) [] [] f fd) : FnOk P w K mg base C8.CX0 (k + 4) f fd ["source", "turn", "one", "other", "ones", "others", "rounds"] (spOf (mkG P w K) 7 (runFn 7 N_l_law_answers.length (d_l_law_answers (mkG P w K) Φ Ψ Γ))) :=
  one_fn T L F sc_l_law_answers rfl fun X E at_ fx hp => p_l_law_answers at_ fx hp
theorem sc_l_law_as_told : FnScope N_l_law_as_told ["turn", "one", "other", "ones", "others"] (C8.fnScope (top 46)) := C8.fnScope_by (by kernel_rfl)
theorem fd_l_law_as_told (c : SaysP hfa hfn permB K) : ∃ fd, FunD K "_law_as_told" "_law_as_told" (C8.fnArgs (top 46)) (C8.fnBody (top 46)) (C8.fnScope (top 46)) [] [] (He.fAd K ("_law_as_told", none)) fd ∧ Binds K fd ["turn", "one", "other", "ones", "others"] [] := by
  obtain ⟨fd, F⟩ := c.1.def_ 25 (d := dd_l_law_as_told) rfl
  exact ⟨fd, F, FunD.bindsN (ps := ["turn", "one", "other", "ones", "others"]) F fun _ _ _ _ _ _ us hl => match us, hl with | [_, _, _, _, _], _ => by kernel_rfl⟩
theorem ok_l_law_as_told (T : Txt (mkG P w K) mg) (L : Lev (mkG P w K) mg base tfs tms tcs tkt Φ Ψ Γ k) {f : Addr} {fd : FuncData} (F : FunD K "_law_as_told" "_law_as_told" (C8.fnArgs (top 46)) (C8.fnBody (top 46)) (C8.fnScope (top 46)) [] [] f fd) : FnOk P w K mg base C8.CX0 (k + 4) f fd ["turn", "one", "other", "ones", "others"] (spOf (mkG P w K) 5 (runFn 5 N_l_law_as_told.length (d_l_law_as_told (mkG P w K) Φ Ψ Γ))) :=
  one_fn T L F sc_l_law_as_told rfl fun X E at_ fx hp => p_l_law_as_told at_ fx hp
theorem sc_l_law_apart : FnScope N_l_law_apart ["source", "turn", "one", "other", "ones", "others", "rounds"] (C8.fnScope (top 50)) := C8.fnScope_by (by kernel_rfl)
theorem fd_l_law_apart (c : SaysP hfa hfn permB K) : ∃ fd, FunD K "_law_apart" "_law_apart" (C8.fnArgs (top 50)) (C8.fnBody (top 50)) (C8.fnScope (top 50)) [] [] (He.fAd K ("_law_apart", none)) fd ∧ Binds K fd ["source", "turn", "one", "other", "ones", "others", "rounds"] [] := by
  obtain ⟨fd, F⟩ := c.1.def_ 26 (d := dd_l_law_apart) rfl
  exact ⟨fd, F, FunD.bindsN (ps := ["source", "turn", "one", "other", "ones", "others", "rounds"]) F fun _ _ _ _ _ _ us hl => match us, hl with | [_, _, _, _, _, _, _], _ => by kernel_rfl⟩
theorem ok_l_law_apart (T : Txt (mkG P w K) mg) (L : Lev (mkG P w K) mg base tfs tms tcs tkt Φ Ψ Γ k) {f : Addr} {fd : FuncData} (F : FunD K "_law_apart" "_law_apart" (C8.fnArgs (top 50)) (C8.fnBody (top 50)) (C8.fnScope (top 50)) [] [] f fd) : FnOk P w K mg base C8.CX0 (k + 4) f fd ["source", "turn", "one", "other", "ones", "others", "rounds"] (spOf (mkG P w K) 7 (runFn 7 N_l_law_apart.length (d_l_law_apart (mkG P w K) Φ Ψ Γ))) :=
  one_fn T L F sc_l_law_apart rfl fun X E at_ fx hp => p_l_law_apart at_ fx hp
theorem sc_l_law_paper : FnScope N_l_law_paper ["source", "turn", "one", "other", "rounds"] (C8.fnScope (top 52)) := C8.fnScope_by (by kernel_rfl)
theorem fd_l_law_paper (c : SaysP hfa hfn permB K) : ∃ fd, FunD K "_law_paper" "_law_paper" (C8.fnArgs (top 52)) (C8.fnBody (top 52)) (C8.fnScope (top 52)) [] [] (He.fAd K ("_law_paper", none)) fd ∧ Binds K fd ["source", "turn", "one", "other", "rounds"] [] := by
  obtain ⟨fd, F⟩ := c.1.def_ 27 (d := dd_l_law_paper) rfl
  exact ⟨fd, F, FunD.bindsN (ps := ["source", "turn", "one", "other", "rounds"]) F fun _ _ _ _ _ _ us hl => match us, hl with | [_, _, _, _, _], _ => by kernel_rfl⟩
theorem ok_l_law_paper (T : Txt (mkG P w K) mg) (L : Lev (mkG P w K) mg base tfs tms tcs tkt Φ Ψ Γ k) {f : Addr} {fd : FuncData} (F : FunD K "_law_paper" "_law_paper" (C8.fnArgs (top 52)) (C8.fnBody (top 52)) (C8.fnScope (top 52)) [] [] f fd) : FnOk P w K mg base C8.CX0 (k + 4) f fd ["source", "turn", "one", "other", "rounds"] (spOf (mkG P w K) 5 (runFn 5 N_l_law_paper.length (d_l_law_paper (mkG P w K) Φ Ψ Γ))) :=
  one_fn T L F sc_l_law_paper rfl fun X E at_ fx hp => p_l_law_paper at_ fx hp
theorem sc_check_picture : FnScope N_check_picture ["table", "picture"] (C8.fnScope (top 14)) := C8.fnScope_by (by kernel_rfl)
theorem fd_check_picture (c : SaysP hfa hfn permB K) : ∃ fd, FunD K "check_picture" "check_picture" (C8.fnArgs (top 14)) (C8.fnBody (top 14)) (C8.fnScope (top 14)) [] [] (He.fAd K ("check_picture", none)) fd ∧ Binds K fd ["table", "picture"] [] := by
  obtain ⟨fd, F⟩ := c.1.def_ 28 (d := dd_check_picture) rfl
  exact ⟨fd, F, FunD.bindsN (ps := ["table", "picture"]) F fun _ _ _ _ _ _ us hl => match us, hl with | [_, _], _ => by kernel_rfl⟩
theorem ok_check_picture (T : Txt (mkG P w K) mg) (L : Lev (mkG P w K) mg base tfs tms tcs tkt Φ Ψ Γ k) {f : Addr} {fd : FuncData} (F : FunD K "check_picture" "check_picture" (C8.fnArgs (top 14)) (C8.fnBody (top 14)) (C8.fnScope (top 14)) [] [] f fd) : FnOk P w K mg base C8.CX0 (k + 4) f fd ["table", "picture"] (spOf (mkG P w K) 2 (runFn 2 N_check_picture.length (d_check_picture (mkG P w K) Φ Ψ Γ))) :=
  one_fn T L F sc_check_picture rfl fun X E at_ fx hp => p_check_picture at_ fx hp
theorem sc_check_number : FnScope N_check_number ["value"] (C8.fnScope (top 13)) := C8.fnScope_by (by kernel_rfl)
theorem fd_check_number (c : SaysP hfa hfn permB K) : ∃ fd, FunD K "check_number" "check_number" (C8.fnArgs (top 13)) (C8.fnBody (top 13)) (C8.fnScope (top 13)) [] [] (He.fAd K ("check_number", none)) fd ∧ Binds K fd ["value"] [] := by
  obtain ⟨fd, F⟩ := c.1.def_ 29 (d := dd_check_number) rfl
  exact ⟨fd, F, FunD.bindsN (ps := ["value"]) F fun _ _ _ _ _ _ us hl => match us, hl with | [_], _ => by kernel_rfl⟩
theorem ok_check_number (T : Txt (mkG P w K) mg) (L : Lev (mkG P w K) mg base tfs tms tcs tkt Φ Ψ Γ k) {f : Addr} {fd : FuncData} (F : FunD K "check_number" "check_number" (C8.fnArgs (top 13)) (C8.fnBody (top 13)) (C8.fnScope (top 13)) [] [] f fd) : FnOk P w K mg base C8.CX0 (k + 4) f fd ["value"] (spOf (mkG P w K) 1 (runFn 1 N_check_number.length (d_check_number (mkG P w K) Φ Ψ Γ))) :=
  one_fn T L F sc_check_number rfl fun X E at_ fx hp => p_check_number at_ fx hp
theorem sc_game_on : FnScope N_game_on ["table", "one", "other", "rounds"] (C8.fnScope (top 25)) := C8.fnScope_by (by kernel_rfl)
theorem fd_game_on (c : SaysP hfa hfn permB K) : ∃ fd, FunD K "game_on" "game_on" (C8.fnArgs (top 25)) (C8.fnBody (top 25)) (C8.fnScope (top 25)) [] [] (He.fAd K ("game_on", none)) fd ∧ Binds K fd ["table", "one", "other", "rounds"] [] := by
  obtain ⟨fd, F⟩ := c.1.def_ 30 (d := dd_game_on) rfl
  exact ⟨fd, F, FunD.bindsN (ps := ["table", "one", "other", "rounds"]) F fun _ _ _ _ _ _ us hl => match us, hl with | [_, _, _, _], _ => by kernel_rfl⟩
theorem ok_game_on (T : Txt (mkG P w K) mg) (L : Lev (mkG P w K) mg base tfs tms tcs tkt Φ Ψ Γ k) {f : Addr} {fd : FuncData} (F : FunD K "game_on" "game_on" (C8.fnArgs (top 25)) (C8.fnBody (top 25)) (C8.fnScope (top 25)) [] [] f fd) : FnOk P w K mg base C8.CX0 (k + 4) f fd ["table", "one", "other", "rounds"] (spOf (mkG P w K) 4 (runFn 4 N_game_on.length (d_game_on (mkG P w K) Φ Ψ Γ))) :=
  one_fn T L F sc_game_on rfl fun X E at_ fx hp => p_game_on at_ fx hp
theorem sc_is_apart_tree : FnScope N_is_apart_tree ["game", "position", "rounds", "value"] (C8.fnScope (top 26)) := C8.fnScope_by (by kernel_rfl)
theorem fd_is_apart_tree (c : SaysP hfa hfn permB K) : ∃ fd, FunD K "is_apart_tree" "is_apart_tree" (C8.fnArgs (top 26)) (C8.fnBody (top 26)) (C8.fnScope (top 26)) [] [] (He.fAd K ("is_apart_tree", none)) fd ∧ Binds K fd ["game", "position", "rounds", "value"] [] := by
  obtain ⟨fd, F⟩ := c.1.def_ 31 (d := dd_is_apart_tree) rfl
  exact ⟨fd, F, FunD.bindsN (ps := ["game", "position", "rounds", "value"]) F fun _ _ _ _ _ _ us hl => match us, hl with | [_, _, _, _], _ => by kernel_rfl⟩
theorem ok_is_apart_tree (T : Txt (mkG P w K) mg) (L : Lev (mkG P w K) mg base tfs tms tcs tkt Φ Ψ Γ k) {f : Addr} {fd : FuncData} (F : FunD K "is_apart_tree" "is_apart_tree" (C8.fnArgs (top 26)) (C8.fnBody (top 26)) (C8.fnScope (top 26)) [] [] f fd) : FnOk P w K mg base C8.CX0 (k + 4) f fd ["game", "position", "rounds", "value"] (spOf (mkG P w K) 4 (runFn 4 N_is_apart_tree.length (d_is_apart_tree (mkG P w K) Φ Ψ Γ))) :=
  one_fn T L F sc_is_apart_tree rfl fun X E at_ fx hp => p_is_apart_tree at_ fx hp
theorem sc_is_told_answer : FnScope N_is_told_answer ["game", "position", "rounds", "side", "point", "value"] (C8.fnScope (top 27)) := C8.fnScope_by (by kernel_rfl)
theorem fd_is_told_answer (c : SaysP hfa hfn permB K) : ∃ fd, FunD K "is_told_answer" "is_told_answer" (C8.fnArgs (top 27)) (C8.fnBody (top 27)) (C8.fnScope (top 27)) [] [] (He.fAd K ("is_told_answer", none)) fd ∧ Binds K fd ["game", "position", "rounds", "side", "point", "value"] [] := by
  obtain ⟨fd, F⟩ := c.1.def_ 32 (d := dd_is_told_answer) rfl
  exact ⟨fd, F, FunD.bindsN (ps := ["game", "position", "rounds", "side", "point", "value"]) F fun _ _ _ _ _ _ us hl => match us, hl with | [_, _, _, _, _, _], _ => by kernel_rfl⟩
theorem ok_is_told_answer (T : Txt (mkG P w K) mg) (L : Lev (mkG P w K) mg base tfs tms tcs tkt Φ Ψ Γ k) {f : Addr} {fd : FuncData} (F : FunD K "is_told_answer" "is_told_answer" (C8.fnArgs (top 27)) (C8.fnBody (top 27)) (C8.fnScope (top 27)) [] [] f fd) : FnOk P w K mg base C8.CX0 (k + 4) f fd ["game", "position", "rounds", "side", "point", "value"] (spOf (mkG P w K) 6 (runFn 6 N_is_told_answer.length (d_is_told_answer (mkG P w K) Φ Ψ Γ))) :=
  one_fn T L F sc_is_told_answer rfl fun X E at_ fx hp => p_is_told_answer at_ fx hp
theorem sc_is_alike_tree : FnScope N_is_alike_tree ["game", "position", "rounds", "value"] (C8.fnScope (top 28)) := C8.fnScope_by (by kernel_rfl)
theorem fd_is_alike_tree (c : SaysP hfa hfn permB K) : ∃ fd, FunD K "is_alike_tree" "is_alike_tree" (C8.fnArgs (top 28)) (C8.fnBody (top 28)) (C8.fnScope (top 28)) [] [] (He.fAd K ("is_alike_tree", none)) fd ∧ Binds K fd ["game", "position", "rounds", "value"] [] := by
  obtain ⟨fd, F⟩ := c.1.def_ 33 (d := dd_is_alike_tree) rfl
  exact ⟨fd, F, FunD.bindsN (ps := ["game", "position", "rounds", "value"]) F fun _ _ _ _ _ _ us hl => match us, hl with | [_, _, _, _], _ => by kernel_rfl⟩
theorem ok_is_alike_tree (T : Txt (mkG P w K) mg) (L : Lev (mkG P w K) mg base tfs tms tcs tkt Φ Ψ Γ k) {f : Addr} {fd : FuncData} (F : FunD K "is_alike_tree" "is_alike_tree" (C8.fnArgs (top 28)) (C8.fnBody (top 28)) (C8.fnScope (top 28)) [] [] f fd) : FnOk P w K mg base C8.CX0 (k + 4) f fd ["game", "position", "rounds", "value"] (spOf (mkG P w K) 4 (runFn 4 N_is_alike_tree.length (d_is_alike_tree (mkG P w K) Φ Ψ Γ))) :=
  one_fn T L F sc_is_alike_tree rfl fun X E at_ fx hp => p_is_alike_tree at_ fx hp
theorem sc_is_game_paper : FnScope N_is_game_paper ["table", "one", "other", "rounds", "value"] (C8.fnScope (top 29)) := C8.fnScope_by (by kernel_rfl)
theorem fd_is_game_paper (c : SaysP hfa hfn permB K) : ∃ fd, FunD K "is_game_paper" "is_game_paper" (C8.fnArgs (top 29)) (C8.fnBody (top 29)) (C8.fnScope (top 29)) [] [] (He.fAd K ("is_game_paper", none)) fd ∧ Binds K fd ["table", "one", "other", "rounds", "value"] [] := by
  obtain ⟨fd, F⟩ := c.1.def_ 34 (d := dd_is_game_paper) rfl
  exact ⟨fd, F, FunD.bindsN (ps := ["table", "one", "other", "rounds", "value"]) F fun _ _ _ _ _ _ us hl => match us, hl with | [_, _, _, _, _], _ => by kernel_rfl⟩
theorem ok_is_game_paper (T : Txt (mkG P w K) mg) (L : Lev (mkG P w K) mg base tfs tms tcs tkt Φ Ψ Γ k) {f : Addr} {fd : FuncData} (F : FunD K "is_game_paper" "is_game_paper" (C8.fnArgs (top 29)) (C8.fnBody (top 29)) (C8.fnScope (top 29)) [] [] f fd) : FnOk P w K mg base C8.CX0 (k + 4) f fd ["table", "one", "other", "rounds", "value"] (spOf (mkG P w K) 5 (runFn 5 N_is_game_paper.length (d_is_game_paper (mkG P w K) Φ Ψ Γ))) :=
  one_fn T L F sc_is_game_paper rfl fun X E at_ fx hp => p_is_game_paper at_ fx hp
theorem sc_l_law_bent : FnScope N_l_law_bent ["source", "value", "menu"] (C8.fnScope (top 54)) := C8.fnScope_by (by kernel_rfl)
theorem fd_l_law_bent (c : SaysP hfa hfn permB K) : ∃ fd, FunD K "_law_bent" "_law_bent" (C8.fnArgs (top 54)) (C8.fnBody (top 54)) (C8.fnScope (top 54)) [] [] (He.fAd K ("_law_bent", none)) fd ∧ Binds K fd ["source", "value", "menu"] [] := by
  obtain ⟨fd, F⟩ := c.1.def_ 35 (d := dd_l_law_bent) rfl
  exact ⟨fd, F, FunD.bindsN (ps := ["source", "value", "menu"]) F fun _ _ _ _ _ _ us hl => match us, hl with | [_, _, _], _ => by kernel_rfl⟩
theorem ok_l_law_bent (T : Txt (mkG P w K) mg) (L : Lev (mkG P w K) mg base tfs tms tcs tkt Φ Ψ Γ k) {f : Addr} {fd : FuncData} (F : FunD K "_law_bent" "_law_bent" (C8.fnArgs (top 54)) (C8.fnBody (top 54)) (C8.fnScope (top 54)) [] [] f fd) : FnOk P w K mg base C8.CX0 (k + 4) f fd ["source", "value", "menu"] (spOf (mkG P w K) 3 (runFn 3 N_l_law_bent.length (d_l_law_bent (mkG P w K) Φ Ψ Γ))) :=
  one_fn T L F sc_l_law_bent rfl fun X E at_ fx hp => p_l_law_bent at_ fx hp
theorem sc_l_law_odd_paper : FnScope N_l_law_odd_paper ["source", "rounds"] (C8.fnScope (top 55)) := C8.fnScope_by (by kernel_rfl)
theorem fd_l_law_odd_paper (c : SaysP hfa hfn permB K) : ∃ fd, FunD K "_law_odd_paper" "_law_odd_paper" (C8.fnArgs (top 55)) (C8.fnBody (top 55)) (C8.fnScope (top 55)) [] [] (He.fAd K ("_law_odd_paper", none)) fd ∧ Binds K fd ["source", "rounds"] [] := by
  obtain ⟨fd, F⟩ := c.1.def_ 36 (d := dd_l_law_odd_paper) rfl
  exact ⟨fd, F, FunD.bindsN (ps := ["source", "rounds"]) F fun _ _ _ _ _ _ us hl => match us, hl with | [_, _], _ => by kernel_rfl⟩
theorem ok_l_law_odd_paper (T : Txt (mkG P w K) mg) (L : Lev (mkG P w K) mg base tfs tms tcs tkt Φ Ψ Γ k) {f : Addr} {fd : FuncData} (F : FunD K "_law_odd_paper" "_law_odd_paper" (C8.fnArgs (top 55)) (C8.fnBody (top 55)) (C8.fnScope (top 55)) [] [] f fd) : FnOk P w K mg base C8.CX0 (k + 4) f fd ["source", "rounds"] (spOf (mkG P w K) 2 (runFn 2 N_l_law_odd_paper.length (d_l_law_odd_paper (mkG P w K) Φ Ψ Γ))) :=
  one_fn T L F sc_l_law_odd_paper rfl fun X E at_ fx hp => p_l_law_odd_paper at_ fx hp
theorem sc_l_law_number : FnScope N_l_law_number ["value", "below"] (C8.fnScope (top 38)) := C8.fnScope_by (by kernel_rfl)
theorem fd_l_law_number (c : SaysP hfa hfn permB K) : ∃ fd, FunD K "_law_number" "_law_number" (C8.fnArgs (top 38)) (C8.fnBody (top 38)) (C8.fnScope (top 38)) [] [] (He.fAd K ("_law_number", none)) fd ∧ Binds K fd ["value", "below"] [] := by
  obtain ⟨fd, F⟩ := c.1.def_ 37 (d := dd_l_law_number) rfl
  exact ⟨fd, F, FunD.bindsN (ps := ["value", "below"]) F fun _ _ _ _ _ _ us hl => match us, hl with | [_, _], _ => by kernel_rfl⟩
theorem ok_l_law_number (T : Txt (mkG P w K) mg) (L : Lev (mkG P w K) mg base tfs tms tcs tkt Φ Ψ Γ k) {f : Addr} {fd : FuncData} (F : FunD K "_law_number" "_law_number" (C8.fnArgs (top 38)) (C8.fnBody (top 38)) (C8.fnScope (top 38)) [] [] f fd) : FnOk P w K mg base C8.CX0 (k + 4) f fd ["value", "below"] (spOf (mkG P w K) 2 (runFn 2 N_l_law_number.length (d_l_law_number (mkG P w K) Φ Ψ Γ))) :=
  one_fn T L F sc_l_law_number rfl fun X E at_ fx hp => p_l_law_number at_ fx hp
theorem sc_l_law_is_apart : FnScope N_l_law_is_apart ["turn", "one", "other", "ones", "others", "rounds", "value"] (C8.fnScope (top 47)) := C8.fnScope_by (by kernel_rfl)
theorem fd_l_law_is_apart (c : SaysP hfa hfn permB K) : ∃ fd, FunD K "_law_is_apart" "_law_is_apart" (C8.fnArgs (top 47)) (C8.fnBody (top 47)) (C8.fnScope (top 47)) [] [] (He.fAd K ("_law_is_apart", none)) fd ∧ Binds K fd ["turn", "one", "other", "ones", "others", "rounds", "value"] [] := by
  obtain ⟨fd, F⟩ := c.1.def_ 38 (d := dd_l_law_is_apart) rfl
  exact ⟨fd, F, FunD.bindsN (ps := ["turn", "one", "other", "ones", "others", "rounds", "value"]) F fun _ _ _ _ _ _ us hl => match us, hl with | [_, _, _, _, _, _, _], _ => by kernel_rfl⟩
theorem ok_l_law_is_apart (T : Txt (mkG P w K) mg) (L : Lev (mkG P w K) mg base tfs tms tcs tkt Φ Ψ Γ k) {f : Addr} {fd : FuncData} (F : FunD K "_law_is_apart" "_law_is_apart" (C8.fnArgs (top 47)) (C8.fnBody (top 47)) (C8.fnScope (top 47)) [] [] f fd) : FnOk P w K mg base C8.CX0 (k + 4) f fd ["turn", "one", "other", "ones", "others", "rounds", "value"] (spOf (mkG P w K) 7 (runFn 7 N_l_law_is_apart.length (d_l_law_is_apart (mkG P w K) Φ Ψ Γ))) :=
  one_fn T L F sc_l_law_is_apart rfl fun X E at_ fx hp => p_l_law_is_apart at_ fx hp
theorem sc_l_law_is_alike : FnScope N_l_law_is_alike ["turn", "one", "other", "ones", "others", "rounds", "value"] (C8.fnScope (top 48)) := C8.fnScope_by (by kernel_rfl)
theorem fd_l_law_is_alike (c : SaysP hfa hfn permB K) : ∃ fd, FunD K "_law_is_alike" "_law_is_alike" (C8.fnArgs (top 48)) (C8.fnBody (top 48)) (C8.fnScope (top 48)) [] [] (He.fAd K ("_law_is_alike", none)) fd ∧ Binds K fd ["turn", "one", "other", "ones", "others", "rounds", "value"] [] := by
  obtain ⟨fd, F⟩ := c.1.def_ 39 (d := dd_l_law_is_alike) rfl
  exact ⟨fd, F, FunD.bindsN (ps := ["turn", "one", "other", "ones", "others", "rounds", "value"]) F fun _ _ _ _ _ _ us hl => match us, hl with | [_, _, _, _, _, _, _], _ => by kernel_rfl⟩
theorem ok_l_law_is_alike (T : Txt (mkG P w K) mg) (L : Lev (mkG P w K) mg base tfs tms tcs tkt Φ Ψ Γ k) {f : Addr} {fd : FuncData} (F : FunD K "_law_is_alike" "_law_is_alike" (C8.fnArgs (top 48)) (C8.fnBody (top 48)) (C8.fnScope (top 48)) [] [] f fd) : FnOk P w K mg base C8.CX0 (k + 4) f fd ["turn", "one", "other", "ones", "others", "rounds", "value"] (spOf (mkG P w K) 7 (runFn 7 N_l_law_is_alike.length (d_l_law_is_alike (mkG P w K) Φ Ψ Γ))) :=
  one_fn T L F sc_l_law_is_alike rfl fun X E at_ fx hp => p_l_law_is_alike at_ fx hp
theorem sc_l_law_is_paper : FnScope N_l_law_is_paper ["turn", "one", "other", "rounds", "value"] (C8.fnScope (top 49)) := C8.fnScope_by (by kernel_rfl)
theorem fd_l_law_is_paper (c : SaysP hfa hfn permB K) : ∃ fd, FunD K "_law_is_paper" "_law_is_paper" (C8.fnArgs (top 49)) (C8.fnBody (top 49)) (C8.fnScope (top 49)) [] [] (He.fAd K ("_law_is_paper", none)) fd ∧ Binds K fd ["turn", "one", "other", "rounds", "value"] [] := by
  obtain ⟨fd, F⟩ := c.1.def_ 40 (d := dd_l_law_is_paper) rfl
  exact ⟨fd, F, FunD.bindsN (ps := ["turn", "one", "other", "rounds", "value"]) F fun _ _ _ _ _ _ us hl => match us, hl with | [_, _, _, _, _], _ => by kernel_rfl⟩
theorem ok_l_law_is_paper (T : Txt (mkG P w K) mg) (L : Lev (mkG P w K) mg base tfs tms tcs tkt Φ Ψ Γ k) {f : Addr} {fd : FuncData} (F : FunD K "_law_is_paper" "_law_is_paper" (C8.fnArgs (top 49)) (C8.fnBody (top 49)) (C8.fnScope (top 49)) [] [] f fd) : FnOk P w K mg base C8.CX0 (k + 4) f fd ["turn", "one", "other", "rounds", "value"] (spOf (mkG P w K) 5 (runFn 5 N_l_law_is_paper.length (d_l_law_is_paper (mkG P w K) Φ Ψ Γ))) :=
  one_fn T L F sc_l_law_is_paper rfl fun X E at_ fx hp => p_l_law_is_paper at_ fx hp
theorem sc_l_law_same : FnScope N_l_law_same ["told", "due"] (C8.fnScope (top 37)) := C8.fnScope_by (by kernel_rfl)
theorem fd_l_law_same (c : SaysP hfa hfn permB K) : ∃ fd, FunD K "_law_same" "_law_same" (C8.fnArgs (top 37)) (C8.fnBody (top 37)) (C8.fnScope (top 37)) [] [] (He.fAd K ("_law_same", none)) fd ∧ Binds K fd ["told", "due"] [] := by
  obtain ⟨fd, F⟩ := c.1.def_ 41 (d := dd_l_law_same) rfl
  exact ⟨fd, F, FunD.bindsN (ps := ["told", "due"]) F fun _ _ _ _ _ _ us hl => match us, hl with | [_, _], _ => by kernel_rfl⟩
theorem ok_l_law_same (T : Txt (mkG P w K) mg) (L : Lev (mkG P w K) mg base tfs tms tcs tkt Φ Ψ Γ k) {f : Addr} {fd : FuncData} (F : FunD K "_law_same" "_law_same" (C8.fnArgs (top 37)) (C8.fnBody (top 37)) (C8.fnScope (top 37)) [] [] f fd) : FnOk P w K mg base C8.CX0 (k + 4) f fd ["told", "due"] (spOf (mkG P w K) 2 (runFn 2 N_l_law_same.length (d_l_law_same (mkG P w K) Φ Ψ Γ))) :=
  one_fn T L F sc_l_law_same rfl fun X E at_ fx hp => p_l_law_same at_ fx hp
theorem sc_law : FnScope N_law ["script"] (C8.fnScope (top 56)) := C8.fnScope_by (by kernel_rfl)
theorem fd_law (c : SaysP hfa hfn permB K) : ∃ fd, FunD K "law" "law" (C8.fnArgs (top 56)) (C8.fnBody (top 56)) (C8.fnScope (top 56)) [] [] (He.fAd K ("law", none)) fd ∧ Binds K fd ["script"] [] := by
  obtain ⟨fd, F⟩ := c.1.def_ 42 (d := dd_law) rfl
  exact ⟨fd, F, FunD.bindsN (ps := ["script"]) F fun _ _ _ _ _ _ us hl => match us, hl with | [_], _ => by kernel_rfl⟩
theorem ok_law (T : Txt (mkG P w K) mg) (L : Lev (mkG P w K) mg base tfs tms tcs tkt Φ Ψ Γ k) {f : Addr} {fd : FuncData} (F : FunD K "law" "law" (C8.fnArgs (top 56)) (C8.fnBody (top 56)) (C8.fnScope (top 56)) [] [] f fd) : FnOk P w K mg base C8.CX0 (k + 4) f fd ["script"] (spOf (mkG P w K) 1 (runFn 1 N_law.length (d_law (mkG P w K) Φ Ψ Γ))) :=
  one_fn T L F sc_law rfl fun X E at_ fx hp => p_law at_ fx hp
theorem sc_Game_replies : FnScope N_Game_replies ["self", "side", "point"] (C8.fnScope ((C8.clsBody (top 24)).getD 3 (.Pass ⟨0, 0, 0, 0⟩))) := C8.fnScope_by (by kernel_rfl)
theorem fd_Game_replies (c : SaysP hfa hfn permB K) : ∃ fd, FunD K "replies" "Game.replies" (C8.fnArgs ((C8.clsBody (top 24)).getD 3 (.Pass ⟨0, 0, 0, 0⟩))) (C8.fnBody ((C8.clsBody (top 24)).getD 3 (.Pass ⟨0, 0, 0, 0⟩))) (C8.fnScope ((C8.clsBody (top 24)).getD 3 (.Pass ⟨0, 0, 0, 0⟩))) [] [] (He.fAd K ("Game", some "replies")) fd ∧ Binds K fd ["self", "side", "point"] [] := by
  obtain ⟨fd, F⟩ := c.1.def_ 43 (d := dd_Game_replies) rfl
  exact ⟨fd, F, FunD.bindsN (ps := ["self", "side", "point"]) F fun _ _ _ _ _ _ us hl => match us, hl with | [_, _, _], _ => by kernel_rfl⟩
theorem ok_Game_replies (T : Txt (mkG P w K) mg) (L : Lev (mkG P w K) mg base tfs tms tcs tkt Φ Ψ Γ k) {f : Addr} {fd : FuncData} (F : FunD K "replies" "Game.replies" (C8.fnArgs ((C8.clsBody (top 24)).getD 3 (.Pass ⟨0, 0, 0, 0⟩))) (C8.fnBody ((C8.clsBody (top 24)).getD 3 (.Pass ⟨0, 0, 0, 0⟩))) (C8.fnScope ((C8.clsBody (top 24)).getD 3 (.Pass ⟨0, 0, 0, 0⟩))) [] [] f fd) : FnOk P w K mg base C8.CX0 (k + 4) f fd ["self", "side", "point"] (spOf (mkG P w K) 3 (runFn 3 N_Game_replies.length (d_Game_replies (mkG P w K) Φ Ψ Γ))) :=
  one_fn T L F sc_Game_replies rfl fun X E at_ fx hp => p_Game_replies at_ fx hp
theorem sc_Game_goes_with : FnScope N_Game_goes_with ["self", "before", "pair"] (C8.fnScope ((C8.clsBody (top 24)).getD 1 (.Pass ⟨0, 0, 0, 0⟩))) := C8.fnScope_by (by kernel_rfl)
theorem fd_Game_goes_with (c : SaysP hfa hfn permB K) : ∃ fd, FunD K "goes_with" "Game.goes_with" (C8.fnArgs ((C8.clsBody (top 24)).getD 1 (.Pass ⟨0, 0, 0, 0⟩))) (C8.fnBody ((C8.clsBody (top 24)).getD 1 (.Pass ⟨0, 0, 0, 0⟩))) (C8.fnScope ((C8.clsBody (top 24)).getD 1 (.Pass ⟨0, 0, 0, 0⟩))) [] [] (He.fAd K ("Game", some "goes_with")) fd ∧ Binds K fd ["self", "before", "pair"] [] := by
  obtain ⟨fd, F⟩ := c.1.def_ 44 (d := dd_Game_goes_with) rfl
  exact ⟨fd, F, FunD.bindsN (ps := ["self", "before", "pair"]) F fun _ _ _ _ _ _ us hl => match us, hl with | [_, _, _], _ => by kernel_rfl⟩
theorem ok_Game_goes_with (T : Txt (mkG P w K) mg) (L : Lev (mkG P w K) mg base tfs tms tcs tkt Φ Ψ Γ k) {f : Addr} {fd : FuncData} (F : FunD K "goes_with" "Game.goes_with" (C8.fnArgs ((C8.clsBody (top 24)).getD 1 (.Pass ⟨0, 0, 0, 0⟩))) (C8.fnBody ((C8.clsBody (top 24)).getD 1 (.Pass ⟨0, 0, 0, 0⟩))) (C8.fnScope ((C8.clsBody (top 24)).getD 1 (.Pass ⟨0, 0, 0, 0⟩))) [] [] f fd) : FnOk P w K mg base C8.CX0 (k + 4) f fd ["self", "before", "pair"] (spOf (mkG P w K) 3 (runFn 3 N_Game_goes_with.length (d_Game_goes_with (mkG P w K) Φ Ψ Γ))) :=
  one_fn T L F sc_Game_goes_with rfl fun X E at_ fx hp => p_Game_goes_with at_ fx hp
theorem sc_Game_goes_on : FnScope N_Game_goes_on ["self", "position", "pair"] (C8.fnScope ((C8.clsBody (top 24)).getD 2 (.Pass ⟨0, 0, 0, 0⟩))) := C8.fnScope_by (by kernel_rfl)
theorem fd_Game_goes_on (c : SaysP hfa hfn permB K) : ∃ fd, FunD K "goes_on" "Game.goes_on" (C8.fnArgs ((C8.clsBody (top 24)).getD 2 (.Pass ⟨0, 0, 0, 0⟩))) (C8.fnBody ((C8.clsBody (top 24)).getD 2 (.Pass ⟨0, 0, 0, 0⟩))) (C8.fnScope ((C8.clsBody (top 24)).getD 2 (.Pass ⟨0, 0, 0, 0⟩))) [] [] (He.fAd K ("Game", some "goes_on")) fd ∧ Binds K fd ["self", "position", "pair"] [] := by
  obtain ⟨fd, F⟩ := c.1.def_ 45 (d := dd_Game_goes_on) rfl
  exact ⟨fd, F, FunD.bindsN (ps := ["self", "position", "pair"]) F fun _ _ _ _ _ _ us hl => match us, hl with | [_, _, _], _ => by kernel_rfl⟩
theorem ok_Game_goes_on (T : Txt (mkG P w K) mg) (L : Lev (mkG P w K) mg base tfs tms tcs tkt Φ Ψ Γ k) {f : Addr} {fd : FuncData} (F : FunD K "goes_on" "Game.goes_on" (C8.fnArgs ((C8.clsBody (top 24)).getD 2 (.Pass ⟨0, 0, 0, 0⟩))) (C8.fnBody ((C8.clsBody (top 24)).getD 2 (.Pass ⟨0, 0, 0, 0⟩))) (C8.fnScope ((C8.clsBody (top 24)).getD 2 (.Pass ⟨0, 0, 0, 0⟩))) [] [] f fd) : FnOk P w K mg base C8.CX0 (k + 4) f fd ["self", "position", "pair"] (spOf (mkG P w K) 3 (runFn 3 N_Game_goes_on.length (d_Game_goes_on (mkG P w K) Φ Ψ Γ))) :=
  one_fn T L F sc_Game_goes_on rfl fun X E at_ fx hp => p_Game_goes_on at_ fx hp
theorem sc_Table___init : FnScope N_Table___init ["self", "turn", "bars"] (C8.fnScope ((C8.clsBody (top 33)).getD 0 (.Pass ⟨0, 0, 0, 0⟩))) := C8.fnScope_by (by kernel_rfl)
theorem fd_Table___init (c : SaysP hfa hfn permB K) : ∃ fd, FunD K "__init__" "Table.__init__" (C8.fnArgs ((C8.clsBody (top 33)).getD 0 (.Pass ⟨0, 0, 0, 0⟩))) (C8.fnBody ((C8.clsBody (top 33)).getD 0 (.Pass ⟨0, 0, 0, 0⟩))) (C8.fnScope ((C8.clsBody (top 33)).getD 0 (.Pass ⟨0, 0, 0, 0⟩))) [] [] (He.fAd K ("Table", some "__init__")) fd ∧ Binds K fd ["self", "turn", "bars"] [] := by
  obtain ⟨fd, F⟩ := c.1.def_ 46 (d := dd_Table___init) rfl
  exact ⟨fd, F, FunD.bindsN (ps := ["self", "turn", "bars"]) F fun _ _ _ _ _ _ us hl => match us, hl with | [_, _, _], _ => by kernel_rfl⟩
theorem ok_Table___init (T : Txt (mkG P w K) mg) (L : Lev (mkG P w K) mg base tfs tms tcs tkt Φ Ψ Γ k) {f : Addr} {fd : FuncData} (F : FunD K "__init__" "Table.__init__" (C8.fnArgs ((C8.clsBody (top 33)).getD 0 (.Pass ⟨0, 0, 0, 0⟩))) (C8.fnBody ((C8.clsBody (top 33)).getD 0 (.Pass ⟨0, 0, 0, 0⟩))) (C8.fnScope ((C8.clsBody (top 33)).getD 0 (.Pass ⟨0, 0, 0, 0⟩))) [] [] f fd) : FnOk P w K mg base C8.CX0 (k + 4) f fd ["self", "turn", "bars"] (spOf (mkG P w K) 3 (runFn 3 N_Table___init.length (d_Table___init (mkG P w K) Φ Ψ Γ))) :=
  one_fn T L F sc_Table___init rfl fun X E at_ fx hp => p_Table___init at_ fx hp
theorem sc_Game___init : FnScope N_Game___init ["self", "turn", "one", "other"] (C8.fnScope ((C8.clsBody (top 24)).getD 0 (.Pass ⟨0, 0, 0, 0⟩))) := C8.fnScope_by (by kernel_rfl)
theorem fd_Game___init (c : SaysP hfa hfn permB K) : ∃ fd, FunD K "__init__" "Game.__init__" (C8.fnArgs ((C8.clsBody (top 24)).getD 0 (.Pass ⟨0, 0, 0, 0⟩))) (C8.fnBody ((C8.clsBody (top 24)).getD 0 (.Pass ⟨0, 0, 0, 0⟩))) (C8.fnScope ((C8.clsBody (top 24)).getD 0 (.Pass ⟨0, 0, 0, 0⟩))) [] [] (He.fAd K ("Game", some "__init__")) fd ∧ Binds K fd ["self", "turn", "one", "other"] [] := by
  obtain ⟨fd, F⟩ := c.1.def_ 47 (d := dd_Game___init) rfl
  exact ⟨fd, F, FunD.bindsN (ps := ["self", "turn", "one", "other"]) F fun _ _ _ _ _ _ us hl => match us, hl with | [_, _, _, _], _ => by kernel_rfl⟩
theorem ok_Game___init (T : Txt (mkG P w K) mg) (L : Lev (mkG P w K) mg base tfs tms tcs tkt Φ Ψ Γ k) {f : Addr} {fd : FuncData} (F : FunD K "__init__" "Game.__init__" (C8.fnArgs ((C8.clsBody (top 24)).getD 0 (.Pass ⟨0, 0, 0, 0⟩))) (C8.fnBody ((C8.clsBody (top 24)).getD 0 (.Pass ⟨0, 0, 0, 0⟩))) (C8.fnScope ((C8.clsBody (top 24)).getD 0 (.Pass ⟨0, 0, 0, 0⟩))) [] [] f fd) : FnOk P w K mg base C8.CX0 (k + 4) f fd ["self", "turn", "one", "other"] (spOf (mkG P w K) 4 (runFn 4 N_Game___init.length (d_Game___init (mkG P w K) Φ Ψ Γ))) :=
  one_fn T L F sc_Game___init rfl fun X E at_ fx hp => p_Game___init at_ fx hp
theorem c0F_l_law_source (KX : K.In h) (Gn : h.Ns mainGlobals mg) (c : SaysP hfa hfn permB K) : C8.Cal P w K mg base 0 "_law_source" (spOf (mkG P w K) 1 (fun _ _ => none)) [] := by obtain ⟨fd, F, b⟩ := fd_l_law_source c; exact ⟨_, fd, _, [], (no_fn (G := mkG P w K)), He.glo_ok KX Gn (c.1.fact 0 rfl), F.kp, b, .nil⟩
theorem c0F_l_law_draw (KX : K.In h) (Gn : h.Ns mainGlobals mg) (c : SaysP hfa hfn permB K) : C8.Cal P w K mg base 0 "_law_draw" (spOf (mkG P w K) 2 (fun _ _ => none)) [] := by obtain ⟨fd, F, b⟩ := fd_l_law_draw c; exact ⟨_, fd, _, [], (no_fn (G := mkG P w K)), He.glo_ok KX Gn (c.1.fact 1 rfl), F.kp, b, .nil⟩
theorem c0F_l_law_turn (KX : K.In h) (Gn : h.Ns mainGlobals mg) (c : SaysP hfa hfn permB K) : C8.Cal P w K mg base 0 "_law_turn" (spOf (mkG P w K) 2 (fun _ _ => none)) [] := by obtain ⟨fd, F, b⟩ := fd_l_law_turn c; exact ⟨_, fd, _, [], (no_fn (G := mkG P w K)), He.glo_ok KX Gn (c.1.fact 2 rfl), F.kp, b, .nil⟩
theorem c0F_is_sequence (KX : K.In h) (Gn : h.Ns mainGlobals mg) (c : SaysP hfa hfn permB K) : C8.Cal P w K mg base 0 "is_sequence" (spOf (mkG P w K) 1 (fun _ _ => none)) [] := by obtain ⟨fd, F, b⟩ := fd_is_sequence c; exact ⟨_, fd, _, [], (no_fn (G := mkG P w K)), He.glo_ok KX Gn (c.1.fact 3 rfl), F.kp, b, .nil⟩
theorem c0F_is_number (KX : K.In h) (Gn : h.Ns mainGlobals mg) (c : SaysP hfa hfn permB K) : C8.Cal P w K mg base 0 "is_number" (spOf (mkG P w K) 1 (fun _ _ => none)) [] := by obtain ⟨fd, F, b⟩ := fd_is_number c; exact ⟨_, fd, _, [], (no_fn (G := mkG P w K)), He.glo_ok KX Gn (c.1.fact 4 rfl), F.kp, b, .nil⟩
theorem c0F_is_below (KX : K.In h) (Gn : h.Ns mainGlobals mg) (c : SaysP hfa hfn permB K) : C8.Cal P w K mg base 0 "is_below" (spOf (mkG P w K) 2 (fun _ _ => none)) [] := by obtain ⟨fd, F, b⟩ := fd_is_below c; exact ⟨_, fd, _, [], (no_fn (G := mkG P w K)), He.glo_ok KX Gn (c.1.fact 5 rfl), F.kp, b, .nil⟩
theorem c0F_check_turn (KX : K.In h) (Gn : h.Ns mainGlobals mg) (c : SaysP hfa hfn permB K) : C8.Cal P w K mg base 0 "check_turn" (spOf (mkG P w K) 1 (fun _ _ => none)) [] := by obtain ⟨fd, F, b⟩ := fd_check_turn c; exact ⟨_, fd, _, [], (no_fn (G := mkG P w K)), He.glo_ok KX Gn (c.1.fact 6 rfl), F.kp, b, .nil⟩
theorem c0F_is_row (KX : K.In h) (Gn : h.Ns mainGlobals mg) (c : SaysP hfa hfn permB K) : C8.Cal P w K mg base 0 "is_row" (spOf (mkG P w K) 3 (fun _ _ => none)) [] := by obtain ⟨fd, F, b⟩ := fd_is_row c; exact ⟨_, fd, _, [], (no_fn (G := mkG P w K)), He.glo_ok KX Gn (c.1.fact 7 rfl), F.kp, b, .nil⟩
theorem c0F_is_shape (KX : K.In h) (Gn : h.Ns mainGlobals mg) (c : SaysP hfa hfn permB K) : C8.Cal P w K mg base 0 "is_shape" (spOf (mkG P w K) 2 (fun _ _ => none)) [] := by obtain ⟨fd, F, b⟩ := fd_is_shape c; exact ⟨_, fd, _, [], (no_fn (G := mkG P w K)), He.glo_ok KX Gn (c.1.fact 8 rfl), F.kp, b, .nil⟩
theorem c0F_check_bars (KX : K.In h) (Gn : h.Ns mainGlobals mg) (c : SaysP hfa hfn permB K) : C8.Cal P w K mg base 0 "check_bars" (spOf (mkG P w K) 2 (fun _ _ => none)) [] := by obtain ⟨fd, F, b⟩ := fd_check_bars c; exact ⟨_, fd, _, [], (no_fn (G := mkG P w K)), He.glo_ok KX Gn (c.1.fact 9 rfl), F.kp, b, .nil⟩
theorem c0F_tie_in (KX : K.In h) (Gn : h.Ns mainGlobals mg) (c : SaysP hfa hfn permB K) : C8.Cal P w K mg base 0 "tie_in" (spOf (mkG P w K) 4 (fun _ _ => none)) [] := by obtain ⟨fd, F, b⟩ := fd_tie_in c; exact ⟨_, fd, _, [], (no_fn (G := mkG P w K)), He.glo_ok KX Gn (c.1.fact 10 rfl), F.kp, b, .nil⟩
theorem c0F_least_shape (KX : K.In h) (Gn : h.Ns mainGlobals mg) (c : SaysP hfa hfn permB K) : C8.Cal P w K mg base 0 "least_shape" (spOf (mkG P w K) 2 (fun _ _ => none)) [] := by obtain ⟨fd, F, b⟩ := fd_least_shape c; exact ⟨_, fd, _, [], (no_fn (G := mkG P w K)), He.glo_ok KX Gn (c.1.fact 11 rfl), F.kp, b, .nil⟩
theorem c0F_by_size (KX : K.In h) (Gn : h.Ns mainGlobals mg) (c : SaysP hfa hfn permB K) : C8.Cal P w K mg base 0 "by_size" (spOf (mkG P w K) 1 (fun _ _ => none)) [] := by obtain ⟨fd, F, b⟩ := fd_by_size c; exact ⟨_, fd, _, [], (no_fn (G := mkG P w K)), He.glo_ok KX Gn (c.1.fact 12 rfl), F.kp, b, .nil⟩
theorem c0F_flat (KX : K.In h) (Gn : h.Ns mainGlobals mg) (c : SaysP hfa hfn permB K) : C8.Cal P w K mg base 0 "flat" (spOf (mkG P w K) 1 (fun _ _ => none)) [] := by obtain ⟨fd, F, b⟩ := fd_flat c; exact ⟨_, fd, _, [], (no_fn (G := mkG P w K)), He.glo_ok KX Gn (c.1.fact 13 rfl), F.kp, b, .nil⟩
theorem c0F_row_to (KX : K.In h) (Gn : h.Ns mainGlobals mg) (c : SaysP hfa hfn permB K) : C8.Cal P w K mg base 0 "row_to" (spOf (mkG P w K) 4 (fun _ _ => none)) [] := by obtain ⟨fd, F, b⟩ := fd_row_to c; exact ⟨_, fd, _, [], (no_fn (G := mkG P w K)), He.glo_ok KX Gn (c.1.fact 14 rfl), F.kp, b, .nil⟩
theorem c0F_cut (KX : K.In h) (Gn : h.Ns mainGlobals mg) (c : SaysP hfa hfn permB K) : C8.Cal P w K mg base 0 "cut" (spOf (mkG P w K) 3 (fun _ _ => none)) [] := by obtain ⟨fd, F, b⟩ := fd_cut c; exact ⟨_, fd, _, [], (no_fn (G := mkG P w K)), He.glo_ok KX Gn (c.1.fact 15 rfl), F.kp, b, .nil⟩
theorem c0F_barred_orders (KX : K.In h) (Gn : h.Ns mainGlobals mg) (c : SaysP hfa hfn permB K) : C8.Cal P w K mg base 0 "barred_orders" (spOf (mkG P w K) 2 (fun _ _ => none)) [] := by obtain ⟨fd, F, b⟩ := fd_barred_orders c; exact ⟨_, fd, _, [], (no_fn (G := mkG P w K)), He.glo_ok KX Gn (c.1.fact 16 rfl), F.kp, b, .nil⟩
theorem c0F_l_law_picture (KX : K.In h) (Gn : h.Ns mainGlobals mg) (c : SaysP hfa hfn permB K) : C8.Cal P w K mg base 0 "_law_picture" (spOf (mkG P w K) 3 (fun _ _ => none)) [] := by obtain ⟨fd, F, b⟩ := fd_l_law_picture c; exact ⟨_, fd, _, [], (no_fn (G := mkG P w K)), He.glo_ok KX Gn (c.1.fact 17 rfl), F.kp, b, .nil⟩
theorem c0F_l_law_orders (KX : K.In h) (Gn : h.Ns mainGlobals mg) (c : SaysP hfa hfn permB K) : C8.Cal P w K mg base 0 "_law_orders" (spOf (mkG P w K) 1 (fun _ _ => none)) [] := by obtain ⟨fd, F, b⟩ := fd_l_law_orders c; exact ⟨_, fd, _, [], (no_fn (G := mkG P w K)), He.glo_ok KX Gn (c.1.fact 18 rfl), F.kp, b, .nil⟩
theorem c0F_l_law_tie (KX : K.In h) (Gn : h.Ns mainGlobals mg) (c : SaysP hfa hfn permB K) : C8.Cal P w K mg base 0 "_law_tie" (spOf (mkG P w K) 4 (fun _ _ => none)) [] := by obtain ⟨fd, F, b⟩ := fd_l_law_tie c; exact ⟨_, fd, _, [], (no_fn (G := mkG P w K)), He.glo_ok KX Gn (c.1.fact 19 rfl), F.kp, b, .nil⟩
theorem c0F_l_law_piece (KX : K.In h) (Gn : h.Ns mainGlobals mg) (c : SaysP hfa hfn permB K) : C8.Cal P w K mg base 0 "_law_piece" (spOf (mkG P w K) 3 (fun _ _ => none)) [] := by obtain ⟨fd, F, b⟩ := fd_l_law_piece c; exact ⟨_, fd, _, [], (no_fn (G := mkG P w K)), He.glo_ok KX Gn (c.1.fact 20 rfl), F.kp, b, .nil⟩
theorem c0F_l_law_shown (KX : K.In h) (Gn : h.Ns mainGlobals mg) (c : SaysP hfa hfn permB K) : C8.Cal P w K mg base 0 "_law_shown" (spOf (mkG P w K) 3 (fun _ _ => none)) [] := by obtain ⟨fd, F, b⟩ := fd_l_law_shown c; exact ⟨_, fd, _, [], (no_fn (G := mkG P w K)), He.glo_ok KX Gn (c.1.fact 21 rfl), F.kp, b, .nil⟩
theorem c0F_l_law_sort (KX : K.In h) (Gn : h.Ns mainGlobals mg) (c : SaysP hfa hfn permB K) : C8.Cal P w K mg base 0 "_law_sort" (spOf (mkG P w K) 4 (fun _ _ => none)) [] := by obtain ⟨fd, F, b⟩ := fd_l_law_sort c; exact ⟨_, fd, _, [], (no_fn (G := mkG P w K)), He.glo_ok KX Gn (c.1.fact 22 rfl), F.kp, b, .nil⟩
theorem c0F_l_law_alike (KX : K.In h) (Gn : h.Ns mainGlobals mg) (c : SaysP hfa hfn permB K) : C8.Cal P w K mg base 0 "_law_alike" (spOf (mkG P w K) 6 (fun _ _ => none)) [] := by obtain ⟨fd, F, b⟩ := fd_l_law_alike c; exact ⟨_, fd, _, [], (no_fn (G := mkG P w K)), He.glo_ok KX Gn (c.1.fact 23 rfl), F.kp, b, .nil⟩
theorem c0F_l_law_answers (KX : K.In h) (Gn : h.Ns mainGlobals mg) (c : SaysP hfa hfn permB K) : C8.Cal P w K mg base 0 "_law_answers" (spOf (mkG P w K) 7 (fun _ _ => none)) [] := by obtain ⟨fd, F, b⟩ := fd_l_law_answers c; exact ⟨_, fd, _, [], (no_fn (G := mkG P w K)), He.glo_ok KX Gn (c.1.fact 24 rfl), F.kp, b, .nil⟩
theorem c0F_l_law_as_told (KX : K.In h) (Gn : h.Ns mainGlobals mg) (c : SaysP hfa hfn permB K) : C8.Cal P w K mg base 0 "_law_as_told" (spOf (mkG P w K) 5 (fun _ _ => none)) [] := by obtain ⟨fd, F, b⟩ := fd_l_law_as_told c; exact ⟨_, fd, _, [], (no_fn (G := mkG P w K)), He.glo_ok KX Gn (c.1.fact 25 rfl), F.kp, b, .nil⟩
theorem c0F_l_law_apart (KX : K.In h) (Gn : h.Ns mainGlobals mg) (c : SaysP hfa hfn permB K) : C8.Cal P w K mg base 0 "_law_apart" (spOf (mkG P w K) 7 (fun _ _ => none)) [] := by obtain ⟨fd, F, b⟩ := fd_l_law_apart c; exact ⟨_, fd, _, [], (no_fn (G := mkG P w K)), He.glo_ok KX Gn (c.1.fact 26 rfl), F.kp, b, .nil⟩
theorem c0F_l_law_paper (KX : K.In h) (Gn : h.Ns mainGlobals mg) (c : SaysP hfa hfn permB K) : C8.Cal P w K mg base 0 "_law_paper" (spOf (mkG P w K) 5 (fun _ _ => none)) [] := by obtain ⟨fd, F, b⟩ := fd_l_law_paper c; exact ⟨_, fd, _, [], (no_fn (G := mkG P w K)), He.glo_ok KX Gn (c.1.fact 27 rfl), F.kp, b, .nil⟩
theorem c0F_check_picture (KX : K.In h) (Gn : h.Ns mainGlobals mg) (c : SaysP hfa hfn permB K) : C8.Cal P w K mg base 0 "check_picture" (spOf (mkG P w K) 2 (fun _ _ => none)) [] := by obtain ⟨fd, F, b⟩ := fd_check_picture c; exact ⟨_, fd, _, [], (no_fn (G := mkG P w K)), He.glo_ok KX Gn (c.1.fact 28 rfl), F.kp, b, .nil⟩
theorem c0F_check_number (KX : K.In h) (Gn : h.Ns mainGlobals mg) (c : SaysP hfa hfn permB K) : C8.Cal P w K mg base 0 "check_number" (spOf (mkG P w K) 1 (fun _ _ => none)) [] := by obtain ⟨fd, F, b⟩ := fd_check_number c; exact ⟨_, fd, _, [], (no_fn (G := mkG P w K)), He.glo_ok KX Gn (c.1.fact 29 rfl), F.kp, b, .nil⟩
theorem c0F_game_on (KX : K.In h) (Gn : h.Ns mainGlobals mg) (c : SaysP hfa hfn permB K) : C8.Cal P w K mg base 0 "game_on" (spOf (mkG P w K) 4 (fun _ _ => none)) [] := by obtain ⟨fd, F, b⟩ := fd_game_on c; exact ⟨_, fd, _, [], (no_fn (G := mkG P w K)), He.glo_ok KX Gn (c.1.fact 30 rfl), F.kp, b, .nil⟩
theorem c0F_is_apart_tree (KX : K.In h) (Gn : h.Ns mainGlobals mg) (c : SaysP hfa hfn permB K) : C8.Cal P w K mg base 0 "is_apart_tree" (spOf (mkG P w K) 4 (fun _ _ => none)) [] := by obtain ⟨fd, F, b⟩ := fd_is_apart_tree c; exact ⟨_, fd, _, [], (no_fn (G := mkG P w K)), He.glo_ok KX Gn (c.1.fact 31 rfl), F.kp, b, .nil⟩
theorem c0F_is_told_answer (KX : K.In h) (Gn : h.Ns mainGlobals mg) (c : SaysP hfa hfn permB K) : C8.Cal P w K mg base 0 "is_told_answer" (spOf (mkG P w K) 6 (fun _ _ => none)) [] := by obtain ⟨fd, F, b⟩ := fd_is_told_answer c; exact ⟨_, fd, _, [], (no_fn (G := mkG P w K)), He.glo_ok KX Gn (c.1.fact 32 rfl), F.kp, b, .nil⟩
theorem c0F_is_alike_tree (KX : K.In h) (Gn : h.Ns mainGlobals mg) (c : SaysP hfa hfn permB K) : C8.Cal P w K mg base 0 "is_alike_tree" (spOf (mkG P w K) 4 (fun _ _ => none)) [] := by obtain ⟨fd, F, b⟩ := fd_is_alike_tree c; exact ⟨_, fd, _, [], (no_fn (G := mkG P w K)), He.glo_ok KX Gn (c.1.fact 33 rfl), F.kp, b, .nil⟩
theorem c0F_is_game_paper (KX : K.In h) (Gn : h.Ns mainGlobals mg) (c : SaysP hfa hfn permB K) : C8.Cal P w K mg base 0 "is_game_paper" (spOf (mkG P w K) 5 (fun _ _ => none)) [] := by obtain ⟨fd, F, b⟩ := fd_is_game_paper c; exact ⟨_, fd, _, [], (no_fn (G := mkG P w K)), He.glo_ok KX Gn (c.1.fact 34 rfl), F.kp, b, .nil⟩
theorem c0F_l_law_bent (KX : K.In h) (Gn : h.Ns mainGlobals mg) (c : SaysP hfa hfn permB K) : C8.Cal P w K mg base 0 "_law_bent" (spOf (mkG P w K) 3 (fun _ _ => none)) [] := by obtain ⟨fd, F, b⟩ := fd_l_law_bent c; exact ⟨_, fd, _, [], (no_fn (G := mkG P w K)), He.glo_ok KX Gn (c.1.fact 35 rfl), F.kp, b, .nil⟩
theorem c0F_l_law_odd_paper (KX : K.In h) (Gn : h.Ns mainGlobals mg) (c : SaysP hfa hfn permB K) : C8.Cal P w K mg base 0 "_law_odd_paper" (spOf (mkG P w K) 2 (fun _ _ => none)) [] := by obtain ⟨fd, F, b⟩ := fd_l_law_odd_paper c; exact ⟨_, fd, _, [], (no_fn (G := mkG P w K)), He.glo_ok KX Gn (c.1.fact 36 rfl), F.kp, b, .nil⟩
theorem c0F_l_law_number (KX : K.In h) (Gn : h.Ns mainGlobals mg) (c : SaysP hfa hfn permB K) : C8.Cal P w K mg base 0 "_law_number" (spOf (mkG P w K) 2 (fun _ _ => none)) [] := by obtain ⟨fd, F, b⟩ := fd_l_law_number c; exact ⟨_, fd, _, [], (no_fn (G := mkG P w K)), He.glo_ok KX Gn (c.1.fact 37 rfl), F.kp, b, .nil⟩
theorem c0F_l_law_is_apart (KX : K.In h) (Gn : h.Ns mainGlobals mg) (c : SaysP hfa hfn permB K) : C8.Cal P w K mg base 0 "_law_is_apart" (spOf (mkG P w K) 7 (fun _ _ => none)) [] := by obtain ⟨fd, F, b⟩ := fd_l_law_is_apart c; exact ⟨_, fd, _, [], (no_fn (G := mkG P w K)), He.glo_ok KX Gn (c.1.fact 38 rfl), F.kp, b, .nil⟩
theorem c0F_l_law_is_alike (KX : K.In h) (Gn : h.Ns mainGlobals mg) (c : SaysP hfa hfn permB K) : C8.Cal P w K mg base 0 "_law_is_alike" (spOf (mkG P w K) 7 (fun _ _ => none)) [] := by obtain ⟨fd, F, b⟩ := fd_l_law_is_alike c; exact ⟨_, fd, _, [], (no_fn (G := mkG P w K)), He.glo_ok KX Gn (c.1.fact 39 rfl), F.kp, b, .nil⟩
theorem c0F_l_law_is_paper (KX : K.In h) (Gn : h.Ns mainGlobals mg) (c : SaysP hfa hfn permB K) : C8.Cal P w K mg base 0 "_law_is_paper" (spOf (mkG P w K) 5 (fun _ _ => none)) [] := by obtain ⟨fd, F, b⟩ := fd_l_law_is_paper c; exact ⟨_, fd, _, [], (no_fn (G := mkG P w K)), He.glo_ok KX Gn (c.1.fact 40 rfl), F.kp, b, .nil⟩
theorem c0F_l_law_same (KX : K.In h) (Gn : h.Ns mainGlobals mg) (c : SaysP hfa hfn permB K) : C8.Cal P w K mg base 0 "_law_same" (spOf (mkG P w K) 2 (fun _ _ => none)) [] := by obtain ⟨fd, F, b⟩ := fd_l_law_same c; exact ⟨_, fd, _, [], (no_fn (G := mkG P w K)), He.glo_ok KX Gn (c.1.fact 41 rfl), F.kp, b, .nil⟩
theorem c0F_law (KX : K.In h) (Gn : h.Ns mainGlobals mg) (c : SaysP hfa hfn permB K) : C8.Cal P w K mg base 0 "law" (spOf (mkG P w K) 1 (fun _ _ => none)) [] := by obtain ⟨fd, F, b⟩ := fd_law c; exact ⟨_, fd, _, [], (no_fn (G := mkG P w K)), He.glo_ok KX Gn (c.1.fact 42 rfl), F.kp, b, .nil⟩
theorem c0M_Game_replies (KX : K.In h) (Gn : h.Ns mainGlobals mg) (c : SaysP hfa hfn permB K) : ∃ C, (mkG P w K).cls "Game" = some C ∧ C8.Met P w K mg base 0 C "replies" (spOf (mkG P w K) 3 (fun _ _ => none)) [] := by obtain ⟨fd, F, b⟩ := fd_Game_replies c; exact ⟨He.ga K "Game", rfl, _, fd, _, [], He.cls_ok (c.1.fact 60 rfl), He.meth_ok (c.1.fact 74 rfl), (no_fn (G := mkG P w K)), b, .nil⟩
theorem c0M_Game_goes_with (KX : K.In h) (Gn : h.Ns mainGlobals mg) (c : SaysP hfa hfn permB K) : ∃ C, (mkG P w K).cls "Game" = some C ∧ C8.Met P w K mg base 0 C "goes_with" (spOf (mkG P w K) 3 (fun _ _ => none)) [] := by obtain ⟨fd, F, b⟩ := fd_Game_goes_with c; exact ⟨He.ga K "Game", rfl, _, fd, _, [], He.cls_ok (c.1.fact 60 rfl), He.meth_ok (c.1.fact 75 rfl), (no_fn (G := mkG P w K)), b, .nil⟩
theorem c0M_Game_goes_on (KX : K.In h) (Gn : h.Ns mainGlobals mg) (c : SaysP hfa hfn permB K) : ∃ C, (mkG P w K).cls "Game" = some C ∧ C8.Met P w K mg base 0 C "goes_on" (spOf (mkG P w K) 3 (fun _ _ => none)) [] := by obtain ⟨fd, F, b⟩ := fd_Game_goes_on c; exact ⟨He.ga K "Game", rfl, _, fd, _, [], He.cls_ok (c.1.fact 60 rfl), He.meth_ok (c.1.fact 76 rfl), (no_fn (G := mkG P w K)), b, .nil⟩
theorem c0C_Table___init (KX : K.In h) (Gn : h.Ns mainGlobals mg) (c : SaysP hfa hfn permB K) : ∃ C, (mkG P w K).cls "Table" = some C ∧ C8.Mak P w K mg base 0 "Table" C (spOf (mkG P w K) 3 (fun _ _ => none)) [] := by obtain ⟨fd, F, b⟩ := fd_Table___init c; exact ⟨He.ga K "Table", rfl, _, fd, _, [], He.mkr_ok (c.1.fact 64 rfl), (no_fn (G := mkG P w K)), He.glo_ok KX Gn (c.1.fact 62 rfl), b, .nil⟩
theorem c0C_Game___init (KX : K.In h) (Gn : h.Ns mainGlobals mg) (c : SaysP hfa hfn permB K) : ∃ C, (mkG P w K).cls "Game" = some C ∧ C8.Mak P w K mg base 0 "Game" C (spOf (mkG P w K) 4 (fun _ _ => none)) [] := by obtain ⟨fd, F, b⟩ := fd_Game___init c; exact ⟨He.ga K "Game", rfl, _, fd, _, [], He.mkr_ok (c.1.fact 61 rfl), (no_fn (G := mkG P w K)), He.glo_ok KX Gn (c.1.fact 59 rfl), b, .nil⟩
theorem c0K_0 (KX : K.In h) (Gn : h.Ns mainGlobals mg) (c : SaysP hfa hfn permB K) : KwOk P w K mg base 0 "is_game_paper" (spOf (mkG P w K) 5 (fun _ _ => none)) [Str.ofString "value", Str.ofString "rounds", Str.ofString "other", Str.ofString "one", Str.ofString "table"] [4, 3, 2, 1, 0] := by obtain ⟨fd, F, b⟩ := fd_is_game_paper c; exact ⟨_, fd, [Str.ofString "table", Str.ofString "one", Str.ofString "other", Str.ofString "rounds", Str.ofString "value"], (no_fn (G := mkG P w K)), He.glo_ok KX Gn (c.1.fact 34 rfl), F.kp, fun s ws _ hl => kw_of F (fun _ _ _ _ _ _ ws hl => match ws, hl with | [_, _, _, _, _], _ => by kernel_rfl) s ws hl⟩
theorem lev0 (KX : K.In h) (Gn : h.Ns mainGlobals mg) (c : SaysP hfa hfn permB K) : Lev (mkG P w K) mg base tfs tms tcs tkt (fun _ _ _ => none) (fun _ _ _ => none) (fun _ _ _ => none) 0 := by
  refine ⟨fun i x n e => ?_, fun i x m n e => ?_, fun i x n e => ?_, fun i x n ks js j e => ?_⟩
  · match i, e with
    | 0, e => cases Option.some.inj e; exact c0F_l_law_source KX Gn c
    | 1, e => cases Option.some.inj e; exact c0F_l_law_draw KX Gn c
    | 2, e => cases Option.some.inj e; exact c0F_l_law_turn KX Gn c
    | 3, e => cases Option.some.inj e; exact c0F_is_sequence KX Gn c
    | 4, e => cases Option.some.inj e; exact c0F_is_number KX Gn c
    | 5, e => cases Option.some.inj e; exact c0F_is_below KX Gn c
    | 6, e => cases Option.some.inj e; exact c0F_check_turn KX Gn c
    | 7, e => cases Option.some.inj e; exact c0F_is_row KX Gn c
    | 8, e => cases Option.some.inj e; exact c0F_is_shape KX Gn c
    | 9, e => cases Option.some.inj e; exact c0F_check_bars KX Gn c
    | 10, e => cases Option.some.inj e; exact c0F_tie_in KX Gn c
    | 11, e => cases Option.some.inj e; exact c0F_least_shape KX Gn c
    | 12, e => cases Option.some.inj e; exact c0F_by_size KX Gn c
    | 13, e => cases Option.some.inj e; exact c0F_flat KX Gn c
    | 14, e => cases Option.some.inj e; exact c0F_row_to KX Gn c
    | 15, e => cases Option.some.inj e; exact c0F_cut KX Gn c
    | 16, e => cases Option.some.inj e; exact c0F_barred_orders KX Gn c
    | 17, e => cases Option.some.inj e; exact c0F_l_law_picture KX Gn c
    | 18, e => cases Option.some.inj e; exact c0F_l_law_orders KX Gn c
    | 19, e => cases Option.some.inj e; exact c0F_l_law_tie KX Gn c
    | 20, e => cases Option.some.inj e; exact c0F_l_law_piece KX Gn c
    | 21, e => cases Option.some.inj e; exact c0F_l_law_shown KX Gn c
    | 22, e => cases Option.some.inj e; exact c0F_l_law_sort KX Gn c
    | 23, e => cases Option.some.inj e; exact c0F_l_law_alike KX Gn c
    | 24, e => cases Option.some.inj e; exact c0F_l_law_answers KX Gn c
    | 25, e => cases Option.some.inj e; exact c0F_l_law_as_told KX Gn c
    | 26, e => cases Option.some.inj e; exact c0F_l_law_apart KX Gn c
    | 27, e => cases Option.some.inj e; exact c0F_l_law_paper KX Gn c
    | 28, e => cases Option.some.inj e; exact c0F_check_picture KX Gn c
    | 29, e => cases Option.some.inj e; exact c0F_check_number KX Gn c
    | 30, e => cases Option.some.inj e; exact c0F_game_on KX Gn c
    | 31, e => cases Option.some.inj e; exact c0F_is_apart_tree KX Gn c
    | 32, e => cases Option.some.inj e; exact c0F_is_told_answer KX Gn c
    | 33, e => cases Option.some.inj e; exact c0F_is_alike_tree KX Gn c
    | 34, e => cases Option.some.inj e; exact c0F_is_game_paper KX Gn c
    | 35, e => cases Option.some.inj e; exact c0F_l_law_bent KX Gn c
    | 36, e => cases Option.some.inj e; exact c0F_l_law_odd_paper KX Gn c
    | 37, e => cases Option.some.inj e; exact c0F_l_law_number KX Gn c
    | 38, e => cases Option.some.inj e; exact c0F_l_law_is_apart KX Gn c
    | 39, e => cases Option.some.inj e; exact c0F_l_law_is_alike KX Gn c
    | 40, e => cases Option.some.inj e; exact c0F_l_law_is_paper KX Gn c
    | 41, e => cases Option.some.inj e; exact c0F_l_law_same KX Gn c
    | 42, e => cases Option.some.inj e; exact c0F_law KX Gn c
    | _ + 43, e => cases e
  · match i, e with
    | 0, e => cases Option.some.inj e; exact c0M_Game_replies KX Gn c
    | 1, e => cases Option.some.inj e; exact c0M_Game_goes_with KX Gn c
    | 2, e => cases Option.some.inj e; exact c0M_Game_goes_on KX Gn c
    | _ + 3, e => cases e
  · match i, e with
    | 0, e => cases Option.some.inj e; exact c0C_Table___init KX Gn c
    | 1, e => cases Option.some.inj e; exact c0C_Game___init KX Gn c
    | _ + 2, e => cases e
  · match i, e with
    | 0, e => cases Option.some.inj e; exact c0K_0 KX Gn c
    | _ + 1, e => cases e
theorem c1F_l_law_source (T : Txt (mkG P w K) mg) (L : Lev (mkG P w K) mg base tfs tms tcs tkt Φ Ψ Γ k) (KX : K.In h) (Gn : h.Ns mainGlobals mg) (c : SaysP hfa hfn permB K) : C8.Cal P w K mg base (k + 4) "_law_source" (spOf (mkG P w K) 1 (runFn 1 N_l_law_source.length (d_l_law_source (mkG P w K) Φ Ψ Γ))) [] := by obtain ⟨fd, F, b⟩ := fd_l_law_source c; exact ⟨_, fd, _, [], ok_l_law_source T L F, He.glo_ok KX Gn (c.1.fact 0 rfl), F.kp, b, .nil⟩
theorem c1F_l_law_draw (T : Txt (mkG P w K) mg) (L : Lev (mkG P w K) mg base tfs tms tcs tkt Φ Ψ Γ k) (KX : K.In h) (Gn : h.Ns mainGlobals mg) (c : SaysP hfa hfn permB K) : C8.Cal P w K mg base (k + 4) "_law_draw" (spOf (mkG P w K) 2 (runFn 2 N_l_law_draw.length (d_l_law_draw (mkG P w K) Φ Ψ Γ))) [] := by obtain ⟨fd, F, b⟩ := fd_l_law_draw c; exact ⟨_, fd, _, [], ok_l_law_draw T L F, He.glo_ok KX Gn (c.1.fact 1 rfl), F.kp, b, .nil⟩
theorem c1F_l_law_turn (T : Txt (mkG P w K) mg) (L : Lev (mkG P w K) mg base tfs tms tcs tkt Φ Ψ Γ k) (KX : K.In h) (Gn : h.Ns mainGlobals mg) (c : SaysP hfa hfn permB K) : C8.Cal P w K mg base (k + 4) "_law_turn" (spOf (mkG P w K) 2 (runFn 2 N_l_law_turn.length (d_l_law_turn (mkG P w K) Φ Ψ Γ))) [] := by obtain ⟨fd, F, b⟩ := fd_l_law_turn c; exact ⟨_, fd, _, [], ok_l_law_turn T L F, He.glo_ok KX Gn (c.1.fact 2 rfl), F.kp, b, .nil⟩
theorem c1F_is_sequence (T : Txt (mkG P w K) mg) (L : Lev (mkG P w K) mg base tfs tms tcs tkt Φ Ψ Γ k) (KX : K.In h) (Gn : h.Ns mainGlobals mg) (c : SaysP hfa hfn permB K) : C8.Cal P w K mg base (k + 4) "is_sequence" (spOf (mkG P w K) 1 (runFn 1 N_is_sequence.length (d_is_sequence (mkG P w K) Φ Ψ Γ))) [] := by obtain ⟨fd, F, b⟩ := fd_is_sequence c; exact ⟨_, fd, _, [], ok_is_sequence T L F, He.glo_ok KX Gn (c.1.fact 3 rfl), F.kp, b, .nil⟩
theorem c1F_is_number (T : Txt (mkG P w K) mg) (L : Lev (mkG P w K) mg base tfs tms tcs tkt Φ Ψ Γ k) (KX : K.In h) (Gn : h.Ns mainGlobals mg) (c : SaysP hfa hfn permB K) : C8.Cal P w K mg base (k + 4) "is_number" (spOf (mkG P w K) 1 (runFn 1 N_is_number.length (d_is_number (mkG P w K) Φ Ψ Γ))) [] := by obtain ⟨fd, F, b⟩ := fd_is_number c; exact ⟨_, fd, _, [], ok_is_number T L F, He.glo_ok KX Gn (c.1.fact 4 rfl), F.kp, b, .nil⟩
theorem c1F_is_below (T : Txt (mkG P w K) mg) (L : Lev (mkG P w K) mg base tfs tms tcs tkt Φ Ψ Γ k) (KX : K.In h) (Gn : h.Ns mainGlobals mg) (c : SaysP hfa hfn permB K) : C8.Cal P w K mg base (k + 4) "is_below" (spOf (mkG P w K) 2 (runFn 2 N_is_below.length (d_is_below (mkG P w K) Φ Ψ Γ))) [] := by obtain ⟨fd, F, b⟩ := fd_is_below c; exact ⟨_, fd, _, [], ok_is_below T L F, He.glo_ok KX Gn (c.1.fact 5 rfl), F.kp, b, .nil⟩
theorem c1F_check_turn (T : Txt (mkG P w K) mg) (L : Lev (mkG P w K) mg base tfs tms tcs tkt Φ Ψ Γ k) (KX : K.In h) (Gn : h.Ns mainGlobals mg) (c : SaysP hfa hfn permB K) : C8.Cal P w K mg base (k + 4) "check_turn" (spOf (mkG P w K) 1 (runFn 1 N_check_turn.length (d_check_turn (mkG P w K) Φ Ψ Γ))) [] := by obtain ⟨fd, F, b⟩ := fd_check_turn c; exact ⟨_, fd, _, [], ok_check_turn T L F, He.glo_ok KX Gn (c.1.fact 6 rfl), F.kp, b, .nil⟩
theorem c1F_is_row (T : Txt (mkG P w K) mg) (L : Lev (mkG P w K) mg base tfs tms tcs tkt Φ Ψ Γ k) (KX : K.In h) (Gn : h.Ns mainGlobals mg) (c : SaysP hfa hfn permB K) : C8.Cal P w K mg base (k + 4) "is_row" (spOf (mkG P w K) 3 (runFn 3 N_is_row.length (d_is_row (mkG P w K) Φ Ψ Γ))) [] := by obtain ⟨fd, F, b⟩ := fd_is_row c; exact ⟨_, fd, _, [], ok_is_row T L F, He.glo_ok KX Gn (c.1.fact 7 rfl), F.kp, b, .nil⟩
theorem c1F_is_shape (T : Txt (mkG P w K) mg) (L : Lev (mkG P w K) mg base tfs tms tcs tkt Φ Ψ Γ k) (KX : K.In h) (Gn : h.Ns mainGlobals mg) (c : SaysP hfa hfn permB K) : C8.Cal P w K mg base (k + 4) "is_shape" (spOf (mkG P w K) 2 (runFn 2 N_is_shape.length (d_is_shape (mkG P w K) Φ Ψ Γ))) [] := by obtain ⟨fd, F, b⟩ := fd_is_shape c; exact ⟨_, fd, _, [], ok_is_shape T L F, He.glo_ok KX Gn (c.1.fact 8 rfl), F.kp, b, .nil⟩
theorem c1F_check_bars (T : Txt (mkG P w K) mg) (L : Lev (mkG P w K) mg base tfs tms tcs tkt Φ Ψ Γ k) (KX : K.In h) (Gn : h.Ns mainGlobals mg) (c : SaysP hfa hfn permB K) : C8.Cal P w K mg base (k + 4) "check_bars" (spOf (mkG P w K) 2 (runFn 2 N_check_bars.length (d_check_bars (mkG P w K) Φ Ψ Γ))) [] := by obtain ⟨fd, F, b⟩ := fd_check_bars c; exact ⟨_, fd, _, [], ok_check_bars T L F, He.glo_ok KX Gn (c.1.fact 9 rfl), F.kp, b, .nil⟩
theorem c1F_tie_in (T : Txt (mkG P w K) mg) (L : Lev (mkG P w K) mg base tfs tms tcs tkt Φ Ψ Γ k) (KX : K.In h) (Gn : h.Ns mainGlobals mg) (c : SaysP hfa hfn permB K) : C8.Cal P w K mg base (k + 4) "tie_in" (spOf (mkG P w K) 4 (runFn 4 N_tie_in.length (d_tie_in (mkG P w K) Φ Ψ Γ))) [] := by obtain ⟨fd, F, b⟩ := fd_tie_in c; exact ⟨_, fd, _, [], ok_tie_in T L F, He.glo_ok KX Gn (c.1.fact 10 rfl), F.kp, b, .nil⟩
theorem c1F_least_shape (T : Txt (mkG P w K) mg) (L : Lev (mkG P w K) mg base tfs tms tcs tkt Φ Ψ Γ k) (KX : K.In h) (Gn : h.Ns mainGlobals mg) (c : SaysP hfa hfn permB K) : C8.Cal P w K mg base (k + 4) "least_shape" (spOf (mkG P w K) 2 (runFn 2 N_least_shape.length (d_least_shape (mkG P w K) Φ Ψ Γ))) [] := by obtain ⟨fd, F, b⟩ := fd_least_shape c; exact ⟨_, fd, _, [], ok_least_shape T L F, He.glo_ok KX Gn (c.1.fact 11 rfl), F.kp, b, .nil⟩
theorem c1F_by_size (T : Txt (mkG P w K) mg) (L : Lev (mkG P w K) mg base tfs tms tcs tkt Φ Ψ Γ k) (KX : K.In h) (Gn : h.Ns mainGlobals mg) (c : SaysP hfa hfn permB K) : C8.Cal P w K mg base (k + 4) "by_size" (spOf (mkG P w K) 1 (runFn 1 N_by_size.length (d_by_size (mkG P w K) Φ Ψ Γ))) [] := by obtain ⟨fd, F, b⟩ := fd_by_size c; exact ⟨_, fd, _, [], ok_by_size T L F, He.glo_ok KX Gn (c.1.fact 12 rfl), F.kp, b, .nil⟩
theorem c1F_flat (T : Txt (mkG P w K) mg) (L : Lev (mkG P w K) mg base tfs tms tcs tkt Φ Ψ Γ k) (KX : K.In h) (Gn : h.Ns mainGlobals mg) (c : SaysP hfa hfn permB K) : C8.Cal P w K mg base (k + 4) "flat" (spOf (mkG P w K) 1 (runFn 1 N_flat.length (d_flat (mkG P w K) Φ Ψ Γ))) [] := by obtain ⟨fd, F, b⟩ := fd_flat c; exact ⟨_, fd, _, [], ok_flat T L F, He.glo_ok KX Gn (c.1.fact 13 rfl), F.kp, b, .nil⟩
theorem c1F_row_to (T : Txt (mkG P w K) mg) (L : Lev (mkG P w K) mg base tfs tms tcs tkt Φ Ψ Γ k) (KX : K.In h) (Gn : h.Ns mainGlobals mg) (c : SaysP hfa hfn permB K) : C8.Cal P w K mg base (k + 4) "row_to" (spOf (mkG P w K) 4 (runFn 4 N_row_to.length (d_row_to (mkG P w K) Φ Ψ Γ))) [] := by obtain ⟨fd, F, b⟩ := fd_row_to c; exact ⟨_, fd, _, [], ok_row_to T L F, He.glo_ok KX Gn (c.1.fact 14 rfl), F.kp, b, .nil⟩
theorem c1F_cut (T : Txt (mkG P w K) mg) (L : Lev (mkG P w K) mg base tfs tms tcs tkt Φ Ψ Γ k) (KX : K.In h) (Gn : h.Ns mainGlobals mg) (c : SaysP hfa hfn permB K) : C8.Cal P w K mg base (k + 4) "cut" (spOf (mkG P w K) 3 (runFn 3 N_cut.length (d_cut (mkG P w K) Φ Ψ Γ))) [] := by obtain ⟨fd, F, b⟩ := fd_cut c; exact ⟨_, fd, _, [], ok_cut T L F, He.glo_ok KX Gn (c.1.fact 15 rfl), F.kp, b, .nil⟩
theorem c1F_barred_orders (T : Txt (mkG P w K) mg) (L : Lev (mkG P w K) mg base tfs tms tcs tkt Φ Ψ Γ k) (KX : K.In h) (Gn : h.Ns mainGlobals mg) (c : SaysP hfa hfn permB K) : C8.Cal P w K mg base (k + 4) "barred_orders" (spOf (mkG P w K) 2 (runFn 2 N_barred_orders.length (d_barred_orders (mkG P w K) Φ Ψ Γ))) [] := by obtain ⟨fd, F, b⟩ := fd_barred_orders c; exact ⟨_, fd, _, [], ok_barred_orders T L F, He.glo_ok KX Gn (c.1.fact 16 rfl), F.kp, b, .nil⟩
theorem c1F_l_law_picture (T : Txt (mkG P w K) mg) (L : Lev (mkG P w K) mg base tfs tms tcs tkt Φ Ψ Γ k) (KX : K.In h) (Gn : h.Ns mainGlobals mg) (c : SaysP hfa hfn permB K) : C8.Cal P w K mg base (k + 4) "_law_picture" (spOf (mkG P w K) 3 (runFn 3 N_l_law_picture.length (d_l_law_picture (mkG P w K) Φ Ψ Γ))) [] := by obtain ⟨fd, F, b⟩ := fd_l_law_picture c; exact ⟨_, fd, _, [], ok_l_law_picture T L F, He.glo_ok KX Gn (c.1.fact 17 rfl), F.kp, b, .nil⟩
theorem c1F_l_law_orders (T : Txt (mkG P w K) mg) (L : Lev (mkG P w K) mg base tfs tms tcs tkt Φ Ψ Γ k) (KX : K.In h) (Gn : h.Ns mainGlobals mg) (c : SaysP hfa hfn permB K) : C8.Cal P w K mg base (k + 4) "_law_orders" (spOf (mkG P w K) 1 (runFn 1 N_l_law_orders.length (d_l_law_orders (mkG P w K) Φ Ψ Γ))) [] := by obtain ⟨fd, F, b⟩ := fd_l_law_orders c; exact ⟨_, fd, _, [], ok_l_law_orders T L F, He.glo_ok KX Gn (c.1.fact 18 rfl), F.kp, b, .nil⟩
theorem c1F_l_law_tie (T : Txt (mkG P w K) mg) (L : Lev (mkG P w K) mg base tfs tms tcs tkt Φ Ψ Γ k) (KX : K.In h) (Gn : h.Ns mainGlobals mg) (c : SaysP hfa hfn permB K) : C8.Cal P w K mg base (k + 4) "_law_tie" (spOf (mkG P w K) 4 (runFn 4 N_l_law_tie.length (d_l_law_tie (mkG P w K) Φ Ψ Γ))) [] := by obtain ⟨fd, F, b⟩ := fd_l_law_tie c; exact ⟨_, fd, _, [], ok_l_law_tie T L F, He.glo_ok KX Gn (c.1.fact 19 rfl), F.kp, b, .nil⟩
theorem c1F_l_law_piece (T : Txt (mkG P w K) mg) (L : Lev (mkG P w K) mg base tfs tms tcs tkt Φ Ψ Γ k) (KX : K.In h) (Gn : h.Ns mainGlobals mg) (c : SaysP hfa hfn permB K) : C8.Cal P w K mg base (k + 4) "_law_piece" (spOf (mkG P w K) 3 (runFn 3 N_l_law_piece.length (d_l_law_piece (mkG P w K) Φ Ψ Γ))) [] := by obtain ⟨fd, F, b⟩ := fd_l_law_piece c; exact ⟨_, fd, _, [], ok_l_law_piece T L F, He.glo_ok KX Gn (c.1.fact 20 rfl), F.kp, b, .nil⟩
theorem c1F_l_law_shown (T : Txt (mkG P w K) mg) (L : Lev (mkG P w K) mg base tfs tms tcs tkt Φ Ψ Γ k) (KX : K.In h) (Gn : h.Ns mainGlobals mg) (c : SaysP hfa hfn permB K) : C8.Cal P w K mg base (k + 4) "_law_shown" (spOf (mkG P w K) 3 (runFn 3 N_l_law_shown.length (d_l_law_shown (mkG P w K) Φ Ψ Γ))) [] := by obtain ⟨fd, F, b⟩ := fd_l_law_shown c; exact ⟨_, fd, _, [], ok_l_law_shown T L F, He.glo_ok KX Gn (c.1.fact 21 rfl), F.kp, b, .nil⟩
theorem c1F_l_law_sort (T : Txt (mkG P w K) mg) (L : Lev (mkG P w K) mg base tfs tms tcs tkt Φ Ψ Γ k) (KX : K.In h) (Gn : h.Ns mainGlobals mg) (c : SaysP hfa hfn permB K) : C8.Cal P w K mg base (k + 4) "_law_sort" (spOf (mkG P w K) 4 (runFn 4 N_l_law_sort.length (d_l_law_sort (mkG P w K) Φ Ψ Γ))) [] := by obtain ⟨fd, F, b⟩ := fd_l_law_sort c; exact ⟨_, fd, _, [], ok_l_law_sort T L F, He.glo_ok KX Gn (c.1.fact 22 rfl), F.kp, b, .nil⟩
theorem c1F_l_law_alike (T : Txt (mkG P w K) mg) (L : Lev (mkG P w K) mg base tfs tms tcs tkt Φ Ψ Γ k) (KX : K.In h) (Gn : h.Ns mainGlobals mg) (c : SaysP hfa hfn permB K) : C8.Cal P w K mg base (k + 4) "_law_alike" (spOf (mkG P w K) 6 (runFn 6 N_l_law_alike.length (d_l_law_alike (mkG P w K) Φ Ψ Γ))) [] := by obtain ⟨fd, F, b⟩ := fd_l_law_alike c; exact ⟨_, fd, _, [], ok_l_law_alike T L F, He.glo_ok KX Gn (c.1.fact 23 rfl), F.kp, b, .nil⟩
theorem c1F_l_law_answers (T : Txt (mkG P w K) mg) (L : Lev (mkG P w K) mg base tfs tms tcs tkt Φ Ψ Γ k) (KX : K.In h) (Gn : h.Ns mainGlobals mg) (c : SaysP hfa hfn permB K) : C8.Cal P w K mg base (k + 4) "_law_answers" (spOf (mkG P w K) 7 (runFn 7 N_l_law_answers.length (d_l_law_answers (mkG P w K) Φ Ψ Γ))) [] := by obtain ⟨fd, F, b⟩ := fd_l_law_answers c; exact ⟨_, fd, _, [], ok_l_law_answers T L F, He.glo_ok KX Gn (c.1.fact 24 rfl), F.kp, b, .nil⟩
theorem c1F_l_law_as_told (T : Txt (mkG P w K) mg) (L : Lev (mkG P w K) mg base tfs tms tcs tkt Φ Ψ Γ k) (KX : K.In h) (Gn : h.Ns mainGlobals mg) (c : SaysP hfa hfn permB K) : C8.Cal P w K mg base (k + 4) "_law_as_told" (spOf (mkG P w K) 5 (runFn 5 N_l_law_as_told.length (d_l_law_as_told (mkG P w K) Φ Ψ Γ))) [] := by obtain ⟨fd, F, b⟩ := fd_l_law_as_told c; exact ⟨_, fd, _, [], ok_l_law_as_told T L F, He.glo_ok KX Gn (c.1.fact 25 rfl), F.kp, b, .nil⟩
theorem c1F_l_law_apart (T : Txt (mkG P w K) mg) (L : Lev (mkG P w K) mg base tfs tms tcs tkt Φ Ψ Γ k) (KX : K.In h) (Gn : h.Ns mainGlobals mg) (c : SaysP hfa hfn permB K) : C8.Cal P w K mg base (k + 4) "_law_apart" (spOf (mkG P w K) 7 (runFn 7 N_l_law_apart.length (d_l_law_apart (mkG P w K) Φ Ψ Γ))) [] := by obtain ⟨fd, F, b⟩ := fd_l_law_apart c; exact ⟨_, fd, _, [], ok_l_law_apart T L F, He.glo_ok KX Gn (c.1.fact 26 rfl), F.kp, b, .nil⟩
theorem c1F_l_law_paper (T : Txt (mkG P w K) mg) (L : Lev (mkG P w K) mg base tfs tms tcs tkt Φ Ψ Γ k) (KX : K.In h) (Gn : h.Ns mainGlobals mg) (c : SaysP hfa hfn permB K) : C8.Cal P w K mg base (k + 4) "_law_paper" (spOf (mkG P w K) 5 (runFn 5 N_l_law_paper.length (d_l_law_paper (mkG P w K) Φ Ψ Γ))) [] := by obtain ⟨fd, F, b⟩ := fd_l_law_paper c; exact ⟨_, fd, _, [], ok_l_law_paper T L F, He.glo_ok KX Gn (c.1.fact 27 rfl), F.kp, b, .nil⟩
theorem c1F_check_picture (T : Txt (mkG P w K) mg) (L : Lev (mkG P w K) mg base tfs tms tcs tkt Φ Ψ Γ k) (KX : K.In h) (Gn : h.Ns mainGlobals mg) (c : SaysP hfa hfn permB K) : C8.Cal P w K mg base (k + 4) "check_picture" (spOf (mkG P w K) 2 (runFn 2 N_check_picture.length (d_check_picture (mkG P w K) Φ Ψ Γ))) [] := by obtain ⟨fd, F, b⟩ := fd_check_picture c; exact ⟨_, fd, _, [], ok_check_picture T L F, He.glo_ok KX Gn (c.1.fact 28 rfl), F.kp, b, .nil⟩
theorem c1F_check_number (T : Txt (mkG P w K) mg) (L : Lev (mkG P w K) mg base tfs tms tcs tkt Φ Ψ Γ k) (KX : K.In h) (Gn : h.Ns mainGlobals mg) (c : SaysP hfa hfn permB K) : C8.Cal P w K mg base (k + 4) "check_number" (spOf (mkG P w K) 1 (runFn 1 N_check_number.length (d_check_number (mkG P w K) Φ Ψ Γ))) [] := by obtain ⟨fd, F, b⟩ := fd_check_number c; exact ⟨_, fd, _, [], ok_check_number T L F, He.glo_ok KX Gn (c.1.fact 29 rfl), F.kp, b, .nil⟩
theorem c1F_game_on (T : Txt (mkG P w K) mg) (L : Lev (mkG P w K) mg base tfs tms tcs tkt Φ Ψ Γ k) (KX : K.In h) (Gn : h.Ns mainGlobals mg) (c : SaysP hfa hfn permB K) : C8.Cal P w K mg base (k + 4) "game_on" (spOf (mkG P w K) 4 (runFn 4 N_game_on.length (d_game_on (mkG P w K) Φ Ψ Γ))) [] := by obtain ⟨fd, F, b⟩ := fd_game_on c; exact ⟨_, fd, _, [], ok_game_on T L F, He.glo_ok KX Gn (c.1.fact 30 rfl), F.kp, b, .nil⟩
theorem c1F_is_apart_tree (T : Txt (mkG P w K) mg) (L : Lev (mkG P w K) mg base tfs tms tcs tkt Φ Ψ Γ k) (KX : K.In h) (Gn : h.Ns mainGlobals mg) (c : SaysP hfa hfn permB K) : C8.Cal P w K mg base (k + 4) "is_apart_tree" (spOf (mkG P w K) 4 (runFn 4 N_is_apart_tree.length (d_is_apart_tree (mkG P w K) Φ Ψ Γ))) [] := by obtain ⟨fd, F, b⟩ := fd_is_apart_tree c; exact ⟨_, fd, _, [], ok_is_apart_tree T L F, He.glo_ok KX Gn (c.1.fact 31 rfl), F.kp, b, .nil⟩
theorem c1F_is_told_answer (T : Txt (mkG P w K) mg) (L : Lev (mkG P w K) mg base tfs tms tcs tkt Φ Ψ Γ k) (KX : K.In h) (Gn : h.Ns mainGlobals mg) (c : SaysP hfa hfn permB K) : C8.Cal P w K mg base (k + 4) "is_told_answer" (spOf (mkG P w K) 6 (runFn 6 N_is_told_answer.length (d_is_told_answer (mkG P w K) Φ Ψ Γ))) [] := by obtain ⟨fd, F, b⟩ := fd_is_told_answer c; exact ⟨_, fd, _, [], ok_is_told_answer T L F, He.glo_ok KX Gn (c.1.fact 32 rfl), F.kp, b, .nil⟩
theorem c1F_is_alike_tree (T : Txt (mkG P w K) mg) (L : Lev (mkG P w K) mg base tfs tms tcs tkt Φ Ψ Γ k) (KX : K.In h) (Gn : h.Ns mainGlobals mg) (c : SaysP hfa hfn permB K) : C8.Cal P w K mg base (k + 4) "is_alike_tree" (spOf (mkG P w K) 4 (runFn 4 N_is_alike_tree.length (d_is_alike_tree (mkG P w K) Φ Ψ Γ))) [] := by obtain ⟨fd, F, b⟩ := fd_is_alike_tree c; exact ⟨_, fd, _, [], ok_is_alike_tree T L F, He.glo_ok KX Gn (c.1.fact 33 rfl), F.kp, b, .nil⟩
theorem c1F_is_game_paper (T : Txt (mkG P w K) mg) (L : Lev (mkG P w K) mg base tfs tms tcs tkt Φ Ψ Γ k) (KX : K.In h) (Gn : h.Ns mainGlobals mg) (c : SaysP hfa hfn permB K) : C8.Cal P w K mg base (k + 4) "is_game_paper" (spOf (mkG P w K) 5 (runFn 5 N_is_game_paper.length (d_is_game_paper (mkG P w K) Φ Ψ Γ))) [] := by obtain ⟨fd, F, b⟩ := fd_is_game_paper c; exact ⟨_, fd, _, [], ok_is_game_paper T L F, He.glo_ok KX Gn (c.1.fact 34 rfl), F.kp, b, .nil⟩
theorem c1F_l_law_bent (T : Txt (mkG P w K) mg) (L : Lev (mkG P w K) mg base tfs tms tcs tkt Φ Ψ Γ k) (KX : K.In h) (Gn : h.Ns mainGlobals mg) (c : SaysP hfa hfn permB K) : C8.Cal P w K mg base (k + 4) "_law_bent" (spOf (mkG P w K) 3 (runFn 3 N_l_law_bent.length (d_l_law_bent (mkG P w K) Φ Ψ Γ))) [] := by obtain ⟨fd, F, b⟩ := fd_l_law_bent c; exact ⟨_, fd, _, [], ok_l_law_bent T L F, He.glo_ok KX Gn (c.1.fact 35 rfl), F.kp, b, .nil⟩
theorem c1F_l_law_odd_paper (T : Txt (mkG P w K) mg) (L : Lev (mkG P w K) mg base tfs tms tcs tkt Φ Ψ Γ k) (KX : K.In h) (Gn : h.Ns mainGlobals mg) (c : SaysP hfa hfn permB K) : C8.Cal P w K mg base (k + 4) "_law_odd_paper" (spOf (mkG P w K) 2 (runFn 2 N_l_law_odd_paper.length (d_l_law_odd_paper (mkG P w K) Φ Ψ Γ))) [] := by obtain ⟨fd, F, b⟩ := fd_l_law_odd_paper c; exact ⟨_, fd, _, [], ok_l_law_odd_paper T L F, He.glo_ok KX Gn (c.1.fact 36 rfl), F.kp, b, .nil⟩
theorem c1F_l_law_number (T : Txt (mkG P w K) mg) (L : Lev (mkG P w K) mg base tfs tms tcs tkt Φ Ψ Γ k) (KX : K.In h) (Gn : h.Ns mainGlobals mg) (c : SaysP hfa hfn permB K) : C8.Cal P w K mg base (k + 4) "_law_number" (spOf (mkG P w K) 2 (runFn 2 N_l_law_number.length (d_l_law_number (mkG P w K) Φ Ψ Γ))) [] := by obtain ⟨fd, F, b⟩ := fd_l_law_number c; exact ⟨_, fd, _, [], ok_l_law_number T L F, He.glo_ok KX Gn (c.1.fact 37 rfl), F.kp, b, .nil⟩
theorem c1F_l_law_is_apart (T : Txt (mkG P w K) mg) (L : Lev (mkG P w K) mg base tfs tms tcs tkt Φ Ψ Γ k) (KX : K.In h) (Gn : h.Ns mainGlobals mg) (c : SaysP hfa hfn permB K) : C8.Cal P w K mg base (k + 4) "_law_is_apart" (spOf (mkG P w K) 7 (runFn 7 N_l_law_is_apart.length (d_l_law_is_apart (mkG P w K) Φ Ψ Γ))) [] := by obtain ⟨fd, F, b⟩ := fd_l_law_is_apart c; exact ⟨_, fd, _, [], ok_l_law_is_apart T L F, He.glo_ok KX Gn (c.1.fact 38 rfl), F.kp, b, .nil⟩
theorem c1F_l_law_is_alike (T : Txt (mkG P w K) mg) (L : Lev (mkG P w K) mg base tfs tms tcs tkt Φ Ψ Γ k) (KX : K.In h) (Gn : h.Ns mainGlobals mg) (c : SaysP hfa hfn permB K) : C8.Cal P w K mg base (k + 4) "_law_is_alike" (spOf (mkG P w K) 7 (runFn 7 N_l_law_is_alike.length (d_l_law_is_alike (mkG P w K) Φ Ψ Γ))) [] := by obtain ⟨fd, F, b⟩ := fd_l_law_is_alike c; exact ⟨_, fd, _, [], ok_l_law_is_alike T L F, He.glo_ok KX Gn (c.1.fact 39 rfl), F.kp, b, .nil⟩
theorem c1F_l_law_is_paper (T : Txt (mkG P w K) mg) (L : Lev (mkG P w K) mg base tfs tms tcs tkt Φ Ψ Γ k) (KX : K.In h) (Gn : h.Ns mainGlobals mg) (c : SaysP hfa hfn permB K) : C8.Cal P w K mg base (k + 4) "_law_is_paper" (spOf (mkG P w K) 5 (runFn 5 N_l_law_is_paper.length (d_l_law_is_paper (mkG P w K) Φ Ψ Γ))) [] := by obtain ⟨fd, F, b⟩ := fd_l_law_is_paper c; exact ⟨_, fd, _, [], ok_l_law_is_paper T L F, He.glo_ok KX Gn (c.1.fact 40 rfl), F.kp, b, .nil⟩
theorem c1F_l_law_same (T : Txt (mkG P w K) mg) (L : Lev (mkG P w K) mg base tfs tms tcs tkt Φ Ψ Γ k) (KX : K.In h) (Gn : h.Ns mainGlobals mg) (c : SaysP hfa hfn permB K) : C8.Cal P w K mg base (k + 4) "_law_same" (spOf (mkG P w K) 2 (runFn 2 N_l_law_same.length (d_l_law_same (mkG P w K) Φ Ψ Γ))) [] := by obtain ⟨fd, F, b⟩ := fd_l_law_same c; exact ⟨_, fd, _, [], ok_l_law_same T L F, He.glo_ok KX Gn (c.1.fact 41 rfl), F.kp, b, .nil⟩
theorem c1F_law (T : Txt (mkG P w K) mg) (L : Lev (mkG P w K) mg base tfs tms tcs tkt Φ Ψ Γ k) (KX : K.In h) (Gn : h.Ns mainGlobals mg) (c : SaysP hfa hfn permB K) : C8.Cal P w K mg base (k + 4) "law" (spOf (mkG P w K) 1 (runFn 1 N_law.length (d_law (mkG P w K) Φ Ψ Γ))) [] := by obtain ⟨fd, F, b⟩ := fd_law c; exact ⟨_, fd, _, [], ok_law T L F, He.glo_ok KX Gn (c.1.fact 42 rfl), F.kp, b, .nil⟩
theorem c1M_Game_replies (T : Txt (mkG P w K) mg) (L : Lev (mkG P w K) mg base tfs tms tcs tkt Φ Ψ Γ k) (KX : K.In h) (Gn : h.Ns mainGlobals mg) (c : SaysP hfa hfn permB K) : ∃ C, (mkG P w K).cls "Game" = some C ∧ C8.Met P w K mg base (k + 4) C "replies" (spOf (mkG P w K) 3 (runFn 3 N_Game_replies.length (d_Game_replies (mkG P w K) Φ Ψ Γ))) [] := by obtain ⟨fd, F, b⟩ := fd_Game_replies c; exact ⟨He.ga K "Game", rfl, _, fd, _, [], He.cls_ok (c.1.fact 60 rfl), He.meth_ok (c.1.fact 74 rfl), ok_Game_replies T L F, b, .nil⟩
theorem c1M_Game_goes_with (T : Txt (mkG P w K) mg) (L : Lev (mkG P w K) mg base tfs tms tcs tkt Φ Ψ Γ k) (KX : K.In h) (Gn : h.Ns mainGlobals mg) (c : SaysP hfa hfn permB K) : ∃ C, (mkG P w K).cls "Game" = some C ∧ C8.Met P w K mg base (k + 4) C "goes_with" (spOf (mkG P w K) 3 (runFn 3 N_Game_goes_with.length (d_Game_goes_with (mkG P w K) Φ Ψ Γ))) [] := by obtain ⟨fd, F, b⟩ := fd_Game_goes_with c; exact ⟨He.ga K "Game", rfl, _, fd, _, [], He.cls_ok (c.1.fact 60 rfl), He.meth_ok (c.1.fact 75 rfl), ok_Game_goes_with T L F, b, .nil⟩
theorem c1M_Game_goes_on (T : Txt (mkG P w K) mg) (L : Lev (mkG P w K) mg base tfs tms tcs tkt Φ Ψ Γ k) (KX : K.In h) (Gn : h.Ns mainGlobals mg) (c : SaysP hfa hfn permB K) : ∃ C, (mkG P w K).cls "Game" = some C ∧ C8.Met P w K mg base (k + 4) C "goes_on" (spOf (mkG P w K) 3 (runFn 3 N_Game_goes_on.length (d_Game_goes_on (mkG P w K) Φ Ψ Γ))) [] := by obtain ⟨fd, F, b⟩ := fd_Game_goes_on c; exact ⟨He.ga K "Game", rfl, _, fd, _, [], He.cls_ok (c.1.fact 60 rfl), He.meth_ok (c.1.fact 76 rfl), ok_Game_goes_on T L F, b, .nil⟩
theorem c1C_Table___init (T : Txt (mkG P w K) mg) (L : Lev (mkG P w K) mg base tfs tms tcs tkt Φ Ψ Γ k) (KX : K.In h) (Gn : h.Ns mainGlobals mg) (c : SaysP hfa hfn permB K) : ∃ C, (mkG P w K).cls "Table" = some C ∧ C8.Mak P w K mg base (k + 4) "Table" C (spOf (mkG P w K) 3 (runFn 3 N_Table___init.length (d_Table___init (mkG P w K) Φ Ψ Γ))) [] := by obtain ⟨fd, F, b⟩ := fd_Table___init c; exact ⟨He.ga K "Table", rfl, _, fd, _, [], He.mkr_ok (c.1.fact 64 rfl), ok_Table___init T L F, He.glo_ok KX Gn (c.1.fact 62 rfl), b, .nil⟩
theorem c1C_Game___init (T : Txt (mkG P w K) mg) (L : Lev (mkG P w K) mg base tfs tms tcs tkt Φ Ψ Γ k) (KX : K.In h) (Gn : h.Ns mainGlobals mg) (c : SaysP hfa hfn permB K) : ∃ C, (mkG P w K).cls "Game" = some C ∧ C8.Mak P w K mg base (k + 4) "Game" C (spOf (mkG P w K) 4 (runFn 4 N_Game___init.length (d_Game___init (mkG P w K) Φ Ψ Γ))) [] := by obtain ⟨fd, F, b⟩ := fd_Game___init c; exact ⟨He.ga K "Game", rfl, _, fd, _, [], He.mkr_ok (c.1.fact 61 rfl), ok_Game___init T L F, He.glo_ok KX Gn (c.1.fact 59 rfl), b, .nil⟩
theorem c1K_0 (T : Txt (mkG P w K) mg) (L : Lev (mkG P w K) mg base tfs tms tcs tkt Φ Ψ Γ k) (KX : K.In h) (Gn : h.Ns mainGlobals mg) (c : SaysP hfa hfn permB K) : KwOk P w K mg base (k + 4) "is_game_paper" (spOf (mkG P w K) 5 (runFn 5 N_is_game_paper.length (d_is_game_paper (mkG P w K) Φ Ψ Γ))) [Str.ofString "value", Str.ofString "rounds", Str.ofString "other", Str.ofString "one", Str.ofString "table"] [4, 3, 2, 1, 0] := by obtain ⟨fd, F, b⟩ := fd_is_game_paper c; exact ⟨_, fd, [Str.ofString "table", Str.ofString "one", Str.ofString "other", Str.ofString "rounds", Str.ofString "value"], ok_is_game_paper T L F, He.glo_ok KX Gn (c.1.fact 34 rfl), F.kp, fun s ws _ hl => kw_of F (fun _ _ _ _ _ _ ws hl => match ws, hl with | [_, _, _, _, _], _ => by kernel_rfl) s ws hl⟩
theorem levS (T : Txt (mkG P w K) mg) (L : Lev (mkG P w K) mg base tfs tms tcs tkt Φ Ψ Γ k) (KX : K.In h) (Gn : h.Ns mainGlobals mg) (c : SaysP hfa hfn permB K) : Lev (mkG P w K) mg base tfs tms tcs tkt (sF (mkG P w K) Φ Ψ Γ) (sM (mkG P w K) Φ Ψ Γ) (sC (mkG P w K) Φ Ψ Γ) (k + 4) := by
  refine ⟨fun i x n e => ?_, fun i x m n e => ?_, fun i x n e => ?_, fun i x n ks js j e => ?_⟩
  · match i, e with
    | 0, e => cases Option.some.inj e; exact c1F_l_law_source T L KX Gn c
    | 1, e => cases Option.some.inj e; exact c1F_l_law_draw T L KX Gn c
    | 2, e => cases Option.some.inj e; exact c1F_l_law_turn T L KX Gn c
    | 3, e => cases Option.some.inj e; exact c1F_is_sequence T L KX Gn c
    | 4, e => cases Option.some.inj e; exact c1F_is_number T L KX Gn c
    | 5, e => cases Option.some.inj e; exact c1F_is_below T L KX Gn c
    | 6, e => cases Option.some.inj e; exact c1F_check_turn T L KX Gn c
    | 7, e => cases Option.some.inj e; exact c1F_is_row T L KX Gn c
    | 8, e => cases Option.some.inj e; exact c1F_is_shape T L KX Gn c
    | 9, e => cases Option.some.inj e; exact c1F_check_bars T L KX Gn c
    | 10, e => cases Option.some.inj e; exact c1F_tie_in T L KX Gn c
    | 11, e => cases Option.some.inj e; exact c1F_least_shape T L KX Gn c
    | 12, e => cases Option.some.inj e; exact c1F_by_size T L KX Gn c
    | 13, e => cases Option.some.inj e; exact c1F_flat T L KX Gn c
    | 14, e => cases Option.some.inj e; exact c1F_row_to T L KX Gn c
    | 15, e => cases Option.some.inj e; exact c1F_cut T L KX Gn c
    | 16, e => cases Option.some.inj e; exact c1F_barred_orders T L KX Gn c
    | 17, e => cases Option.some.inj e; exact c1F_l_law_picture T L KX Gn c
    | 18, e => cases Option.some.inj e; exact c1F_l_law_orders T L KX Gn c
    | 19, e => cases Option.some.inj e; exact c1F_l_law_tie T L KX Gn c
    | 20, e => cases Option.some.inj e; exact c1F_l_law_piece T L KX Gn c
    | 21, e => cases Option.some.inj e; exact c1F_l_law_shown T L KX Gn c
    | 22, e => cases Option.some.inj e; exact c1F_l_law_sort T L KX Gn c
    | 23, e => cases Option.some.inj e; exact c1F_l_law_alike T L KX Gn c
    | 24, e => cases Option.some.inj e; exact c1F_l_law_answers T L KX Gn c
    | 25, e => cases Option.some.inj e; exact c1F_l_law_as_told T L KX Gn c
    | 26, e => cases Option.some.inj e; exact c1F_l_law_apart T L KX Gn c
    | 27, e => cases Option.some.inj e; exact c1F_l_law_paper T L KX Gn c
    | 28, e => cases Option.some.inj e; exact c1F_check_picture T L KX Gn c
    | 29, e => cases Option.some.inj e; exact c1F_check_number T L KX Gn c
    | 30, e => cases Option.some.inj e; exact c1F_game_on T L KX Gn c
    | 31, e => cases Option.some.inj e; exact c1F_is_apart_tree T L KX Gn c
    | 32, e => cases Option.some.inj e; exact c1F_is_told_answer T L KX Gn c
    | 33, e => cases Option.some.inj e; exact c1F_is_alike_tree T L KX Gn c
    | 34, e => cases Option.some.inj e; exact c1F_is_game_paper T L KX Gn c
    | 35, e => cases Option.some.inj e; exact c1F_l_law_bent T L KX Gn c
    | 36, e => cases Option.some.inj e; exact c1F_l_law_odd_paper T L KX Gn c
    | 37, e => cases Option.some.inj e; exact c1F_l_law_number T L KX Gn c
    | 38, e => cases Option.some.inj e; exact c1F_l_law_is_apart T L KX Gn c
    | 39, e => cases Option.some.inj e; exact c1F_l_law_is_alike T L KX Gn c
    | 40, e => cases Option.some.inj e; exact c1F_l_law_is_paper T L KX Gn c
    | 41, e => cases Option.some.inj e; exact c1F_l_law_same T L KX Gn c
    | 42, e => cases Option.some.inj e; exact c1F_law T L KX Gn c
    | _ + 43, e => cases e
  · match i, e with
    | 0, e => cases Option.some.inj e; exact c1M_Game_replies T L KX Gn c
    | 1, e => cases Option.some.inj e; exact c1M_Game_goes_with T L KX Gn c
    | 2, e => cases Option.some.inj e; exact c1M_Game_goes_on T L KX Gn c
    | _ + 3, e => cases e
  · match i, e with
    | 0, e => cases Option.some.inj e; exact c1C_Table___init T L KX Gn c
    | 1, e => cases Option.some.inj e; exact c1C_Game___init T L KX Gn c
    | _ + 2, e => cases e
  · match i, e with
    | 0, e => cases Option.some.inj e; exact c1K_0 T L KX Gn c
    | _ + 1, e => cases e
theorem lev (KX : K.In h) (Gn : h.Ns mainGlobals mg) (c : SaysP hfa hfn permB K) : ∀ j, Lev (mkG P w K) mg base tfs tms tcs tkt (tb (mkG P w K) j).f (tb (mkG P w K) j).m (tb (mkG P w K) j).c (4 * j)
  | 0 => lev0 KX Gn c
  | j + 1 => levS (txt KX Gn c) (lev KX Gn c j) KX Gn c
end
end Mini
end

section
set_option Elab.async false
set_option linter.all false
set_option maxRecDepth 100000
set_option maxHeartbeats 0
namespace Mini
open PySem PySem.Spec PyProof.Rows L2
abbrev RR : PySem.W.OpenRow := PySem.W.OpenLaw.row PySem.Challenge.rw_patchrealm_k84_game_papers_bent
def lawAt : Nat := (PySem.Challenge.pw_patchrealm_k84_game_papers_bent.main.body.length) - 1
abbrev hk : PySem.W.Hook := hookP 5 hfa hfn permB
def ob (s : PySem.W.SharedT) : AlP := obsPG 5 hfa hfn permB (HandSHeadRun.getT s)
theorem ob_eq (s : PySem.W.SharedT) : ob s = hk.obs s.abs := obsPG_eq (HandSHeadRun.getT_eq s)
def loose1 : List PySem.Str := ["_wall", "PatchError", "InvalidNumber", "InvalidTable", "InvalidPicture", "is_number", "is_below", "is_sequence", "is_row", "is_shape", "check_number", "check_picture", "check_turn", "tie_in", "row_to", "cut", "flat", "least_shape", "by_size", "Game", "game_on", "is_apart_tree", "is_told_answer", "is_alike_tree", "is_game_paper", "check_bars", "barred_orders", "Table", "_law_source"]
def loose2 : List PySem.Str := ["_law_draw", "_law_same", "_law_number", "_law_orders", "_law_tie", "_law_piece", "_law_turn", "_law_picture", "_law_sort", "_law_alike", "_law_as_told", "_law_is_apart", "_law_is_alike", "_law_is_paper", "_law_apart", "_law_answers", "_law_paper", "_law_shown", "_law_bent", "_law_odd_paper"]
def loose : List PySem.Str := loose1 ++ loose2
set_option maxHeartbeats 0 in
theorem run (w : World) : HandSHeadRun.RunEqI RR (PySem.W.view RR.prog [0, 56]) hk ob 12000 loose w := by
  unfold HandSHeadRun.RunEqI
  kernel_rfl
/-- the law, as a function, says True -/
def Says (J : Nat) : Prop := ∀ (G : Gl), G.att = attB → ∀ ns : List Int, ns.length ≤ 63 → ∃ S', (tb G J).f 42 [.rol ns] [] = some (.val (.bl true) S')
theorem holds_of (J : Nat) (hJ : J ≤ 32) (hM : Says J) : PySem.Challenge.rw_patchrealm_k84_game_papers_bent.Holds := by
  w_on; o_law
  refine HandSHeadRun.head_imp (r := RR) (q := PySem.W.view RR.prog [0, 56]) (H := hk) (ob := ob) (M := 12000) (loose := loose) (d := HandSHeadRun.topDef RR.prog 56) (kwd := []) ob_eq
    run (by kernel_rfl) (by kernel_rfl) (by kernel_rfl) (by rfl) (by first | assumption | decide +kernel) (by decide +kernel) ⟨rfl, rfl, rfl, rfl, rfl, by decide +kernel⟩ ?hw ?hc
  case hw => w_witness2
  case hc =>
    refine L2.walk_ofE (l := PySem.Challenge.rw_patchrealm_k84_game_papers_bent) (n := 63) (k := 4 * J) (x := "script") (CX := C8.CX0) rfl (by decide) (by kernel_rfl) ⟨rfl, ?_, ?_⟩ ?F (fun _ _ _ _ z => z)
    · show callerA.depth + 3 * (4 * J) + 5 < recursionLimit
      have : callerA.depth + 3 * (4 * 32) + 5 < recursionLimit := by decide
      omega
    · show callerA.units + 16 * (4 * J) + 200 < cLine
      have : callerA.units + 16 * (4 * 32) + 200 < cLine := by decide
      omega
    intro w mg fa h Y G hmg0
    obtain ⟨K, KX, c⟩ := Y
    have hmg : mg ("law" : PySem.Str) = some (.ref fa) := by
      have e : (HandSHeadRun.topDef RR.prog 56).name = ("law" : PySem.Str) := by kernel_rfl
      rw [← e]
      exact hmg0
    have L := fun base => lev (P := (PySem.Challenge.rw_patchrealm_k84_game_papers_bent).prog) (w := w) (base := base) KX G c
    obtain ⟨fd, F, b⟩ := fd_law c
    have e : fa = He.fAd K ("law", none) := by
      have := hmg.symm.trans (He.glo_ok KX G (c.1.fact 42 (f := .glo "law") rfl))
      cases this
      rfl
    subst e
    refine ⟨K, fd, spOf (mkG (PySem.Challenge.rw_patchrealm_k84_game_papers_bent).prog w K) 1 ((tb (mkG (PySem.Challenge.rw_patchrealm_k84_game_papers_bent).prog w K) J).f 42), KX, fun s u => FunD.bindsA (ps := ["script"]) F (fun _ _ _ _ _ _ us hl => match us, hl with | [_], _ => by kernel_rfl) s [u] rfl, fun H a ns hl hO hS => ?_, fun base hb hg => ?_⟩
    · obtain ⟨S', hS'⟩ := hM (mkG (PySem.Challenge.rw_patchrealm_k84_game_papers_bent).prog w K) rfl ns hl
      refine ⟨[], [], [.rol ns], _, ⟨rfl, List.nodup_nil, fun n o e => by simp at e⟩, .cons ?_ .nil, rfl, hS', fun ρ' H' b st rp rb => by cases rb; rfl⟩
      rcases hS with hS | ⟨o, its, n, h1, h2, h3, h4, h5, h6⟩
      · rcases hS with hS | ⟨o, hS⟩
        · rcases hO a with z | ⟨o, xs, z⟩
          · rw [z] at hS; cases hS
          · rw [z] at hS; cases hS
        · exact .rolF hS
      · exact .rolK o its n ⟨h1, h2, h3, h4, h5, h6⟩
    · cases J with
      | zero => obtain ⟨S', hS'⟩ := hM (mkG (PySem.Challenge.rw_patchrealm_k84_game_papers_bent).prog w K) rfl [] (by decide); cases hS'
      | succ j => exact ok_law (txt KX G c) (L base j) F
end Mini
end

section
set_option Elab.async false
set_option linter.all false
set_option maxRecDepth 100000
namespace Mini
open PySem PySem.Spec PyProof.Rows L2
/-! Ends of the combinators, in plain Lean. -/
/-- ends with a value of which Q holds -/
def wp {α : Type} (m : Option (Res α)) (Q : α → Sto → Prop) : Prop := match m with
  | some (.val a S) => Q a S
  | _ => False
/-- ends by its end (N) or by a value (R) -/
def ws (m : Option SRes) (N : Env' → Sto → Prop) (R : D → Sto → Prop) : Prop := match m with
  | some (.nx e S) => N e S
  | some (.rt d S) => R d S
  | _ => False
section
variable {α β : Type} {m : M α} {k : α → M β} {S : Sto} {Q : β → Sto → Prop} {e : Env'}
theorem wp_ex {m : Option (Res α)} {Q : α → Sto → Prop} (h : wp m Q) : ∃ a S', m = some (.val a S') ∧ Q a S' := by
  unfold wp at h
  split at h
  · exact ⟨_, _, rfl, h⟩
  · cases h
theorem wp_at {m : Option (Res α)} {Q : α → Sto → Prop} {a : α} {S' : Sto} (e : m = some (.val a S')) (h : Q a S') : wp m Q := by subst e; exact h
theorem wp_imp {m : Option (Res α)} {P Q : α → Sto → Prop} (h : wp m P) (i : ∀ a S', P a S' → Q a S') : wp m Q := by
  obtain ⟨a, S', e, p⟩ := wp_ex h
  exact wp_at e (i _ _ p)
@[simp] theorem wp_bnd : wp (bnd m k S) Q ↔ wp (m S) fun a S1 => wp (k a S1) Q := by
  unfold bnd
  cases h : m S with
  | none => simp [wp]
  | some r => cases r <;> simp [wp]
@[simp] theorem wp_some {a : β} : wp (some (.val a S)) Q ↔ Q a S := Iff.rfl
@[simp] theorem wp_ret {a : β} : wp (ret a S) Q ↔ Q a S := Iff.rfl
theorem wp_if {c : Prop} [Decidable c] {x y : Option (Res β)} : wp (if c then x else y) Q ↔ (c → wp x Q) ∧ (¬ c → wp y Q) := by
  split <;> simp_all
theorem wp_iffn {c : Prop} [Decidable c] {x y : M β} : wp ((if c then x else y) S) Q ↔ (c → wp (x S) Q) ∧ (¬ c → wp (y S) Q) := by
  split <;> simp_all
end
section
variable {S : Sto} {e : Env'} {N : Env' → Sto → Prop} {R : D → Sto → Prop} {f g : FS} {fe : FE} {fb : FB}
theorem ws_ex {m : Option SRes} (h : ws m N R) : (∃ e S', m = some (.nx e S') ∧ N e S') ∨ (∃ d S', m = some (.rt d S') ∧ R d S') := by
  unfold ws at h
  split at h
  · exact .inl ⟨_, _, rfl, h⟩
  · exact .inr ⟨_, _, rfl, h⟩
  · cases h
theorem ws_imp {m : Option SRes} {N' : Env' → Sto → Prop} {R' : D → Sto → Prop} (h : ws m N R) (i : ∀ e S, N e S → N' e S) (j : ∀ d S, R d S → R' d S) : ws m N' R' := by
  rcases ws_ex h with ⟨_, _, rfl, p⟩ | ⟨_, _, rfl, p⟩
  · exact i _ _ p
  · exact j _ _ p
@[simp] theorem ws_seq : ws (sSeq f g e S) N R ↔ ws (f e S) (fun e' S' => ws (g e' S') N R) R := by
  unfold sSeq
  cases h : f e S with
  | none => simp [ws]
  | some r => cases r <;> simp [ws]
@[simp] theorem ws_nil : ws (sNil e S) N R ↔ N e S := Iff.rfl
theorem ws_sB {α : Type} {m : M α} {k : α → Sto → Option SRes} : ws (sB m k S) N R ↔ wp (m S) fun a S1 => ws (k a S1) N R := by
  unfold sB
  cases h : m S with
  | none => simp [ws, wp]
  | some r => cases r <;> simp [ws, wp]
@[simp] theorem ws_ret : ws (sRet fe e S) N R ↔ wp (fe e S) R := by
  unfold sRet
  rw [ws_sB]; rfl
@[simp] theorem ws_drop : ws (sDrop fe e S) N R ↔ wp (fe e S) fun _ S' => N e S' := by
  unfold sDrop
  rw [ws_sB]; rfl
@[simp] theorem ws_if : ws (sIf fb f g e S) N R ↔ wp (fb e S) fun b S' => (b = true → ws (f e S') N R) ∧ (b = false → ws (g e S') N R) := by
  unfold sIf
  rw [ws_sB]
  constructor <;> intro h <;> refine wp_imp h fun b S' q => ?_
  · cases b <;> simp_all
  · cases b <;> simp_all
theorem ws_asg {g : FG} : ws (sAsg fe g e S) N R ↔ wp (fe e S) fun d S' => ∃ e', g d e = some e' ∧ N e' S' := by
  unfold sAsg
  rw [ws_sB]
  constructor <;> intro h <;> refine wp_imp h fun d S' q => ?_
  · cases h : g d e with
    | none => simp [h, ws] at q
    | some e' => simp [h, ws] at q; exact ⟨e', rfl, q⟩
  · obtain ⟨e', h, n⟩ := q
    simp [h, ws]; exact n
@[simp] theorem ws_asgV {i : Nat} : ws (sAsg fe (gVar i) e S) N R ↔ wp (fe e S) fun d S' => N (e.set i (some d)) S' := by
  rw [ws_asg]
  simp [gVar]
@[simp] theorem ws_sub {f fo fi : FE} {w : D → D → D → Sto → Option Sto} : ws (sSub f fo fi w e S) N R ↔ wp (f e S) fun d S1 => wp (fo e S1) fun o S2 => wp (fi e S2) fun i S3 => ∃ S', w o i d S3 = some S' ∧ N e S' := by
  unfold sSub
  rw [ws_sB]
  constructor <;> intro h <;> refine wp_imp h fun d S1 q => ?_
  · rw [ws_sB] at q
    refine wp_imp q fun o S2 q => ?_
    rw [ws_sB] at q
    refine wp_imp q fun i S3 q => ?_
    cases h : w o i d S3 with
    | none => simp [h, ws] at q
    | some S' => simp [h, ws] at q; exact ⟨_, rfl, q⟩
  · rw [ws_sB]
    refine wp_imp q fun o S2 q => ?_
    rw [ws_sB]
    refine wp_imp q fun i S3 q => ?_
    obtain ⟨S', h, n⟩ := q
    simp [h, ws]; exact n
/-- a loop, turn by turn -/
theorem ws_loop {it : ItF} {gg : FG} {body : FS} (xs : List D) (I : Nat → Env' → Sto → Prop) (hl : xs.length ≤ lim) (h0 : I 0 e S)
    (step : ∀ i e S, I i e S → ∀ (h : i < xs.length), it i S = some (some xs[i]) ∧ ∃ e1, gg xs[i] e = some e1 ∧ ws (body e1 S) (I (i + 1)) R)
    (stop : ∀ e S, I xs.length e S → it xs.length S = some none ∧ N e S) : ws (loopN it gg body (lim + 1) 0 e S) N R := by
  suffices h : ∀ n i e S, I i e S → i ≤ xs.length → xs.length < n + i → ws (loopN it gg body n i e S) N R from h _ _ _ _ h0 (Nat.zero_le _) (by omega)
  intro n
  induction n with
  | zero => intro i e S _ h1 h2; omega
  | succ n ih =>
    intro i e S hI h1 h2
    unfold loopN
    by_cases h : i < xs.length
    · obtain ⟨a, e1, b, c⟩ := step i e S hI h
      simp only [a, b]
      rcases ws_ex c with ⟨e2, S2, q, r⟩ | ⟨d, S2, q, r⟩
      · rw [q]
        exact ih _ _ _ r (by omega) (by omega)
      · rw [q]; exact r
    · have hi : i = xs.length := by omega
      subst hi
      obtain ⟨a, b⟩ := stop e S hI
      rw [a]; exact b
@[simp] theorem ws_for {fi : FI} {gg : FG} {body : FS} : ws (sFor fi gg body e S) N R ↔ wp (fi e S) fun it S1 => ws (loopN it gg body (lim + 1) 0 e S1) N R := by
  unfold sFor
  exact ws_sB
/-- a comprehension, turn by turn -/
theorem wp_comp {it : ItF} {gg : FG} {ft : FB} {fe : FE} {e0 : Env'} {Q : List D → Sto → Prop} (xs : List D) (I : Nat → List D → Sto → Prop) (hl : xs.length ≤ lim) (h0 : I 0 [] S)
    (step : ∀ i acc S, I i acc S → ∀ (h : i < xs.length), acc.length ≤ i → it i S = some (some xs[i]) ∧ ∃ e1, gg xs[i] e0 = some e1 ∧
      wp (ft e1 S) fun b S1 => (b = true → wp (fe e1 S1) fun y S2 => I (i + 1) (acc ++ [y]) S2) ∧ (b = false → I (i + 1) acc S1))
    (stop : ∀ acc S, I xs.length acc S → it xs.length S = some none ∧ Q acc S) : wp (compN it gg ft fe e0 (lim + 1) 0 [] S) Q := by
  suffices h : ∀ n i acc S, I i acc S → acc.length ≤ i → i ≤ xs.length → xs.length < n + i → wp (compN it gg ft fe e0 n i acc S) Q from h _ _ _ _ h0 (Nat.zero_le _) (Nat.zero_le _) (by omega)
  intro n
  induction n with
  | zero => intro i acc S _ _ h1 h2; omega
  | succ n ih =>
    intro i acc S hI ha h1 h2
    unfold compN
    by_cases h : i < xs.length
    · obtain ⟨a, e1, b, c⟩ := step i acc S hI h ha
      simp only [a, b]
      obtain ⟨t, S1, q, c1, c2⟩ := wp_ex c
      rw [q]
      cases t with
      | true =>
        obtain ⟨y, S2, q2, r⟩ := wp_ex (c1 rfl)
        simp only [q2]
        rw [if_pos (by omega)]
        exact ih _ _ _ r (by simp; omega) (by omega) (by omega)
      | false => exact ih _ _ _ (c2 rfl) (by omega) (by omega) (by omega)
    · have hi : i = xs.length := by omega
      subst hi
      obtain ⟨a, b⟩ := stop acc S hI
      rw [a]; exact b
@[simp] theorem wp_fComp {fi : FI} {gg : FG} {ft : FB} {fe : FE} {vs : List Nat} {Q : List D → Sto → Prop} : wp (fComp fi gg ft fe vs e S) Q ↔ wp (fi e S) fun it S1 => wp (compN it gg ft fe (wipeE e vs) (lim + 1) 0 [] S1) Q := by
  unfold fComp
  exact wp_bnd
/-- a def as a function -/
theorem wp_run {n m : Nat} {b : FS} {ds : List D} {Q : D → Sto → Prop} (hn : ds.length = n) (h : ws (b (ds.map some ++ List.replicate (m - n) none) S) (fun _ S' => Q .non S') Q) : wp (runFn n m b ds S) Q := by
  unfold runFn
  rw [if_pos hn]
  rcases ws_ex h with ⟨_, _, q, p⟩ | ⟨_, _, q, p⟩
  · rw [q]; exact p
  · rw [q]; exact p
theorem wp_runE {n m : Nat} {b : FS} {ds : List D} {Q : D → Sto → Prop} (e : Env') (hn : ds.length = n) (he : ds.map some ++ List.replicate (m - n) none = e) (h : ws (b e S) (fun _ S' => Q .non S') Q) : wp (runFn n m b ds S) Q := wp_run hn (by rw [he]; exact h)
theorem wp_fn {n m : Nat} {b : FS} {ds : List D} {F : List D → M D} {Q : D → Sto → Prop} (hF : F = runFn n m b) (e : Env') (hn : ds.length = n) (he : ds.map some ++ List.replicate (m - n) none = e) (h : ws (b e S) (fun _ S' => Q .non S') Q) : wp (F ds S) Q := by subst hF; exact wp_runE e hn he h
/-! ### expressions -/
section
variable {Q : D → Sto → Prop} {QL : List D → Sto → Prop} {QB : Bool → Sto → Prop} {f1 f2 : FE} {la : FA} {gb hb : FB} {i : Nat} {d : D}
theorem wp_var (h : e[i]? = some (some d)) (q : Q d S) : wp (eVar i e S) Q := by
  unfold eVar; rw [h]; exact q
@[simp] theorem wp_eVar : wp (eVar i e S) Q ↔ ∃ d, e[i]? = some (some d) ∧ Q d S := by
  unfold eVar
  constructor
  · intro h
    split at h
    · exact ⟨_, by assumption, h⟩
    · cases h
  · rintro ⟨d, h, q⟩
    rw [h]; exact q
@[simp] theorem wp_c : wp (eC d e S) Q ↔ Q d S := Iff.rfl
@[simp] theorem wp_nil : wp (aNil e S) QL ↔ QL [] S := Iff.rfl
@[simp] theorem wp_cons : wp (aCons f1 la e S) QL ↔ wp (f1 e S) fun d S1 => wp (la e S1) fun ds S2 => QL (d :: ds) S2 := by
  unfold aCons
  rw [wp_bnd]
  constructor <;> intro h <;> refine wp_imp h fun d S1 q => ?_
  · rw [wp_bnd] at q; exact q
  · rw [wp_bnd]; exact q
@[simp] theorem wp_op2 {op : D → D → M D} : wp (fOp2 op f1 f2 e S) Q ↔ wp (f1 e S) fun x S1 => wp (f2 e S1) fun y S2 => wp (op x y S2) Q := by
  unfold fOp2
  rw [wp_bnd]
  constructor <;> intro h <;> refine wp_imp h fun d S1 q => ?_
  · rw [wp_bnd] at q; exact q
  · rw [wp_bnd]; exact q
@[simp] theorem wp_call {α : Type} {f : List D → M α} {Q : α → Sto → Prop} : wp (fCall f la e S) Q ↔ wp (la e S) fun ds S1 => wp (f ds S1) Q := wp_bnd
@[simp] theorem wp_callU {n : Nat} {F : List D → M D} : wp (fCallU n F la e S) Q ↔ wp (la e S) fun ds S1 => ds.length = n ∧ wp (F ds S1) Q := by
  unfold fCallU
  rw [wp_bnd]
  constructor <;> intro h <;> refine wp_imp h fun d S1 q => ?_
  · split at q
    · exact ⟨by assumption, q⟩
    · cases q
  · rw [if_pos q.1]; exact q.2
@[simp] theorem wp_bVal : wp (bVal f1 e S) QB ↔ wp (f1 e S) fun d S1 => ∃ b, d = .bl b ∧ QB b S1 := by
  unfold bVal
  rw [wp_bnd]
  constructor <;> intro h <;> refine wp_imp h fun d S1 q => ?_
  · cases d <;> first | exact ⟨_, rfl, q⟩ | cases q
  · obtain ⟨b, rfl, q⟩ := q; exact q
@[simp] theorem wp_bNot : wp (bNot gb e S) QB ↔ wp (gb e S) fun b S1 => QB (!b) S1 := wp_bnd
@[simp] theorem wp_bAnd : wp (bAnd gb hb e S) QB ↔ wp (gb e S) fun b S1 => (b = true → wp (hb e S1) QB) ∧ (b = false → QB false S1) := by
  unfold bAnd
  rw [wp_bnd]
  constructor <;> intro h <;> refine wp_imp h fun b S1 q => ?_
  · cases b <;> simp_all [wp, ret]
  · cases b <;> simp_all [wp, ret]
@[simp] theorem wp_bOr : wp (bOr gb hb e S) QB ↔ wp (gb e S) fun b S1 => (b = true → QB true S1) ∧ (b = false → wp (hb e S1) QB) := by
  unfold bOr
  rw [wp_bnd]
  constructor <;> intro h <;> refine wp_imp h fun b S1 q => ?_
  · cases b <;> simp_all [wp, ret]
  · cases b <;> simp_all [wp, ret]
@[simp] theorem wp_vAnd : wp (vAnd f1 f2 e S) Q ↔ wp (f1 e S) fun d S1 => ∃ b, d = .bl b ∧ (b = true → wp (f2 e S1) Q) ∧ (b = false → Q (.bl false) S1) := by
  unfold vAnd
  rw [wp_bnd]
  constructor <;> intro h <;> refine wp_imp h fun d S1 q => ?_
  · cases d <;> first | (rename_i b; refine ⟨b, rfl, ?_⟩; cases b <;> simp_all [wp, ret, bnd, asBl]) | cases q
  · obtain ⟨b, rfl, q⟩ := q; cases b <;> simp_all [wp, ret, bnd, asBl]
@[simp] theorem wp_vNot : wp (vNot f1 e S) Q ↔ wp (f1 e S) fun d S1 => ∃ b, d = .bl b ∧ Q (.bl !b) S1 := by
  unfold vNot
  rw [wp_bnd]
  constructor <;> intro h <;> refine wp_imp h fun d S1 q => ?_
  · cases d <;> first | (rename_i b; refine ⟨b, rfl, ?_⟩; cases b <;> simp_all [wp, ret, bnd, asBl]) | cases q
  · obtain ⟨b, rfl, q⟩ := q; cases b <;> simp_all [wp, ret, bnd, asBl]
@[simp] theorem wp_tup : wp (fTup la e S) Q ↔ wp (la e S) fun ds S1 => ds.length ≤ lim ∧ Q (.tup ds) S1 := by
  unfold fTup
  rw [wp_bnd]
  constructor <;> intro h <;> refine wp_imp h fun d S1 q => ?_
  · split at q
    · exact ⟨by assumption, q⟩
    · cases q
  · rw [if_pos q.1]; exact q.2
@[simp] theorem wp_lst : wp (fLst la e S) QL ↔ wp (la e S) fun ds S1 => ds.length ≤ lim ∧ QL ds S1 := by
  unfold fLst
  rw [wp_bnd]
  constructor <;> intro h <;> refine wp_imp h fun d S1 q => ?_
  · split at q
    · exact ⟨by assumption, q⟩
    · cases q
  · rw [if_pos q.1]; exact q.2
@[simp] theorem wp_new : wp (fNew la e S) Q ↔ wp (la e S) fun ds S1 => Q (.obj S1.length) (S1 ++ [.lst ds]) := by
  unfold fNew
  rw [wp_bnd]
  exact Iff.rfl
@[simp] theorem wp_isi {ns : List String} : wp (fIsi ns f1 e S) Q ↔ wp (f1 e S) fun d S1 => ∃ t k, tyOf S1 d = some t ∧ isiAny t ns = some k ∧ Q (.bl k) S1 := by
  unfold fIsi
  rw [wp_bnd]
  constructor <;> intro h <;> refine wp_imp h fun d S1 q => ?_
  · cases ht : tyOf S1 d with
    | none => simp only [ht] at q; cases q
    | some t =>
      simp only [ht] at q
      cases hk : isiAny t ns with
      | none => simp only [hk] at q; cases q
      | some k => simp only [hk] at q; exact ⟨t, k, rfl, hk, q⟩
  · obtain ⟨t, k, ht, hk, q⟩ := q
    simp only [ht, hk]; exact q
@[simp] theorem wp_fVal {QI : ItF → Sto → Prop} : wp (fVal f1 e S) QI ↔ wp (f1 e S) fun d S1 => okIt S1 d = true ∧ QI (itVal d) S1 := by
  unfold fVal
  rw [wp_bnd]
  constructor <;> intro h <;> refine wp_imp h fun d S1 q => ?_
  · split at q
    · exact ⟨by assumption, q⟩
    · cases q
  · rw [if_pos q.1]; exact q.2
@[simp] theorem wp_enum1 {QI : ItF → Sto → Prop} : wp (fEnum (aCons f1 aNil) e S) QI ↔ wp (f1 e S) fun d S1 => (seqOf S1 d).isSome = true ∧ QI (itEnum d) S1 := by
  unfold fEnum
  rw [wp_bnd, wp_cons]
  constructor <;> intro h <;> refine wp_imp h fun d S1 q => ?_
  · have q : wp (if (seqOf S1 d).isSome = true then some (.val (itEnum d) S1) else none) QI := q
    split at q
    · exact ⟨by assumption, q⟩
    · cases q
  · show wp (if (seqOf S1 d).isSome = true then some (.val (itEnum d) S1) else none) QI
    rw [if_pos q.1]; exact q.2
end
end
end Mini
end

section
set_option Elab.async false
set_option linter.all false
set_option maxRecDepth 100000
namespace Mini
open PySem PySem.Spec PyProof.Rows L2
/-! the tables, shut -/
@[irreducible] def cf (G : Gl) (L i : Nat) : List D → M D := (tb G L).f i
@[irreducible] def cm (G : Gl) (L i : Nat) : List D → M D := (tb G L).m i
@[irreducible] def cc (G : Gl) (L i : Nat) : List D → M D := (tb G L).c i
theorem cf_eq {G : Gl} {L : Nat} : cf G L = (tb G L).f := by funext i; unfold cf; rfl
theorem cm_eq {G : Gl} {L : Nat} : cm G L = (tb G L).m := by funext i; unfold cm; rfl
theorem cc_eq {G : Gl} {L : Nat} : cc G L = (tb G L).c := by funext i; unfold cc; rfl
section
variable {G : Gl} {k i n m : Nat} {b : FS} {ds : List D} {S : Sto} {Q : D → Sto → Prop}
theorem wp_cf (hF : sF G (cf G k) (cm G k) (cc G k) i = runFn n m b) (e : Env') (hn : ds.length = n) (he : ds.map some ++ List.replicate (m - n) none = e) (h : ws (b e S) (fun _ S' => Q .non S') Q) : wp (cf G (k + 1) i ds S) Q := by
  rw [cf_eq, cm_eq, cc_eq] at hF
  rw [cf_eq]
  exact wp_fn hF e hn he h
theorem wp_cm (hF : sM G (cf G k) (cm G k) (cc G k) i = runFn n m b) (e : Env') (hn : ds.length = n) (he : ds.map some ++ List.replicate (m - n) none = e) (h : ws (b e S) (fun _ S' => Q .non S') Q) : wp (cm G (k + 1) i ds S) Q := by
  rw [cf_eq, cm_eq, cc_eq] at hF
  rw [cm_eq]
  exact wp_fn hF e hn he h
theorem wp_cc (hF : sC G (cf G k) (cm G k) (cc G k) i = runFn n m b) (e : Env') (hn : ds.length = n) (he : ds.map some ++ List.replicate (m - n) none = e) (h : ws (b e S) (fun _ S' => Q .non S') Q) : wp (cc G (k + 1) i ds S) Q := by
  rw [cf_eq, cm_eq, cc_eq] at hF
  rw [cc_eq]
  exact wp_fn hF e hn he h
end
/-! k84: the checks. -/
def qTup : D → Bool
  | .tup _ => true
  | _ => false
def qBl : D → Bool
  | .bl _ => true
  | _ => false
def qInt : D → Bool
  | .int _ => true
  | .bl _ => true
  | _ => false
def qStr : D → Bool
  | .str _ => true
  | _ => false
def qSeq (S : Sto) : D → Bool
  | .tup _ => true
  | .obj _ => true
  | _ => false
def isNum : D → Bool
  | .int i => decide (0 ≤ i)
  | _ => false
def isBel (n : Int) : D → Bool
  | .int i => decide (0 ≤ i) && decide (i < n)
  | _ => false
def Typ (S : Sto) (d : D) : Prop := (tyOf S d).isSome = true
theorem typ_at {S : Sto} {n : Nat} (h : Typ S (.obj n)) : tyOf S (.obj n) = some "list" := by
  unfold Typ at h
  cases hS : S[n]? with
  | none => simp [tyOf, hS] at h
  | some o => cases o <;> simp_all [tyOf]
theorem isi_tuple {S : Sto} {d : D} (h : Typ S d) : ∃ t, tyOf S d = some t ∧ isiAny t ["tuple"] = some (qTup d) := by
  cases d with
  | obj n => exact ⟨_, typ_at h, by simp [isiAny, isiB, qTup, qInt, qBl, qStr]⟩
  | rng _ _ => cases h
  | rol _ => cases h
  | _ => exact ⟨_, rfl, by simp [isiAny, isiB, qTup]⟩
theorem isi_int {S : Sto} {d : D} (h : Typ S d) : ∃ t, tyOf S d = some t ∧ isiAny t ["int"] = some (qInt d) := by
  cases d with
  | obj n => exact ⟨_, typ_at h, by simp [isiAny, isiB, qTup, qInt, qBl, qStr]⟩
  | rng _ _ => cases h
  | rol _ => cases h
  | _ => exact ⟨_, rfl, by simp [isiAny, isiB, qInt]⟩
theorem isi_bool {S : Sto} {d : D} (h : Typ S d) : ∃ t, tyOf S d = some t ∧ isiAny t ["bool"] = some (qBl d) := by
  cases d with
  | obj n => exact ⟨_, typ_at h, by simp [isiAny, isiB, qTup, qInt, qBl, qStr]⟩
  | rng _ _ => cases h
  | rol _ => cases h
  | _ => exact ⟨_, rfl, by simp [isiAny, isiB, qBl]⟩
theorem isi_str {S : Sto} {d : D} (h : Typ S d) : ∃ t, tyOf S d = some t ∧ isiAny t ["str"] = some (qStr d) := by
  cases d with
  | obj n => exact ⟨_, typ_at h, by simp [isiAny, isiB, qTup, qInt, qBl, qStr]⟩
  | rng _ _ => cases h
  | rol _ => cases h
  | _ => exact ⟨_, rfl, by simp [isiAny, isiB, qStr]⟩
theorem isi_ex {S : Sto} {d : D} {ns : List String} {k : Bool} {Q : Bool → Prop} (h : ∃ t, tyOf S d = some t ∧ isiAny t ns = some k) (q : Q k) : ∃ t, tyOf S d = some t ∧ ∃ k, isiAny t ns = some k ∧ Q k := by
  obtain ⟨t, a, b⟩ := h
  exact ⟨t, a, k, b, q⟩
section
variable {G : Gl} {k : Nat} {S : Sto} {d x : D} {Q : D → Sto → Prop}
theorem f_is_number (h : Typ S d) (q : Q (.bl (isNum d)) S) : wp (cf G (k + 1) 4 [d] S) Q := by
  refine wp_cf rfl [some d] rfl rfl ?_
  obtain ⟨t1, a1, b1⟩ := isi_int h
  obtain ⟨t2, a2, b2⟩ := isi_bool h
  simp [d_is_number, a1, b1]
  rw [a1] at a2
  cases a2
  simp [b2]
  cases d <;> simp_all [qInt, qBl, isNum, opI]
theorem f_is_below (h : Typ S d) {n : Int} (q : Q (.bl (isBel n d)) S) : wp (cf G (k + 2) 5 [d, .int n] S) Q := by
  refine wp_cf rfl [some d, some (.int n)] rfl rfl ?_
  simp [d_is_below]
  refine f_is_number h ?_
  cases d <;> simp_all [isNum, isBel, opLt]
  rename_i i
  by_cases h0 : 0 ≤ i <;> simp_all
theorem f_is_sequence {xs : List D} (h : seqOf S d = some xs) (hr : ∀ ns, d ≠ .rol ns) (q : Q (.bl true) S) : wp (cf G (k + 1) 3 [d] S) Q := by
  refine wp_cf rfl [some d] rfl rfl ?_
  simp [d_is_sequence]
  cases d <;> simp_all [seqOf, lstOf, tyOf, isiAny, isiB]
  rename_i n
  split at h
  · rename_i hx; simp [hx]
  · cases h

/-! ### rows, pictures, turns -/
def dI (ns : List Int) : D := .tup (ns.map D.int)
def dP (P : List (List Int)) : D := .tup (P.map dI)
structure Pic (t : Int) (P : List (List Int)) : Prop where
  many : P.length ≤ 16
  row : ∀ j (h : j < P.length), P[j].length = j
  low : ∀ r ∈ P, ∀ x ∈ r, 0 ≤ x ∧ x < t
structure Turn (t : Int) (T : List Int) : Prop where
  len : (T.length : Int) = t
  pos : 1 ≤ t
  few : t ≤ 16
  low : ∀ x ∈ T, 0 ≤ x ∧ x < t
  inv : ∀ i (h : i < T.length), T[T[i].toNat]? = some (i : Int)
@[simp] theorem eqD_int {a b : Int} : eqD S (.int a) (.int b) = some (a == b) := by
  simp [eqD, toPy, fuel, SeqAt.shaped, PyData.canLay0, PyData.depth, PyData.eqv]
theorem eqW {neg : Bool} {a b : D} {c : Bool} (h : eqD S a b = some c) (q : Q (.bl (if neg then !c else c)) S) : wp (opEq neg a b S) Q := by
  unfold opEq
  rw [h]; exact q
theorem typ_int {i : Int} : Typ S (.int i) := rfl
theorem len_W {xs : List D} (h : seqOf S d = some xs) (q : Q (.int xs.length) S) : wp (cLen [d] S) Q := by
  unfold cLen
  simp only [h]; exact q
theorem typ_dI {r : List Int} : Typ S (dI r) := rfl
theorem typ_dP {P : List (List Int)} : Typ S (dP P) := rfl
@[simp] theorem wp_opEq {neg : Bool} {a b : D} : wp (opEq neg a b S) Q ↔ ∃ c, eqD S a b = some c ∧ Q (.bl (if neg then !c else c)) S := by
  unfold opEq
  cases h : eqD S a b <;> simp [wp]
@[simp] theorem wp_cLen : wp (cLen [d] S) Q ↔ ∃ xs, seqOf S d = some xs ∧ Q (.int xs.length) S := by
  unfold cLen
  cases h : seqOf S d <;> simp [wp, h]
@[simp] theorem seq_tup {xs : List D} : seqOf S (.tup xs) = some xs := rfl
@[simp] theorem ok_tup {xs : List D} : okIt S (.tup xs) = true := rfl
@[simp] theorem ok_rng {a b : Int} : okIt S (.rng a b) = decide (-(2 ^ 62) ≤ a ∧ a < 2 ^ 62 ∧ -(2 ^ 62) ≤ b ∧ b < 2 ^ 62) := rfl
@[simp] theorem ty_tup {xs : List D} : tyOf S (.tup xs) = some "tuple" := rfl
@[simp] theorem isi_tt : isiAny "tuple" ["tuple"] = some true := by simp [isiAny, isiB]
theorem f_is_row {r : List Int} {n t : Int} (hl : r.length ≤ 16) (hn : (r.length : Int) = n) (low : ∀ x ∈ r, 0 ≤ x ∧ x < t) (q : Q (.bl true) S) : wp (cf G (k + 3) 7 [dI r, .int n, .int t] S) Q := by
  refine wp_cf rfl [some (dI r), some (.int n), some (.int t), none] rfl rfl ?_
  simp [d_is_row, dI, hn]
  refine ws_loop (r.map D.int) (fun i e S' => ∃ x, e = [some (dI r), some (.int n), some (.int t), x] ∧ S' = S) (by simp [lim]; omega) ⟨_, rfl, rfl⟩ (fun i e S' ⟨x, he, hS⟩ hi => ?_) (fun e S' ⟨x, he, hS⟩ => ?_)
  · subst he hS
    simp at hi
    refine ⟨by simp [itVal, seqOf, hi], _, rfl, ?_⟩
    simp [hi]
    refine f_is_below typ_int ?_
    have := low _ (List.getElem_mem hi)
    simp [isBel, this]
  · subst he hS
    simp [itVal, seqOf]
    exact q
theorem f_is_shape {P : List (List Int)} {t : Int} (hp : Pic t P) (q : Q (.bl true) S) : wp (cf G (k + 4) 8 [dP P, .int t] S) Q := by
  refine wp_cf rfl [some (dP P), some (.int t), none, none] rfl rfl ?_
  simp [d_is_shape, dP]
  have hm := hp.many
  refine ws_loop ((List.range P.length).zip P |>.map fun p => .tup [.int p.1, dI p.2]) (fun i e S' => ∃ x y, e = [some (dP P), some (.int t), x, y] ∧ S' = S) (by simp [lim]; omega) ⟨_, _, rfl, rfl⟩ (fun i e S' ⟨x, y, he, hS⟩ hi => ?_) (fun e S' ⟨x, y, he, hS⟩ => ?_)
  · subst he hS
    simp at hi
    refine ⟨by simp [itEnum, seqOf, hi], ?_⟩
    simp [hi, gTupD, gAll, gVar]
    have hr := hp.row i hi
    refine f_is_row (by omega) (by rw [hr]) (hp.low _ (List.getElem_mem hi)) ?_
    simp
  · subst he hS
    simp [itEnum, seqOf]
    exact q
theorem wp_fld {c nm : Str} {n : Nat} {fs : List (Str × D)} {v : D} (h1 : S[n]? = some (.ins c fs)) (h2 : G.att c nm = true) (h3 : fs.lookup nm = some v) {fe : FE} {e : Env'} (h : wp (fe e S) fun d S1 => d = .obj n ∧ S1 = S) (q : Q v S) : wp (fFld G nm fe e S) Q := by
  unfold fFld
  rw [wp_bnd]
  refine wp_imp h fun d S1 q1 => ?_
  obtain ⟨rfl, rfl⟩ := q1
  simp only [h1, h2, h3, if_true]; exact q
theorem f_check_picture {P : List (List Int)} {t : Int} {n : Nat} {fs : List (Str × D)} (hG : G.att = attB) (hS : S[n]? = some (.ins ("Table" : Str) fs)) (hf : fs.lookup ("ties" : Str) = some (D.int t)) (hp : Pic t P) (q : Q .non S) : wp (cf G (k + 5) 28 [.obj n, dP P] S) Q := by
  refine wp_cf rfl [some (.obj n), some (dP P)] rfl rfl ?_
  simp [d_check_picture]
  refine wp_fld hS (by rw [hG]; rfl) hf (by simp) ?_
  refine f_is_shape hp ?_
  simp
  exact q
theorem f_check_number {i : Int} (h : 0 ≤ i) (q : Q .non S) : wp (cf G (k + 2) 29 [.int i] S) Q := by
  refine wp_cf rfl [some (.int i)] rfl rfl ?_
  simp [d_check_number]
  refine f_is_number typ_int ?_
  simp [isNum, h]
  exact q
def tieV (T : List Int) (P : List (List Int)) (i j : Nat) : Int := if i < j then (P.getD j []).getD i 0 else T.getD ((P.getD i []).getD j 0).toNat 0
theorem pic_at {P : List (List Int)} {t : Int} (hP : Pic t P) {i j : Nat} (hj : j < P.length) (h : i < j) : ∃ (hi : i < P[j].length), (P.getD j []).getD i 0 = P[j][i] ∧ 0 ≤ P[j][i] ∧ P[j][i] < t := by
  have hl := hP.row j hj
  have hi : i < P[j].length := by omega
  refine ⟨hi, by simp [List.getD, hj, hi], hP.low _ (List.getElem_mem hj) _ (List.getElem_mem hi)⟩
theorem tie_core {T : List Int} {P : List (List Int)} {t : Int} {i j : Nat} (hT : Turn t T) (hP : Pic t P) (hi : i < P.length) (hj : j < P.length) (hne : i ≠ j) : 0 ≤ tieV T P i j ∧ tieV T P i j < t := by
  unfold tieV
  split
  · rename_i h
    obtain ⟨h1, e, h2⟩ := pic_at hP hj h
    rw [e]; exact h2
  · rename_i h
    obtain ⟨h1, e, h2, h3⟩ := pic_at hP hi (show j < i by omega)
    rw [e]
    have : (P[i][j]).toNat < T.length := by have := hT.len; omega
    simp [List.getD, this]
    exact hT.low _ (List.getElem_mem this)
theorem ixW {xs : List D} {i : Nat} (h : seqOf S d = some xs) (hi : i < xs.length) (q : Q xs[i] S) : wp (opIx d (.int i) S) Q := by
  unfold opIx
  have : L2.atI xs (i : Int) = some xs[i] := by
    unfold L2.atI L2.ixN
    simp [hi]
  simp only [h, this]
  exact q
theorem tie_W {T : List Int} {P : List (List Int)} {t : Int} {i j : Nat} (hT : Turn t T) (hP : Pic t P) (hi : i < P.length) (hj : j < P.length) (hne : i ≠ j) (q : Q (.int (tieV T P i j)) S) : wp (cf G (k + 1) 10 [dI T, dP P, .int i, .int j] S) Q ∧ wp (cf G (k + 1) 19 [dI T, dP P, .int i, .int j] S) Q := by
  constructor
  all_goals
    refine wp_cf rfl [some (dI T), some (dP P), some (.int i), some (.int j)] rfl rfl ?_
    simp [d_tie_in, d_l_law_tie, opLt]
    by_cases h : i < j
    · obtain ⟨h1, e, h2⟩ := pic_at hP hj h
      simp [h, show ¬ j ≤ i by omega]
      refine ixW (xs := P.map dI) (by rfl) (by simpa using hj) ?_
      refine ixW (i := i) (xs := P[j].map D.int) (by simp [dI]) (by simpa using h1) ?_
      simp [tieV, h] at q
      rw [← List.getD_eq_getElem?_getD, ← List.getD_eq_getElem?_getD, e] at q
      simpa using q
    · obtain ⟨h1, e, h2, h3⟩ := pic_at hP hi (show j < i by omega)
      simp [h, show j ≤ i by omega]
      refine ixW (xs := P.map dI) (by rfl) (by simpa using hi) ?_
      refine ixW (i := j) (xs := P[i].map D.int) (by simp [dI]) (by simpa using h1) ?_
      have ht : (P[i][j]).toNat < T.length := by have := hT.len; omega
      have hc : (P[i][j]) = ((P[i][j]).toNat : Int) := by omega
      simp
      rw [hc]
      refine ixW (xs := T.map D.int) (by rfl) (by simpa using ht) ?_
      simp only [tieV, if_neg h, e] at q
      simpa [List.getD, ht] using q
end
end Mini
end

section
set_option Elab.async false
set_option linter.all false
set_option maxRecDepth 100000
namespace Mini
open PySem PySem.Spec PyProof.Rows L2
/-! k84: the game's own functions. -/
def gw (T : List Int) (A B : List (List Int)) (a b : Nat × Nat) : Bool := if a.1 = b.1 ∨ a.2 = b.2 then decide (a.1 = b.1) && decide (a.2 = b.2) else tieV T A a.1 b.1 == tieV T B a.2 b.2
def go (T : List Int) (A B : List (List Int)) (ps : List (Nat × Nat)) (b : Nat × Nat) : Bool := ps.all fun a => gw T A B a b
def dPr (p : Nat × Nat) : D := .tup [.int p.1, .int p.2]
def dPs (ps : List (Nat × Nat)) : D := .tup (ps.map dPr)
def InP (A B : List (List Int)) (ps : List (Nat × Nat)) : Prop := ∀ p ∈ ps, p.1 < A.length ∧ p.2 < B.length
def GameAt (S : Sto) (g : Nat) (T : List Int) (A B : List (List Int)) : Prop := ∃ kk, S[g]? = some (.ins ("Game" : Str) [(("turn" : Str), dI T), (("sides" : Str), .tup [dP A, dP B]), (("known" : Str), .obj kk)])
structure Envi (G : Gl) (t : Int) (T : List Int) (A B : List (List Int)) : Prop where
  att : G.att = attB
  turn : Turn t T
  a : Pic t A
  b : Pic t B
section
variable {G : Gl} {k : Nat} {S : Sto} {d x : D} {Q : D → Sto → Prop} {t : Int} {T : List Int} {A B : List (List Int)} {g : Nat}
theorem GameAt.turn (h : GameAt S g T A B) (hG : G.att = attB) {fe : FE} {e : Env'} (he : wp (fe e S) fun d S1 => d = .obj g ∧ S1 = S) (q : Q (dI T) S) : wp (fFld G "turn" fe e S) Q := by
  obtain ⟨kk, h1⟩ := h
  exact wp_fld h1 (by rw [hG]; rfl) (by rfl) he q
theorem GameAt.sides (h : GameAt S g T A B) (hG : G.att = attB) {fe : FE} {e : Env'} (he : wp (fe e S) fun d S1 => d = .obj g ∧ S1 = S) (q : Q (.tup [dP A, dP B]) S) : wp (fFld G "sides" fe e S) Q := by
  obtain ⟨kk, h1⟩ := h
  exact wp_fld h1 (by rw [hG]; rfl) (by rfl) he q
theorem wp_meth {c m : Str} {n : Nat} {F : List D → M D} {fo : FE} {la : FA} {e : Env'} {fs : List (Str × D)} (hS : S[g]? = some (.ins c fs)) (hm : fs.lookup m = none) (ho : wp (fo e S) fun d S1 => d = .obj g ∧ S1 = S) (q : wp (la e S) fun ds S1 => ds.length + 1 = n ∧ wp (F (.obj g :: ds) S1) Q) : wp (fMeth c m n F fo la e S) Q := by
  unfold fMeth
  rw [wp_bnd]
  refine wp_imp ho fun d S1 q1 => ?_
  obtain ⟨rfl, rfl⟩ := q1
  simp only [hS, hm, and_self, if_true]
  rw [wp_bnd]
  refine wp_imp q fun ds S2 q2 => ?_
  rw [if_pos q2.1]; exact q2.2
theorem m_goes_with (V : Envi G t T A B) (h : GameAt S g T A B) {a b : Nat × Nat} (ha : a.1 < A.length ∧ a.2 < B.length) (hb : b.1 < A.length ∧ b.2 < B.length) (q : Q (.bl (gw T A B a b)) S) : wp (cm G (k + 2) 1 [.obj g, dPr a, dPr b] S) Q := by
  refine wp_cm rfl [some (.obj g), some (dPr a), some (dPr b), none, none, none, none, none, none] rfl rfl ?_
  obtain ⟨p, r⟩ := a
  obtain ⟨u, v⟩ := b
  simp only [dPr] at *
  simp [d_Game_goes_with, ws_asg, gTupD, gAll, gVar]
  by_cases h1 : p = u
  · by_cases h2 : r = v
    · simp [gw, h1, h2] at q
      simp [h1, h2]; exact q
    · have h2' : ¬ (r : Int) = v := by omega
      simp [gw, h1, h2] at q
      simp [h1, h2']; exact q
  · have h1' : ¬ (p : Int) = u := by omega
    by_cases h2 : r = v
    · simp [gw, h1, h2] at q
      simp [h1', h2]
      exact q
    · have h2' : ¬ (r : Int) = v := by omega
      simp [gw, h1, h2] at q
      simp [h1', h2']
      refine h.sides V.att ?_ ?_
      · simp
      simp [gTupD, gAll, gVar]
      refine h.turn V.att (by simp) ?_
      refine (tie_W V.turn V.a ha.1 hb.1 h1 ?_).1
      refine h.turn V.att (by simp) ?_
      refine (tie_W V.turn V.b ha.2 hb.2 h2 ?_).1
      by_cases hz : tieV T A p u = tieV T B r v
      · simp [hz] at q ⊢; exact q
      · rw [show (tieV T A p u == tieV T B r v) = false by simp [hz]] at q
        simp [hz]; exact q
theorem m_goes_on (V : Envi G t T A B) (h : GameAt S g T A B) {ps : List (Nat × Nat)} {b : Nat × Nat} (hl : ps.length ≤ 16) (ha : InP A B ps) (hb : b.1 < A.length ∧ b.2 < B.length) (q : Q (.bl (go T A B ps b)) S) : wp (cm G (k + 3) 2 [.obj g, dPs ps, dPr b] S) Q := by
  refine wp_cm rfl [some (.obj g), some (dPs ps), some (dPr b), none] rfl rfl ?_
  simp [d_Game_goes_on, dPs]
  obtain ⟨kk, h1⟩ := id h
  refine ws_loop (ps.map dPr) (fun i e S' => ∃ x, e = [some (.obj g), some (dPs ps), some (dPr b), x] ∧ S' = S ∧ (ps.take i).all (fun a => gw T A B a b) = true) (by simp [lim]; omega) ⟨_, rfl, rfl, rfl⟩ (fun i e S' ⟨x, he, hS, hx⟩ hi => ?_) (fun e S' ⟨x, he, hS, hx⟩ => ?_)
  · subst he hS
    simp at hi
    refine ⟨by simp [itVal, seqOf, hi], _, rfl, ?_⟩
    simp [hi]
    refine wp_meth h1 (by rfl) (by simp) ?_
    simp
    refine m_goes_with V h (ha _ (List.getElem_mem hi)) hb ?_
    cases hgw : gw T A B ps[i] b with
    | true =>
      have hx2 : (ps.take (i + 1)).all (fun a => gw T A B a b) = true := by
        rw [List.take_succ_eq_append_getElem hi, List.all_append, hx]
        simp only [List.all_cons, List.all_nil, hgw, Bool.and_self]
      simpa using hx2
    | false =>
      simp
      have : go T A B ps b = false := by
        unfold go
        rw [List.all_eq_false]
        exact ⟨_, List.getElem_mem hi, by simp [hgw]⟩
      rw [this] at q
      exact q
  · subst he hS
    simp at hx
    simp [itVal, seqOf]
    have : go T A B ps b = true := by
      unfold go
      simp
      exact hx
    rw [this] at q
    exact q
/-! the papers' values -/
/-- finite data: no ranges, no dicts, lists out of the way of what changes -/
def Pap (o : Nat) (S : Sto) : Nat → D → Prop
  | _, .non => True
  | _, .bl _ => True
  | _, .int _ => True
  | _, .str x => PyData.strOk x = true
  | n + 1, .tup xs => xs.length ≤ 8 ∧ ∀ x ∈ xs, Pap o S n x
  | n + 1, .obj j => j ≠ o ∧ ∃ xs, S[j]? = some (.lst xs) ∧ xs.length ≤ 8 ∧ ∀ x ∈ xs, Pap o S n x
  | _, _ => False
/-- what stands, stands on, but for the object o -/
structure Kp (o : Nat) (S S' : Sto) : Prop where
  len : S.length ≤ S'.length
  get : ∀ i, i < S.length → i ≠ o → S'[i]? = S[i]?
theorem Kp.refl {o : Nat} (S : Sto) : Kp o S S := ⟨Nat.le_refl _, fun _ _ _ => rfl⟩
theorem Kp.trans {o : Nat} {S1 S2 S3 : Sto} (a : Kp o S1 S2) (b : Kp o S2 S3) : Kp o S1 S3 := ⟨Nat.le_trans a.len b.len, fun i h n => by rw [b.get i (Nat.lt_of_lt_of_le h a.len) n, a.get i h n]⟩
theorem Kp.of {o : Nat} {S S' : Sto} (h : S <+: S') : Kp o S S' := by
  obtain ⟨U, rfl⟩ := h
  exact ⟨by simp, fun i h _ => by rw [List.getElem?_append_left h]⟩
theorem Kp.at {o : Nat} {S S' : Sto} {i : Nat} {x : O} (h : Kp o S S') (hS : S[i]? = some x) (n : i ≠ o) : S'[i]? = some x := by
  have := (List.getElem?_eq_some_iff.mp hS).1
  rw [h.get i this n]; exact hS
theorem Pap.kp {o : Nat} {S S' : Sto} (h : Kp o S S') : ∀ {n : Nat} {d : D}, Pap o S n d → Pap o S' n d
  | 0, .non, _ => trivial
  | 0, .bl _, _ => trivial
  | 0, .int _, _ => trivial
  | 0, .str _, p => p
  | _ + 1, .non, _ => trivial
  | _ + 1, .bl _, _ => trivial
  | _ + 1, .int _, _ => trivial
  | _ + 1, .str _, p => p
  | n + 1, .tup xs, p => ⟨p.1, fun x hx => Pap.kp h (p.2 x hx)⟩
  | n + 1, .obj j, p => by
    obtain ⟨a, xs, b, c, d⟩ := p
    exact ⟨a, xs, h.at b a, c, fun x hx => Pap.kp h (d x hx)⟩
  | 0, .tup _, p => p.elim
  | 0, .obj _, p => p.elim
theorem Pap.typ {o : Nat} {S : Sto} : ∀ {n : Nat} {d : D}, Pap o S n d → Typ S d
  | 0, .non, _ => rfl
  | 0, .bl _, _ => rfl
  | 0, .int _, _ => rfl
  | 0, .str _, _ => rfl
  | _ + 1, .non, _ => rfl
  | _ + 1, .bl _, _ => rfl
  | _ + 1, .int _, _ => rfl
  | _ + 1, .str _, _ => rfl
  | n + 1, .tup xs, p => rfl
  | n + 1, .obj j, p => by
    obtain ⟨a, xs, b, c, d⟩ := p
    simp [Typ, tyOf, b]
  | 0, .tup _, p => p.elim
  | 0, .obj _, p => p.elim
end
end Mini
end

section
set_option Elab.async false
set_option linter.all false
set_option maxRecDepth 100000
namespace Mini
open PySem PySem.Spec PyProof.Rows L2
/-! k84: equality of paper values; the trees. -/
def isEmp : D → Bool
  | .tup [] => true
  | _ => false
section
variable {G : Gl} {k : Nat} {S : Sto} {d x : D} {Q : D → Sto → Prop} {t : Int} {T : List Int} {A B : List (List Int)} {g o : Nat}
theorem toPys_pap {n : Nat} (ih : ∀ d, Pap o S n d → ∀ f, 10 * n + 1 ≤ f → ∃ p, toPy S f d = some p ∧ p.canLay0 = true ∧ p.depth ≤ n) : ∀ (xs : List D), (∀ x ∈ xs, Pap o S n x) → ∀ f, 10 * n + 1 + xs.length ≤ f → ∃ ps, toPys S f xs = some ps ∧ PyData.canLayAll0 ps = true ∧ PyData.depthAll ps ≤ n ∧ ps.length = xs.length
  | [], _, f, h => by
    obtain ⟨f, rfl⟩ : ∃ f', f = f' + 1 := ⟨f - 1, by omega⟩
    exact ⟨[], by simp [toPys], by simp [PyData.canLayAll0], by simp [PyData.depthAll], rfl⟩
  | d :: ds, hx, f, h => by
    simp at h
    obtain ⟨f, rfl⟩ : ∃ f', f = f' + 1 := ⟨f - 1, by omega⟩
    obtain ⟨p, h1, h2, h3⟩ := ih d (hx d (by simp)) f (by omega)
    obtain ⟨ps, g1, g2, g3, g4⟩ := toPys_pap ih ds (fun x hm => hx x (by simp [hm])) f (by omega)
    exact ⟨p :: ps, by simp [toPys, h1, g1], by simp [PyData.canLayAll0, h2, g2], by simp [PyData.depthAll]; omega, by simp [g4]⟩
theorem toPy_pap : ∀ (n : Nat) (d : D), Pap o S n d → ∀ f, 10 * n + 1 ≤ f → ∃ p, toPy S f d = some p ∧ p.canLay0 = true ∧ p.depth ≤ n := by
  intro n
  induction n with
  | zero =>
    intro d h f hf
    obtain ⟨f, rfl⟩ : ∃ f', f = f' + 1 := ⟨f - 1, by omega⟩
    cases d with
    | tup xs => exact h.elim
    | obj j => exact h.elim
    | rng _ _ => exact h.elim
    | rol _ => exact h.elim
    | non => exact ⟨.none, by simp [toPy], by simp [PyData.canLay0], by simp [PyData.depth]⟩
    | bl b => exact ⟨.bool b, by simp [toPy], by simp [PyData.canLay0], by simp [PyData.depth]⟩
    | int i => exact ⟨.int i, by simp [toPy], by simp [PyData.canLay0], by simp [PyData.depth]⟩
    | str x => exact ⟨.str x, by simp [toPy], by simpa [PyData.canLay0, Pap] using h, by simp [PyData.depth]⟩
  | succ n ih =>
    intro d h f hf
    obtain ⟨f, rfl⟩ : ∃ f', f = f' + 1 := ⟨f - 1, by omega⟩
    cases d with
    | tup xs =>
      obtain ⟨ps, g1, g2, g3, g4⟩ := toPys_pap ih xs h.2 f (by have := h.1; omega)
      exact ⟨.tuple ps, by simp [toPy, g1], by simpa [PyData.canLay0] using g2, by simp [PyData.depth]; omega⟩
    | obj j =>
      obtain ⟨_, xs, hS, hl, hx⟩ := h
      obtain ⟨ps, g1, g2, g3, g4⟩ := toPys_pap ih xs hx f (by omega)
      exact ⟨.list ps, by simp [toPy, g1, hS], by simpa [PyData.canLay0] using g2, by simp [PyData.depth]; omega⟩
    | rng _ _ => exact h.elim
    | rol _ => exact h.elim
    | non => exact ⟨.none, by simp [toPy], by simp [PyData.canLay0], by simp [PyData.depth]⟩
    | bl b => exact ⟨.bool b, by simp [toPy], by simp [PyData.canLay0], by simp [PyData.depth]⟩
    | int i => exact ⟨.int i, by simp [toPy], by simp [PyData.canLay0], by simp [PyData.depth]⟩
    | str x => exact ⟨.str x, by simp [toPy], by simpa [PyData.canLay0, Pap] using h, by simp [PyData.depth]⟩
theorem eqD_emp {n : Nat} (hn : n ≤ 19) (h : Pap o S n d) : eqD S d (.tup []) = some (isEmp d) := by
  obtain ⟨p, h1, h2, h3⟩ := toPy_pap n d h fuel (by simp [fuel]; omega)
  have e : toPy S fuel (.tup []) = some (.tuple []) := by simp [fuel, toPy, toPys]
  unfold eqD
  rw [h1, e]
  have s1 : SeqAt.shaped p = true := by
    simp [SeqAt.shaped, h2]; omega
  have s2 : SeqAt.shaped (.tuple []) = true := by simp [SeqAt.shaped, PyData.canLay0, PyData.canLayAll0, PyData.depth, PyData.depthAll]
  simp only [s1, s2, and_self, if_true]
  congr 1
  cases d with
  | tup xs =>
    simp only [fuel, toPy, Option.map_eq_some_iff] at h1
    obtain ⟨ps, h1, rfl⟩ := h1
    cases xs with
    | nil => simp [toPys] at h1; subst h1; simp [PyData.eqv, PyData.eqvAll, isEmp]
    | cons y ys =>
      simp only [toPys] at h1
      split at h1
      · cases h1; simp [PyData.eqv, PyData.eqvAll, isEmp]
      · cases h1
  | obj j =>
    simp only [fuel, toPy] at h1
    split at h1
    · simp only [Option.map_eq_some_iff] at h1
      obtain ⟨ps, h1, rfl⟩ := h1
      simp [PyData.eqv, isEmp]
    · cases h1
  | rng _ _ => simp [fuel, toPy] at h1
  | rol _ => simp [fuel, toPy] at h1
  | non => simp [fuel, toPy] at h1; subst h1; simp [PyData.eqv, isEmp]
  | bl _ => simp [fuel, toPy] at h1; subst h1; simp [PyData.eqv, isEmp]
  | int _ => simp [fuel, toPy] at h1; subst h1; simp [PyData.eqv, isEmp]
  | str _ => simp [fuel, toPy] at h1; subst h1; simp [PyData.eqv, isEmp]
theorem eqD_str {a b : Str} (ha : PyData.strOk a = true) (hb : PyData.strOk b = true) : eqD S (.str a) (.str b) = some (a == b) := by
  simp [eqD, toPy, fuel, SeqAt.shaped, PyData.canLay0, PyData.depth, PyData.eqv, ha, hb]
end
end Mini
end

section
set_option Elab.async false
set_option linter.all false
set_option maxRecDepth 100000
namespace Mini
open PySem PySem.Spec PyProof.Rows L2
/-! k84: is_apart_tree. -/
section
variable {G : Gl} {k : Nat} {S : Sto} {d x : D} {Q : D → Sto → Prop} {t : Int} {T : List Int} {A B : List (List Int)} {g o : Nat}
@[simp] theorem wp_cRange1 {j : Int} : wp (cRange1 [.int j] S) Q ↔ Q (.rng 0 j) S := Iff.rfl
theorem it_rng {n i : Nat} : itVal (.rng 0 (n : Int)) i S = some (if i < n then some (.int i) else none) := by simp [itVal]
theorem m_replies0 (h : GameAt S g T A B) (hG : G.att = attB) (hb : B.length ≤ 16) {x : Nat} (q : Q (.obj S.length) (S ++ [.lst ((List.range B.length).map fun i => dPr (x, i))])) : wp (cm G (k + 1) 0 [.obj g, .int 0, .int x] S) Q := by
  refine wp_cm rfl [some (.obj g), some (.int 0), some (.int x), none] rfl rfl ?_
  simp [d_Game_replies]
  refine h.sides hG ?_ ?_
  · simp
  refine ixW (i := 1) (xs := [dP A, dP B]) (by rfl) (by simp) ?_
  simp [dP]
  refine ⟨by omega, ?_⟩
  refine wp_comp ((List.range B.length).map fun (i : Nat) => D.int i) (fun i acc S' => S' = S ∧ acc = ((List.range i).map fun i => dPr (x, i))) (by simp [lim]; omega) ⟨rfl, rfl⟩ (fun i acc S' ⟨h1, h2⟩ hi ha => ?_) (fun acc S' ⟨h1, h2⟩ => ?_)
  · subst h1 h2
    simp at hi
    refine ⟨by simp [it_rng, hi], _, rfl, ?_⟩
    simp [hi, bTrue, wipeE, lim, List.range_succ, dPr]
  · subst h1 h2
    simp [it_rng]
    simpa using q
theorem m_replies1 (h : GameAt S g T A B) (hG : G.att = attB) (hb : A.length ≤ 16) {x : Nat} (q : Q (.obj S.length) (S ++ [.lst ((List.range A.length).map fun i => dPr (i, x))])) : wp (cm G (k + 1) 0 [.obj g, .int 1, .int x] S) Q := by
  refine wp_cm rfl [some (.obj g), some (.int 1), some (.int x), none] rfl rfl ?_
  simp [d_Game_replies]
  refine h.sides hG ?_ ?_
  · simp
  refine ixW (i := 0) (xs := [dP A, dP B]) (by rfl) (by simp) ?_
  simp [dP]
  refine ⟨by omega, ?_⟩
  refine wp_comp ((List.range A.length).map fun (i : Nat) => D.int i) (fun i acc S' => S' = S ∧ acc = ((List.range i).map fun i => dPr (i, x))) (by simp [lim]; omega) ⟨rfl, rfl⟩ (fun i acc S' ⟨h1, h2⟩ hi ha => ?_) (fun acc S' ⟨h1, h2⟩ => ?_)
  · subst h1 h2
    simp at hi
    refine ⟨by simp [it_rng, hi], _, rfl, ?_⟩
    simp [hi, bTrue, wipeE, lim, List.range_succ, dPr]
  · subst h1 h2
    simp [it_rng]
    simpa using q
end
end Mini
end

section
set_option Elab.async false
set_option linter.all false
set_option maxRecDepth 100000
namespace Mini
open PySem PySem.Spec PyProof.Rows L2
/-! k84: is_apart_tree. -/
def repl (A B : List (List Int)) (s : Int) (x : Nat) : List (Nat × Nat) := if s = 0 then (List.range B.length).map fun i => (x, i) else (List.range A.length).map fun i => (i, x)
def numOf : D → Int
  | .int i => i
  | _ => 0
def tupOf : D → List D
  | .tup xs => xs
  | _ => []
def sideLen (A B : List (List Int)) (s : Int) : Nat := if s = 0 then A.length else B.length
def apT (T : List Int) (A B : List (List Int)) : Nat → List (Nat × Nat) → D → Bool
  | r + 1, ps, .tup [a, b, c] => isBel 2 a && isBel (sideLen A B (numOf a)) b && qTup c && decide ((tupOf c).length = (repl A B (numOf a) (numOf b).toNat).length) &&
      ((repl A B (numOf a) (numOf b).toNat).zip (tupOf c)).all fun p => if go T A B ps p.1 then apT T A B r (ps ++ [p.1]) p.2 else isEmp p.2
  | _, _, _ => false
section
variable {G : Gl} {k : Nat} {S : Sto} {d x : D} {Q : D → Sto → Prop} {t : Int} {T : List Int} {A B : List (List Int)} {g o : Nat}
theorem opAdd_tup {xs ys : List D} (h : xs.length + ys.length ≤ lim) (q : Q (.tup (xs ++ ys)) S) : wp (opAdd (.tup xs) (.tup ys) S) Q := by
  show wp ((if xs.length + ys.length ≤ lim then ret (.tup (xs ++ ys)) else stuck) S) Q
  rw [if_pos h]; exact q
@[simp] theorem wp_opSub {a b : Int} : wp (opSub (.int a) (.int b) S) Q ↔ Q (.int (a - b)) S := Iff.rfl
theorem dPs_snoc {ps : List (Nat × Nat)} {p : Nat × Nat} : D.tup (ps.map dPr ++ [dPr p]) = dPs (ps ++ [p]) := by simp [dPs]
theorem GameAt.pre {S S' : Sto} (h : GameAt S g T A B) (p : S <+: S') : GameAt S' g T A B := by
  obtain ⟨kk, h⟩ := h
  obtain ⟨U, rfl⟩ := p
  have := (List.getElem?_eq_some_iff.mp h).1
  exact ⟨kk, by rw [List.getElem?_append_left this]; exact h⟩
theorem get_pre {S S' : Sto} {i : Nat} {x : O} (h : S[i]? = some x) (p : S <+: S') : S'[i]? = some x := by
  obtain ⟨U, rfl⟩ := p
  have := (List.getElem?_eq_some_iff.mp h).1
  rw [List.getElem?_append_left this]; exact h
theorem InP.snoc {ps : List (Nat × Nat)} {p : Nat × Nat} (h : InP A B ps) (hp : p.1 < A.length ∧ p.2 < B.length) : InP A B (ps ++ [p]) := by
  intro q hq
  rcases List.mem_append.mp hq with hq | hq
  · exact h q hq
  · simp at hq; subst hq; exact hp
theorem apT_false {r : Nat} {ps : List (Nat × Nat)} {d : D} (h : ∀ a b c, d ≠ .tup [a, b, c]) : apT T A B r ps d = false := by
  unfold apT
  split
  · exact absurd rfl (h _ _ _)
  · rfl
theorem repl_in {s : Int} {x : Nat} {p : Nat × Nat} (hp : p ∈ repl A B s x) (hx : x < sideLen A B s) : p.1 < A.length ∧ p.2 < B.length := by
  unfold repl at hp
  unfold sideLen at hx
  split at hp
  · rename_i h
    rw [if_pos h] at hx
    simp at hp
    obtain ⟨i, hi, rfl⟩ := hp
    exact ⟨hx, hi⟩
  · rename_i h
    rw [if_neg h] at hx
    simp at hp
    obtain ⟨i, hi, rfl⟩ := hp
    exact ⟨hi, hx⟩
theorem Envi.la (V : Envi G t T A B) : A.length ≤ 16 := V.a.many
theorem Envi.lb (V : Envi G t T A B) : B.length ≤ 16 := V.b.many
theorem repl_len (V : Envi G t T A B) {s : Int} {x : Nat} : (repl A B s x).length ≤ 16 := by
  have := V.la
  have := V.lb
  unfold repl
  split <;> simp <;> omega
theorem m_replies (V : Envi G t T A B) (h : GameAt S g T A B) {s : Int} (hs : 0 ≤ s ∧ s < 2) {x : Int} (hx : 0 ≤ x) (q : Q (.obj S.length) (S ++ [.lst ((repl A B s x.toNat).map dPr)])) : wp (cm G (k + 1) 0 [.obj g, .int s, .int x] S) Q := by
  obtain ⟨x, rfl⟩ : ∃ y : Nat, x = y := ⟨x.toNat, by omega⟩
  have : s = 0 ∨ s = 1 := by omega
  rcases this with rfl | rfl
  · refine m_replies0 h V.att V.lb ?_
    simpa [repl, Function.comp_def] using q
  · refine m_replies1 h V.att V.la ?_
    simpa [repl, Function.comp_def] using q
theorem sides_W (h : GameAt S g T A B) {s : Int} (hs : 0 ≤ s ∧ s < 2) (q : Q (dP (if s = 0 then A else B)) S) : wp (opIx (.tup [dP A, dP B]) (.int s) S) Q := by
  have : s = 0 ∨ s = 1 := by omega
  rcases this with rfl | rfl
  · refine ixW (i := 0) (xs := [dP A, dP B]) (by rfl) (by simp) ?_
    simpa using q
  · refine ixW (i := 1) (xs := [dP A, dP B]) (by rfl) (by simp) ?_
    simpa using q
theorem wp_zip2 {QI : ItF → Sto → Prop} {f1 f2 : FE} {e : Env'} : wp (fZip (aCons f1 (aCons f2 aNil)) e S) QI ↔ wp (f1 e S) fun d1 S1 => wp (f2 e S1) fun d2 S2 => ((seqOf S2 d1).isSome = true ∧ (seqOf S2 d2).isSome = true) ∧ QI (itZip d1 d2) S2 := by
  unfold fZip
  rw [wp_bnd, wp_cons]
  constructor <;> intro h <;> refine wp_imp h fun d S1 q => ?_
  · rw [wp_cons] at q
    refine wp_imp q fun d2 S2 q => ?_
    have q : wp (if (seqOf S2 d).isSome = true ∧ (seqOf S2 d2).isSome = true then some (.val (itZip d d2) S2) else none) QI := q
    split at q
    · exact ⟨by assumption, q⟩
    · cases q
  · rw [wp_cons]
    refine wp_imp q fun d2 S2 q => ?_
    show wp (if (seqOf S2 d).isSome = true ∧ (seqOf S2 d2).isSome = true then some (.val (itZip d d2) S2) else none) QI
    rw [if_pos q.1]; exact q.2
theorem seq_pre {S S' : Sto} {j : Nat} {xs : List D} (h : seqOf S (.obj j) = some xs) (p : S <+: S') : seqOf S' (.obj j) = some xs := by
  simp only [seqOf, lstOf] at h ⊢
  split at h
  · rename_i ys hS
    cases h
    rw [get_pre hS p]
  · cases h
def Upto {α : Type} (F : α → Bool) (l : List α) (i : Nat) : Prop := (l.take i).all F = true
theorem Upto.zero {α : Type} {F : α → Bool} {l : List α} : Upto F l 0 := rfl
theorem Upto.succ {α : Type} {F : α → Bool} {l : List α} {i : Nat} (h : Upto F l i) (hi : i < l.length) (hf : F l[i] = true) : Upto F l (i + 1) := by
  unfold Upto at *
  rw [List.take_succ_eq_append_getElem hi, List.all_append, h]
  simpa using hf
theorem Upto.all {α : Type} {F : α → Bool} {l : List α} (h : Upto F l l.length) : l.all F = true := by
  unfold Upto at h
  rwa [List.take_length] at h
theorem all_no {α : Type} {F : α → Bool} {l : List α} {i : Nat} (hi : i < l.length) (hf : F l[i] = false) : l.all F = false := by
  rw [List.all_eq_false]
  exact ⟨_, List.getElem_mem hi, by simp [hf]⟩
theorem f_apart (V : Envi G t T A B) : ∀ (r k n : Nat) (S : Sto) (ps : List (Nat × Nat)) (d : D) (Q : D → Sto → Prop), GameAt S g T A B → InP A B ps → ps.length + r ≤ 16 → n ≤ 19 → Pap o S n d → (∀ U, S <+: U → Q (.bl (apT T A B r ps d)) U) → wp (cf G (k + r + 4) 31 [.obj g, dPs ps, .int r, d] S) Q := by
  intro r
  induction r with
  | zero =>
    intro k n S ps d Q h hp hl hn hd q
    refine wp_cf rfl [some (.obj g), some (dPs ps), some (.int (0 : Nat)), some d, none, none, none, none, none, none] rfl rfl ?_
    have q0 := q S (List.prefix_refl _)
    simp only [apT] at q0
    obtain ⟨t1, a1, b1⟩ := isi_tuple hd.typ
    cases d with
    | tup xs => simp [d_is_apart_tree, q0]; by_cases h3 : (xs.length : Int) = 3 <;> simp [h3, q0]
    | _ => simp [d_is_apart_tree, a1, b1, qTup]; exact q0
  | succ r ih =>
    intro k n S ps d Q h hp hl hn hd q
    refine wp_cf rfl [some (.obj g), some (dPs ps), some (.int (r + 1 : Nat)), some d, none, none, none, none, none, none] rfl rfl ?_
    have q0 := q S (List.prefix_refl _)
    obtain ⟨t1, a1, b1⟩ := isi_tuple hd.typ
    cases d with
    | tup xs =>
      by_cases h3 : xs.length = 3
      · match xs, h3, hd with
        | [a, b, c], _, hd =>
          have hr0 : ¬ ((r : Int) + 1 = 0) := by omega
          obtain ⟨n, rfl⟩ : ∃ n', n = n' + 1 := by
            cases n with
            | zero => exact hd.elim
            | succ n => exact ⟨n, rfl⟩
          have ha := hd.2 a (by simp)
          have hb := hd.2 b (by simp)
          have hc := hd.2 c (by simp)
          simp [d_is_apart_tree, ws_asg, gTupD, gAll, gVar, hr0]
          refine f_is_below ha.typ ?_
          cases hs : isBel 2 a with
          | false =>
            simp [apT, hs] at q0
            simp; exact q0
          | true =>
            obtain ⟨s, rfl⟩ : ∃ s, a = .int s := by cases a <;> simp [isBel] at hs; exact ⟨_, rfl⟩
            have hs' : 0 ≤ s ∧ s < 2 := by simpa [isBel] using hs
            simp
            refine h.sides V.att ?_ ?_
            · simp
            refine sides_W h hs' ?_
            refine ⟨_, rfl, ?_⟩
            have el : (((if s = 0 then A else B).map dI).length : Int) = (sideLen A B s : Int) := by unfold sideLen; split <;> simp
            rw [el]
            refine f_is_below hb.typ ?_
            cases hx : isBel (sideLen A B s) b with
            | false =>
              simp [apT, numOf, hx] at q0
              simp; exact q0
            | true =>
              obtain ⟨x, rfl⟩ : ∃ x, b = .int x := by cases b <;> simp [isBel] at hx; exact ⟨_, rfl⟩
              have hx' : 0 ≤ x ∧ x < sideLen A B s := by simpa [isBel] using hx
              simp
              obtain ⟨kk, h1⟩ := id h
              refine wp_meth h1 (by rfl) ?_ ?_
              · simp
              simp
              refine m_replies V h hs' hx'.1 ?_
              have pre1 : S <+: S ++ [O.lst ((repl A B s x.toNat).map dPr)] := List.prefix_append _ _
              obtain ⟨t2, a2, b2⟩ := isi_tuple (hc.kp (Kp.of pre1)).typ
              refine ⟨t2, a2, ?_⟩
              cases hq : qTup c with
              | false =>
                have e : apT T A B (r + 1) ps (.tup [.int s, .int x, c]) = false := by simp [apT, hq]
                exact .inl ⟨by rw [b2, hq], by rw [← e]; exact q _ pre1⟩
              | true =>
                obtain ⟨trees, rfl⟩ : ∃ trees, c = .tup trees := by cases c <;> simp [qTup] at hq; exact ⟨_, rfl⟩
                have sq : seqOf (S ++ [O.lst ((repl A B s x.toNat).map dPr)]) (.obj S.length) = some ((repl A B s x.toNat).map dPr) := by simp [seqOf, lstOf]
                refine .inr ⟨by rw [b2, hq], trees, rfl, _, sq, ?_⟩
                have ez : apT T A B (r + 1) ps (.tup [.int s, .int x, .tup trees]) = (decide (trees.length = (repl A B s x.toNat).length) && ((repl A B s x.toNat).zip trees).all fun p => if go T A B ps p.1 then apT T A B r (ps ++ [p.1]) p.2 else isEmp p.2) := by
                  simp only [apT, hs, numOf, hx, qTup, tupOf, Bool.true_and]
                  rfl
                rw [ez] at q
                clear ez q0
                by_cases hlen : trees.length = (repl A B s x.toNat).length
                · refine .inr ⟨by simp [hlen], ?_⟩
                  simp only [hlen, decide_true, Bool.true_and] at q
                  have hrl := repl_len V (s := s) (x := x.toNat)
                  have hin : ∀ p ∈ repl A B s x.toNat, p.1 < A.length ∧ p.2 < B.length := fun p hp => repl_in hp (by omega)
                  generalize repl A B s x.toNat = pl at *
                  generalize hS1 : S ++ [O.lst (pl.map dPr)] = S1 at *
                  rw [wp_zip2]
                  simp [sq]
                  refine ws_loop ((pl.zip trees).map fun p => D.tup [dPr p.1, p.2]) (fun i e S' => ∃ y z, e = [some (.obj g), some (dPs ps), some (.int (r + 1 : Nat)), some (.tup [.int s, .int x, .tup trees]), some (.obj S.length), some (.int s), some (.int x), some (.tup trees), y, z] ∧ S1 <+: S' ∧ Upto (fun p => if go T A B ps p.1 then apT T A B r (ps ++ [p.1]) p.2 else isEmp p.2) (pl.zip trees) i) (by simp [lim]; omega) ⟨none, none, rfl, List.prefix_refl _, Upto.zero⟩ (fun i e S' ⟨y, z, he, hS, hx⟩ hi => ?_) (fun e S' ⟨y, z, he, hS, hx⟩ => ?_)
                  · subst he
                    simp only [List.length_map, List.length_zip, hlen, Nat.min_self] at hi
                    have hi2 : i < trees.length := by omega
                    have hiz : i < (pl.zip trees).length := by simp [hlen]; omega
                    refine ⟨by simp [itZip, seq_pre sq hS, hi, hi2], ?_⟩
                    simp only [List.getElem_map, List.getElem_zip, gTupD, gAll, gVar]
                    refine ⟨_, rfl, ?_⟩
                    simp
                    have h' : GameAt S' g T A B := h.pre (pre1.trans hS)
                    obtain ⟨kk', h1'⟩ := id h'
                    have hpi := hin pl[i] (List.getElem_mem hi)
                    refine wp_meth h1' (by rfl) ?_ ?_
                    · simp
                    simp
                    refine m_goes_on V h' (by omega) hp hpi ?_
                    obtain ⟨m, rfl⟩ : ∃ m, n = m + 1 := by
                      cases n with
                      | zero => exact hc.elim
                      | succ m => exact ⟨m, rfl⟩
                    have hti : Pap o S' m trees[i] := (hc.2 _ (List.getElem_mem hi2)).kp (Kp.of (pre1.trans hS))
                    have hno := all_no (F := fun p => if go T A B ps p.1 then apT T A B r (ps ++ [p.1]) p.2 else isEmp p.2) hiz
                    have hyes := hx.succ hiz
                    simp only [List.getElem_zip] at hno hyes
                    cases hgo : go T A B ps pl[i] with
                    | true =>
                      simp only [hgo, if_true] at hno hyes
                      simp [lim]
                      refine opAdd_tup (xs := ps.map dPr) (ys := [dPr pl[i]]) (by simp [lim]; omega) ?_
                      rw [dPs_snoc]
                      refine ih k m S' (ps ++ [pl[i]]) trees[i] _ h' (hp.snoc hpi) (by simp; omega) (by omega) hti fun U hU => ?_
                      cases hap : apT T A B r (ps ++ [pl[i]]) trees[i] with
                      | true => exact .inr ⟨rfl, hS.trans hU, hyes hap⟩
                      | false =>
                        rw [hno hap] at q
                        exact .inl ⟨rfl, q _ ((pre1.trans hS).trans hU)⟩
                    | false =>
                      simp only [hgo, Bool.false_eq_true, if_false] at hno hyes
                      simp [lim]
                      rw [eqD_emp (by omega) hti]
                      cases hap : isEmp trees[i] with
                      | true => exact .inr ⟨rfl, hS, hyes hap⟩
                      | false =>
                        rw [hno hap] at q
                        exact .inl ⟨rfl, q _ (pre1.trans hS)⟩
                  · subst he
                    simp only [List.length_map] at hx
                    rw [hx.all] at q
                    refine ⟨by simp [itZip, seq_pre sq hS, hlen], ?_⟩
                    exact q _ (pre1.trans hS)
                · refine .inl ⟨by simp; omega, ?_⟩
                  simp only [hlen, decide_false, Bool.false_and] at q
                  exact q _ pre1
      · rw [apT_false (by rintro a b c ⟨⟩; exact h3 rfl)] at q0
        have h3' : ¬ (xs.length : Int) = 3 := by omega
        simp [d_is_apart_tree, h3']; exact q0
    | _ =>
      rw [apT_false (by intro a b c; simp)] at q0
      simp [d_is_apart_tree, a1, b1, qTup]; exact q0
end
end Mini
end

section
set_option Elab.async false
set_option linter.all false
set_option maxRecDepth 100000
namespace Mini
open PySem PySem.Spec PyProof.Rows L2
/-! k84: is_told_answer, is_alike_tree. -/
def prS (s : Int) (x y : Nat) : Nat × Nat := if s = 0 then (x, y) else (y, x)
def toldA (rec : List (Nat × Nat) → D → Bool) (T : List Int) (A B : List (List Int)) (ps : List (Nat × Nat)) (s : Int) (x : Nat) : D → Bool
  | .tup [a, tr] => isBel (sideLen A B (1 - s)) a && (go T A B ps (prS s x (numOf a).toNat) && rec (ps ++ [prS s x (numOf a).toNat]) tr)
  | _ => false
def sideA (rec : List (Nat × Nat) → D → Bool) (T : List Int) (A B : List (List Int)) (ps : List (Nat × Nat)) (s : Int) (v : D) : Bool :=
  qTup v && (decide ((tupOf v).length = sideLen A B s) && ((List.range (tupOf v).length).zip (tupOf v)).all fun p => toldA rec T A B ps s p.1 p.2)
def alT (T : List Int) (A B : List (List Int)) : Nat → List (Nat × Nat) → D → Bool
  | 0, _, d => isEmp d
  | r + 1, ps, .tup [a, b] => sideA (alT T A B r) T A B ps 0 a && sideA (alT T A B r) T A B ps 1 b
  | _, _, _ => false
section
variable {G : Gl} {k : Nat} {S : Sto} {d x : D} {Q : D → Sto → Prop} {t : Int} {T : List Int} {A B : List (List Int)} {g o : Nat}
@[simp] theorem wp_vIf {c : FB} {f1 f2 : FE} {e : Env'} : wp (vIf c f1 f2 e S) Q ↔ wp (c e S) fun b S1 => (b = true → wp (f1 e S1) Q) ∧ (b = false → wp (f2 e S1) Q) := by
  unfold vIf
  rw [wp_bnd]
  constructor <;> intro h <;> refine wp_imp h fun b S1 q => ?_
  · cases b <;> simp_all
  · cases b <;> simp_all
def RecAl (G : Gl) (T : List Int) (A B : List (List Int)) (g o r k : Nat) : Prop := ∀ (n : Nat) (S : Sto) (ps : List (Nat × Nat)) (d : D) (Q : D → Sto → Prop), GameAt S g T A B → InP A B ps → ps.length + r ≤ 16 → n ≤ 19 → Pap o S n d → Q (.bl (alT T A B r ps d)) S → wp (cf G (k + 2 * r + 4) 33 [.obj g, dPs ps, .int r, d] S) Q
theorem f_told (V : Envi G t T A B) {r k : Nat} (hrec : RecAl G T A B g o r k) (n : Nat) (S : Sto) (ps : List (Nat × Nat)) (s : Int) (x : Nat) (d : D) (Q : D → Sto → Prop) (h : GameAt S g T A B) (hp : InP A B ps) (hl : ps.length + r + 1 ≤ 16) (hn : n ≤ 19) (hs : 0 ≤ s ∧ s < 2) (hx : x < sideLen A B s) (hd : Pap o S n d)
    (q : Q (.bl (toldA (alT T A B r) T A B ps s x d)) S) : wp (cf G (k + 2 * r + 5) 32 [.obj g, dPs ps, .int (r + 1 : Nat), .int s, .int x, d] S) Q := by
  refine wp_cf rfl [some (.obj g), some (dPs ps), some (.int (r + 1 : Nat)), some (.int s), some (.int x), some d, none, none, none] rfl rfl ?_
  obtain ⟨t1, a1, b1⟩ := isi_tuple hd.typ
  cases hq : qTup d with
  | false =>
    have : toldA (alT T A B r) T A B ps s x d = false := by
      unfold toldA
      split
      · cases hq
      · rfl
    rw [this] at q
    simp [d_is_told_answer, a1, b1, hq]; exact q
  | true =>
    obtain ⟨xs, rfl⟩ : ∃ trees, d = .tup trees := by cases d <;> simp [qTup] at hq; exact ⟨_, rfl⟩
    by_cases h3 : xs.length = 2
    · match xs, h3, hd with
      | [a, tr], _, hd =>
        obtain ⟨m, rfl⟩ : ∃ m, n = m + 1 := by
          cases n with
          | zero => exact hd.elim
          | succ m => exact ⟨m, rfl⟩
        have ha := hd.2 a (by simp)
        have htr := hd.2 tr (by simp)
        simp [d_is_told_answer, ws_asg, gTupD, gAll, gVar]
        refine h.sides V.att ?_ ?_
        · simp
        refine sides_W h (by omega) ?_
        refine ⟨_, rfl, ?_⟩
        have el : (((if 1 - s = 0 then A else B).map dI).length : Int) = (sideLen A B (1 - s) : Int) := by unfold sideLen; split <;> simp
        rw [el]
        refine f_is_below ha.typ ?_
        cases hb : isBel (sideLen A B (1 - s)) a with
        | false =>
          simp [toldA, hb] at q
          simp; exact q
        | true =>
          obtain ⟨y, rfl⟩ : ∃ y, a = .int y := by cases a <;> simp [isBel] at hb; exact ⟨_, rfl⟩
          have hy : 0 ≤ y ∧ y < sideLen A B (1 - s) := by simpa [isBel] using hb
          obtain ⟨y, rfl⟩ : ∃ z : Nat, y = z := ⟨y.toNat, by omega⟩
          simp [toldA, hb, numOf] at q
          simp
          have hs01 : s = 0 ∨ s = 1 := by omega
          rcases hs01 with rfl | rfl
          · refine .inr ⟨rfl, by simp [lim], ?_⟩
            · skip
              obtain ⟨kk, h1⟩ := id h
              refine wp_meth h1 (by rfl) (by simp) ?_
              simp
              have hin : (((x, y) : Nat × Nat)).1 < A.length ∧ (((x, y) : Nat × Nat)).2 < B.length := by
                simp [sideLen] at hx hy
                constructor <;> simp <;> omega
              refine m_goes_on (b := (x, y)) V h (by omega) hp hin ?_
              simp [prS] at q
              cases hgo : go T A B ps (x, y) with
              | false =>
                simp [hgo] at q
                exact .inl ⟨rfl, q⟩
              | true =>
                simp [hgo] at q
                refine .inr ⟨rfl, by simp [lim], ?_⟩
                refine opAdd_tup (xs := ps.map dPr) (ys := [dPr (x, y)]) (by simp [lim]; omega) ?_
                rw [dPs_snoc]
                exact hrec m S (ps ++ [(x, y)]) tr Q h (hp.snoc hin) (by simp; omega) (by omega) htr q
          · refine .inl ⟨by decide, by simp [lim], ?_⟩
            · skip
              obtain ⟨kk, h1⟩ := id h
              refine wp_meth h1 (by rfl) (by simp) ?_
              simp
              have hin : (((y, x) : Nat × Nat)).1 < A.length ∧ (((y, x) : Nat × Nat)).2 < B.length := by
                simp [sideLen] at hx hy
                constructor <;> simp <;> omega
              refine m_goes_on (b := (y, x)) V h (by omega) hp hin ?_
              simp [prS] at q
              cases hgo : go T A B ps (y, x) with
              | false =>
                simp [hgo] at q
                exact .inl ⟨rfl, q⟩
              | true =>
                simp [hgo] at q
                refine .inr ⟨rfl, by simp [lim], ?_⟩
                refine opAdd_tup (xs := ps.map dPr) (ys := [dPr (y, x)]) (by simp [lim]; omega) ?_
                rw [dPs_snoc]
                exact hrec m S (ps ++ [(y, x)]) tr Q h (hp.snoc hin) (by simp; omega) (by omega) htr q
    · have : toldA (alT T A B r) T A B ps s x (.tup xs) = false := by
        unfold toldA
        split
        · rename_i h; cases h; exact absurd rfl h3
        · rfl
      rw [this] at q
      have h3' : ¬ (xs.length : Int) = 2 := by omega
      simp [d_is_told_answer, h3']; exact q
end
end Mini
end

section
set_option Elab.async false
set_option linter.all false
set_option maxRecDepth 100000
namespace Mini
open PySem PySem.Spec PyProof.Rows L2
/-! k84: is_alike_tree. -/
section
variable {G : Gl} {k : Nat} {S : Sto} {d x : D} {Q : D → Sto → Prop} {t : Int} {T : List Int} {A B : List (List Int)} {g o : Nat}
theorem alT_false {r : Nat} {ps : List (Nat × Nat)} {d : D} (h : ∀ a b, d ≠ .tup [a, b]) : alT T A B (r + 1) ps d = false := by
  match d, h with
  | .tup [a, b], h => exact absurd rfl (h a b)
  | .tup [], _ => rfl
  | .tup [_], _ => rfl
  | .tup (_ :: _ :: _ :: _), _ => rfl
  | .non, _ => rfl
  | .bl _, _ => rfl
  | .int _, _ => rfl
  | .str _, _ => rfl
  | .rng _ _, _ => rfl
  | .obj _, _ => rfl
  | .rol _, _ => rfl
theorem f_alike (V : Envi G t T A B) : ∀ (r k : Nat), RecAl G T A B g o r k := by
  intro r
  induction r with
  | zero =>
    intro k n S ps d Q h hp hl hn hd q
    refine wp_cf rfl [some (.obj g), some (dPs ps), some (.int (0 : Nat)), some d, none, none, none, none] rfl rfl ?_
    simp [d_is_alike_tree]
    rw [eqD_emp hn hd]
    simp only [alT] at q
    cases he : isEmp d <;> simp [he] at q ⊢ <;> exact q
  | succ r ih =>
    intro k n S ps d Q h hp hl hn hd q
    refine wp_cf rfl [some (.obj g), some (dPs ps), some (.int (r + 1 : Nat)), some d, none, none, none, none] rfl rfl ?_
    have hr0 : ¬ ((r : Int) + 1 = 0) := by omega
    obtain ⟨t1, a1, b1⟩ := isi_tuple hd.typ
    cases hq : qTup d with
    | false =>
      rw [alT_false (by rintro a b rfl; cases hq)] at q
      simp [d_is_alike_tree, hr0, a1, b1, hq]; exact q
    | true =>
      obtain ⟨xs, rfl⟩ : ∃ trees, d = .tup trees := by cases d <;> simp [qTup] at hq; exact ⟨_, rfl⟩
      by_cases h3 : xs.length = 2
      · match xs, h3, hd with
        | [a, b], _, hd =>
          obtain ⟨m, rfl⟩ : ∃ m, n = m + 1 := by
            cases n with
            | zero => exact hd.elim
            | succ m => exact ⟨m, rfl⟩
          simp [d_is_alike_tree, hr0]
          refine ws_loop [.tup [.int (0 : Nat), a], .tup [.int (1 : Nat), b]] (fun i e S' => ∃ y z u v, e = [some (.obj g), some (dPs ps), some (.int (r + 1 : Nat)), some (.tup [a, b]), y, z, u, v] ∧ S' = S ∧ Upto (fun p => sideA (alT T A B r) T A B ps p.1 p.2) [((0 : Int), a), (1, b)] i) (by simp [lim]) ⟨none, none, none, none, rfl, rfl, Upto.zero⟩ (fun i e S' ⟨y, z, u, v, he, hS, hu⟩ hi => ?_) (fun e S' ⟨y, z, u, v, he, hS, hu⟩ => ?_)
          · subst he hS
            have hi2 : i < [((0 : Int), a), (1, b)].length := by simpa using hi
            have hno := all_no (F := fun p => sideA (alT T A B r) T A B ps p.1 p.2) hi2
            have hyes := hu.succ hi2
            have eqn : alT T A B (r + 1) ps (.tup [a, b]) = [((0 : Int), a), (1, b)].all fun p => sideA (alT T A B r) T A B ps p.1 p.2 := by simp [alT]
            rw [eqn] at q
            have hv : Pap o S' m [a, b][i] := hd.2 _ (List.getElem_mem (by simpa using hi))
            have e1 : [D.tup [.int (0 : Nat), a], D.tup [.int (1 : Nat), b]][i] = .tup [.int i, [a, b][i]] := by
              have : i = 0 ∨ i = 1 := by simp at hi; omega
              rcases this with rfl | rfl <;> rfl
            have e2 : [((0 : Int), a), (1, b)][i] = ((i : Int), [a, b][i]) := by
              have : i = 0 ∨ i = 1 := by simp at hi; omega
              rcases this with rfl | rfl <;> rfl
            rw [e2] at hno hyes
            rw [e1]
            have hi3 : i < [a, b].length := by simpa using hi
            generalize hw : [a, b][i] = w at *
            have hs : (0 : Int) ≤ i ∧ (i : Int) < 2 := by simp at hi; omega
            refine ⟨by simp only [itEnum, seq_tup, List.getElem?_eq_getElem hi3, hw], ?_⟩
            simp only [gTupD, gAll, gVar]
            refine ⟨_, rfl, ?_⟩
            obtain ⟨t2, a2, b2⟩ := isi_tuple hv.typ
            cases hq2 : qTup w with
            | false =>
              have : sideA (alT T A B r) T A B ps i w = false := by simp [sideA, hq2]
              rw [hno this] at q
              simp [a2, b2, hq2]; exact q
            | true =>
              obtain ⟨zs, rfl⟩ : ∃ trees, w = .tup trees := by cases w <;> simp [qTup] at hq2; exact ⟨_, rfl⟩
              simp
              refine h.sides V.att ?_ ?_
              · simp
              refine sides_W h hs ?_
              refine ⟨_, rfl, ?_⟩
              have el : (((if (i : Int) = 0 then A else B).map dI).length : Int) = (sideLen A B i : Int) := by unfold sideLen; split <;> simp
              rw [el]
              by_cases hlen : zs.length = sideLen A B i
              · refine .inr ⟨by omega, ?_⟩
                have hzl : zs.length ≤ 8 := by
                  cases m with
                  | zero => exact hv.elim
                  | succ m => exact hv.1
                obtain ⟨m', rfl⟩ : ∃ m', m = m' + 1 := by
                  cases m with
                  | zero => exact hv.elim
                  | succ m' => exact ⟨m', rfl⟩
                let F : Nat × D → Bool := fun p => toldA (alT T A B r) T A B ps (i : Int) p.1 p.2
                have hside : sideA (alT T A B r) T A B ps i (.tup zs) = ((List.range zs.length).zip zs).all F := by
                  simp [sideA, qTup, tupOf, hlen, F]
                rw [hside] at hno hyes
                refine ws_loop (((List.range zs.length).zip zs).map fun p => D.tup [.int p.1, p.2]) (fun j e S2 => ∃ u v, e = [some (.obj g), some (dPs ps), some (.int (r + 1 : Nat)), some (.tup [a, b]), some (.int i), some (.tup zs), u, v] ∧ S2 = S' ∧ Upto F ((List.range zs.length).zip zs) j) (by simp [lim]; omega) ⟨_, _, rfl, rfl, Upto.zero⟩ (fun j e S2 ⟨u, v, he, hS, hu2⟩ hj => ?_) (fun e S2 ⟨u, v, he, hS, hu2⟩ => ?_)
                · subst he hS
                  have hj1 : j < zs.length := by simpa using hj
                  have hj2 : j < ((List.range zs.length).zip zs).length := by simpa using hj1
                  have hno2 := all_no (F := F) hj2
                  have hyes2 := hu2.succ hj2
                  have hz : Pap o S2 m' zs[j] := hv.2 _ (List.getElem_mem hj1)
                  refine ⟨by simp [itEnum, hj1], ?_⟩
                  simp only [List.getElem_map, List.getElem_zip, List.getElem_range, gTupD, gAll, gVar] at hno2 hyes2 ⊢
                  refine ⟨_, rfl, ?_⟩
                  simp
                  refine f_told (k := k) V (ih k) m' S2 ps i j zs[j] _ h hp (by omega) (by omega) hs (by omega) hz ?_
                  cases ht : toldA (alT T A B r) T A B ps i j zs[j] with
                  | true => exact .inr ⟨rfl, rfl, hyes2 ht⟩
                  | false =>
                    rw [hno (hno2 ht)] at q
                    exact .inl ⟨rfl, q⟩
                · subst he hS
                  simp only [List.length_map] at hu2
                  refine ⟨by simp [itEnum], ⟨_, _, _, _, rfl⟩, rfl, hyes hu2.all⟩
              · have : sideA (alT T A B r) T A B ps i (.tup zs) = false := by simp [sideA, tupOf, hlen]
                rw [hno this] at q
                exact .inl ⟨by omega, q⟩
          · subst he hS
            have eqn : alT T A B (r + 1) ps (.tup [a, b]) = [((0 : Int), a), (1, b)].all fun p => sideA (alT T A B r) T A B ps p.1 p.2 := by simp [alT]
            rw [eqn, hu.all] at q
            refine ⟨by simp [itEnum], ?_⟩
            exact q
      · rw [alT_false (by rintro a b ⟨⟩; exact h3 rfl)] at q
        have h3' : ¬ (xs.length : Int) = 2 := by omega
        simp [d_is_alike_tree, hr0, h3']; exact q
end
end Mini
end

section
set_option Elab.async false
set_option linter.all false
set_option maxRecDepth 100000
namespace Mini
open PySem PySem.Spec PyProof.Rows L2
/-! k84: game_on, is_game_paper. -/
structure TableAt (S : Sto) (n : Nat) (t : Int) (T : List Int) : Prop where
  ob : ∃ fs, S[n]? = some (.ins ("Table" : Str) fs) ∧ fs.lookup ("ties" : Str) = some (D.int t) ∧ fs.lookup ("turn" : Str) = some (dI T)
section
variable {G : Gl} {k : Nat} {S : Sto} {d x : D} {Q : D → Sto → Prop} {t : Int} {T : List Int} {A B : List (List Int)} {g o n : Nat}
@[simp] theorem wp_dct0 {e : Env'} : wp (fDct0 e S) Q ↔ Q (.obj S.length) (S ++ [.dct []]) := Iff.rfl
theorem ws_fld {nm : Str} {fo f : FE} {e : Env'} {N : Env' → Sto → Prop} {R : D → Sto → Prop} : ws (sFldD G fo f nm e S) N R ↔ wp (f e S) fun d S1 => wp (fo e S1) fun o S2 => ∃ n c fs, o = .obj n ∧ S2[n]? = some (.ins c fs) ∧ (G.att c nm = true ∧ fs.length < 1000) ∧ N e (S2.set n (.ins c (putD nm d fs))) := by
  unfold sFldD
  rw [ws_sB]
  constructor <;> intro h <;> refine wp_imp h fun d S1 q => ?_
  · rw [ws_sB] at q
    refine wp_imp q fun o S2 q => ?_
    cases o with
    | obj n =>
      cases hS : S2[n]? with
      | none => simp [hS, ws] at q
      | some ob =>
        cases ob with
        | ins c fs =>
          simp only [hS] at q
          split at q
          · exact ⟨n, c, fs, rfl, hS, by assumption, q⟩
          · cases q
        | _ => simp [hS, ws] at q
    | _ => cases q
  · rw [ws_sB]
    refine wp_imp q fun o S2 q => ?_
    obtain ⟨n, c, fs, rfl, hS, h, q⟩ := q
    simp only [hS, if_pos h]; exact q
theorem wp_make {c : Str} {n : Nat} {F : List D → M D} {la : FA} {e : Env'} (h : wp (la e S) fun ds S1 => ds.length + 1 = n ∧ wp (F (.obj S1.length :: ds) (S1 ++ [.ins c []])) fun v S2 => v = .non ∧ Q (.obj S1.length) S2) : wp (fMake c n F la e S) Q := by
  unfold fMake
  rw [wp_bnd]
  refine wp_imp h fun ds S1 q => ?_
  rw [if_pos q.1, wp_bnd]
  refine wp_imp q.2 fun v S2 q2 => ?_
  obtain ⟨rfl, q2⟩ := q2
  exact q2
theorem f_game_on (V : Envi G t T A B) (h : TableAt S n t T) {r : Nat} (q : ∀ U, S <+: U → GameAt U S.length T A B → Q (.obj S.length) U) : wp (cf G (k + 6) 30 [.obj n, dP A, dP B, .int r] S) Q := by
  obtain ⟨fs, h1, h2, h3⟩ := h.ob
  refine wp_cf rfl [some (.obj n), some (dP A), some (dP B), some (.int r)] rfl rfl ?_
  simp [d_game_on]
  refine f_check_picture V.att h1 h2 V.a ?_
  refine f_check_picture V.att h1 h2 V.b ?_
  refine f_check_number (by omega) ?_
  refine wp_make ?_
  simp
  refine wp_fld h1 (by rw [V.att]; rfl) h3 (by simp) ?_
  refine wp_cc rfl [some (.obj S.length), some (dI T), some (dP A), some (dP B)] rfl rfl ?_
  simp [d_Game___init, ws_fld, V.att, putD, lim]
  refine ⟨_, _, ⟨rfl, rfl⟩, ⟨rfl, by decide⟩, _, _, ⟨rfl, rfl⟩, ⟨rfl, (show 1 < 1000 by decide)⟩, _, _, ⟨rfl, rfl⟩, ⟨rfl, (show 2 < 1000 by decide)⟩, ?_⟩
  refine q _ (List.prefix_append _ _) ⟨S.length + 1, ?_⟩
  simp
  rfl
def gpT (T : List Int) (A B : List (List Int)) (r : Nat) : D → Bool
  | .tup [.str s, tr] => if s = ("apart" : Str) then apT T A B r [] tr else decide (s = ("alike" : Str)) && alT T A B r [] tr
  | _ => false
theorem f_paper (V : Envi G t T A B) {m r : Nat} (h : TableAt S n t T) (hr : r ≤ 16) (hm : m ≤ 19) (hd : Pap o S m d) (q : ∀ U, S <+: U → Q (.bl (gpT T A B r d)) U) : wp (cf G (k + 2 * r + 7) 34 [.obj n, dP A, dP B, .int r, d] S) Q := by
  refine wp_cf rfl [some (.obj n), some (dP A), some (dP B), some (.int r), some d, none] rfl rfl ?_
  simp [d_is_game_paper]
  refine f_game_on V h fun U hU hg => ?_
  have hd' := hd.kp (Kp.of (o := o) hU)
  obtain ⟨t1, a1, b1⟩ := isi_tuple hd'.typ
  refine ⟨t1, a1, ?_⟩
  cases hq : qTup d with
  | false =>
    have : gpT T A B r d = false := by
      cases d <;> first | rfl | cases hq
    rw [this] at q
    exact .inl ⟨by rw [b1, hq], q _ hU⟩
  | true =>
    obtain ⟨xs, rfl⟩ : ∃ trees, d = .tup trees := by cases d <;> simp [qTup] at hq; exact ⟨_, rfl⟩
    refine .inr ⟨by rw [b1, hq], ?_⟩
    simp
    by_cases h3 : xs.length = 2
    · match xs, h3, hd' with
      | [a, tr], _, hd' =>
        obtain ⟨m, rfl⟩ : ∃ m', m = m' + 1 := by
          cases m with
          | zero => exact hd'.elim
          | succ m => exact ⟨m, rfl⟩
        have ha := hd'.2 a (by simp)
        have htr := hd'.2 tr (by simp)
        simp
        refine ixW (i := 0) (xs := [a, tr]) (by rfl) (by simp) ?_
        obtain ⟨t2, a2, b2⟩ := isi_str ha.typ
        refine ⟨t2, a2, ?_⟩
        cases hs : qStr a with
        | false =>
          have : gpT T A B r (.tup [a, tr]) = false := by
            cases a <;> first | rfl | cases hs
          rw [this] at q
          exact .inl ⟨by simpa [hs] using b2, q _ hU⟩
        | true =>
          obtain ⟨s, rfl⟩ : ∃ s, a = .str s := by cases a <;> simp [qStr] at hs; exact ⟨_, rfl⟩
          have hso : PyData.strOk s = true := by cases m <;> exact ha
          refine .inr ⟨by simpa [hs] using b2, ?_⟩
          refine ixW (i := 0) (xs := [.str s, tr]) (by rfl) (by simp) ?_
          show (eqD U (.str s) (D.str (Str.ofString "apart")) = some false ∧ _) ∨ (eqD U (.str s) (D.str (Str.ofString "apart")) = some true ∧ _)
          have ok1 : PyData.strOk (Str.ofString "apart") = true := by decide +kernel
          have ok2 : PyData.strOk (Str.ofString "alike") = true := by decide +kernel
          rw [eqD_str hso ok1]
          by_cases h1 : s = Str.ofString "apart"
          · refine .inr ⟨by simp [h1], ?_⟩
            refine ixW (i := 1) (xs := [.str s, tr]) (by rfl) (by simp) ?_
            have e : k + 2 * r + 6 = (k + r + 2) + r + 4 := by omega
            rw [e]
            refine f_apart V r (k + r + 2) m U [] tr Q hg (by intro p hp; cases hp) (by simp; omega) (by omega) htr fun U2 h2 => ?_
            have : gpT T A B r (.tup [.str s, tr]) = apT T A B r [] tr := by simp [gpT, h1]
            rw [← this]
            exact q _ (hU.trans h2)
          · refine .inl ⟨by simp [h1], ?_⟩
            refine ixW (i := 0) (xs := [.str s, tr]) (by rfl) (by simp) ?_
            show (eqD U (.str s) (D.str (Str.ofString "alike")) = some false ∧ _) ∨ (eqD U (.str s) (D.str (Str.ofString "alike")) = some true ∧ _)
            rw [eqD_str hso ok2]
            by_cases h2 : s = Str.ofString "alike"
            · refine .inr ⟨by simp [h2], ?_⟩
              refine ixW (i := 1) (xs := [.str s, tr]) (by rfl) (by simp) ?_
              have e : k + 2 * r + 6 = (k + 2) + 2 * r + 4 := by omega
              rw [e]
              refine f_alike V r (k + 2) m U [] tr Q hg (by intro p hp; cases hp) (by simp; omega) (by omega) htr ?_
              have h1' := h1
              rw [h2] at h1'
              have : gpT T A B r (.tup [.str s, tr]) = alT T A B r [] tr := by simp [gpT, h2, h1']
              rw [← this]
              exact q _ hU
            · refine .inl ⟨by simp [h2], ?_⟩
              have : gpT T A B r (.tup [.str s, tr]) = false := by simp [gpT, h1, h2]
              rw [← this]
              exact q _ hU
    · have : gpT T A B r (.tup xs) = false := by
        unfold gpT
        split
        · rename_i h; cases h; exact absurd rfl h3
        · rfl
      rw [this] at q
      exact .inl ⟨by omega, q _ hU⟩
end
end Mini
end

section
set_option Elab.async false
set_option linter.all false
set_option maxRecDepth 100000
namespace Mini
open PySem PySem.Spec PyProof.Rows L2
/-! k84: _law_same, _law_number, _law_draw. -/
def SrcAt (S : Sto) (o : Nat) : Prop := ∃ (c : Nat) (cells : List Int) (pos : Nat) (mixed wide left : Int), S[o]? = some (.lst [.obj c, .int pos, .int mixed, .int wide, .int left]) ∧ c < o ∧ S[c]? = some (.lst (cells.map D.int))
section
variable {G : Gl} {k : Nat} {S : Sto} {d x : D} {Q : D → Sto → Prop} {t : Int} {T : List Int} {A B : List (List Int)} {g o n : Nat}
theorem eqD_bl {a b : Bool} : eqD S (.bl a) (.bl b) = some (a == b) := by
  simp [eqD, toPy, fuel, SeqAt.shaped, PyData.canLay0, PyData.depth, PyData.eqv]
theorem f_same {a b : Bool} (q : Q (.bl (a == b)) S) : wp (cf G (k + 1) 41 [.bl a, .bl b] S) Q := by
  refine wp_cf rfl [some (.bl a), some (.bl b), none] rfl rfl ?_
  simp [d_l_law_same, opIs, isNone, tyOf, isiAny, isiB, eqD_bl]
  cases a <;> cases b <;> simp_all
theorem f_number (h : Typ S d) {n : Int} (q : Q (.bl (isBel n d)) S) : wp (cf G (k + 1) 37 [d, .int n] S) Q := by
  refine wp_cf rfl [some d, some (.int n)] rfl rfl ?_
  obtain ⟨t1, a1, b1⟩ := isi_int h
  obtain ⟨t2, a2, b2⟩ := isi_bool h
  simp [d_l_law_number, a1, b1]
  rw [a1] at a2
  cases a2
  simp [b2]
  cases d <;> simp_all [qInt, qBl, isBel, opI, opLt]
  rename_i i
  by_cases h0 : 0 ≤ i <;> simp_all
theorem Kp.set {o : Nat} {S : Sto} {x : O} : Kp o S (S.set o x) := ⟨by simp, fun i h n => by rw [List.getElem?_set]; simp [Ne.symm n]⟩
theorem src_ix {xs : List D} {i : Int} {v : D} (h : S[o]? = some (.lst xs)) (hv : L2.atI xs i = some v) : wp (opIx (.obj o) (.int i) S) Q ↔ Q v S := by
  unfold opIx
  simp only [seqOf, lstOf, h, hv]
  exact Iff.rfl
theorem src_set {xs : List D} {i : Int} {j : Nat} {v : D} {P : Sto → Prop} (h : S[o]? = some (.lst xs)) (hv : L2.ixN xs.length i = some j) (q : P (S.set o (.lst (xs.set j v)))) : ∃ S', wLst (.obj o) (.int i) v S = some S' ∧ P S' := by
  refine ⟨_, ?_, q⟩
  unfold wLst
  simp only [h, hv]
theorem src_set2 {xs : List D} {i : Int} {j : Nat} {v : D} {P : Sto → Prop} (h : S[o]? = some (.lst xs)) (hv : L2.ixN xs.length i = some j) (q : ∀ S', S'[o]? = some (.lst (xs.set j v)) → Kp o S S' → P S') : ∃ S', wLst (.obj o) (.int i) v S = some S' ∧ P S' :=
  src_set h hv (q _ (by have := (List.getElem?_eq_some_iff.mp h).1; simp [this]) Kp.set)
theorem draw2 (h : SrcAt S o) {m : Nat} (hm : 1 ≤ m) (hm2 : m < 2 ^ 30) {e : Env'} {x : Option D} (q : ∀ U v, Kp o S U → SrcAt U o → 0 ≤ v → v < (m : Int) → Q (.int v) U) {N : Env' → Sto → Prop} :
    ws ((sSeq (sSub (eC (.int 0)) (eVar 0) (eC (.int 4)) wLst) (sSeq (sSub (fOp2 opMod (fCall cInt (aCons (fOp2 opAdd (fOp2 opMul (fOp2 opIx (eVar 0) (eC (.int 2))) (eC (.int 69621))) (eC (.int 13))) aNil)) (eC (.int 2147483647))) (eVar 0) (eC (.int 2)) wLst) (sSeq (sRet (fOp2 opMod (fCall cInt (aCons (fOp2 opDiv (fOp2 opIx (eVar 0) (eC (.int 2))) (eC (.int 131))) aNil)) (eVar 1))) sNil))) [some (.obj o), some (.int m), x, none] S) N Q := by
  obtain ⟨c, cells, pos, mixed, wide, left, h1, hc, h2⟩ := h
  have ho := (List.getElem?_eq_some_iff.mp h1).1
  simp
  refine src_set h1 rfl ?_
  have g1 : (S.set o (.lst ([D.obj c, .int pos, .int mixed, .int wide, .int left].set 4 (.int 0))))[o]? = some (.lst [D.obj c, .int pos, .int mixed, .int wide, .int 0]) := by simp [ho]
  refine (src_ix g1 (show L2.atI _ (2 : Int) = some (.int mixed) from rfl)).mpr ?_
  generalize hS1 : S.set o (.lst ([D.obj c, .int pos, .int mixed, .int wide, .int left].set 4 (.int 0))) = S1 at *
  simp [opMul, opAdd, cInt, opMod]
  refine src_set g1 rfl ?_
  have ho1 : o < S1.length := by rw [← hS1]; simp [ho]
  have kp1 : Kp o S S1 := by rw [← hS1]; exact Kp.set
  generalize (mixed * 69621 + 13).fmod 2147483647 = mx
  have g2 : (S1.set o (.lst ([D.obj c, .int pos, .int mixed, .int wide, .int 0].set 2 (.int mx))))[o]? = some (.lst [D.obj c, .int pos, .int mx, .int wide, .int 0]) := by simp [ho1]
  refine (src_ix g2 (show L2.atI _ (2 : Int) = some (.int mx) from rfl)).mpr ?_
  have kp2 := kp1.trans (Kp.set (o := o) (S := S1) (x := .lst ([D.obj c, .int pos, .int mixed, .int wide, .int 0].set 2 (.int mx))))
  generalize hS2 : S1.set o (.lst ([D.obj c, .int pos, .int mixed, .int wide, .int 0].set 2 (.int mx))) = S2 at *
  have hm0 : ¬ m = 0 := by omega
  have hmp : (0 : Int) < m := by omega
  simp [opDiv, hm0]
  exact q _ _ kp2 ⟨c, cells, pos, mx, wide, 0, g2, hc, kp2.at h2 (Nat.ne_of_lt hc)⟩ (Int.fmod_nonneg_of_pos _ hmp) (Int.fmod_lt_of_pos _ hmp)
theorem draw0 (h : SrcAt S o) {m : Nat} {R : D → Sto → Prop} : ws ((sIf (bAnd (bVal (fOp2 (opEq false) (fOp2 opIx (eVar 0) (eC (.int 4))) (eC (.int 0)))) (bVal (fOp2 opLt (fOp2 opIx (eVar 0) (eC (.int 1))) (fCall cLen (aCons (fOp2 opIx (eVar 0) (eC (.int 0))) aNil))))) (sSeq (sAsg (fOp2 opIx (fOp2 opIx (eVar 0) (eC (.int 0))) (fOp2 opIx (eVar 0) (eC (.int 1)))) (gVar 2)) (sSeq (sSub (fOp2 opAdd (fOp2 opIx (eVar 0) (eC (.int 1))) (eC (.int 1))) (eVar 0) (eC (.int 1)) wLst) (sSeq (sIf (bVal (fOp2 (opI fun i j => decide (j ≤ i)) (fCall cAbs (aCons (eVar 2) aNil)) (fOp2 opPow (eC (.int 10)) (eC (.int 18))))) (sSeq (sSub (fOp2 opSub (fCall cAbs (aCons (eVar 2) aNil)) (fOp2 opPow (eC (.int 10)) (eC (.int 18)))) (eVar 0) (eC (.int 3)) wLst) (sSeq (sSub (eC (.int 60)) (eVar 0) (eC (.int 4)) wLst) sNil)) (sSeq (sSub (fOp2 opMod (fCall cInt (aCons (fOp2 opAdd (fOp2 opAdd (fOp2 opMul (fOp2 opIx (eVar 0) (eC (.int 2))) (eC (.int 48271))) (fOp2 opMul (eVar 2) (eC (.int 69621)))) (eC (.int 11))) aNil)) (eC (.int 2147483647))) (eVar 0) (eC (.int 2)) wLst) sNil)) sNil))) sNil) [some (.obj o), some (.int m), none, none] S) (fun e' S' => (∃ x, e' = [some (.obj o), some (.int m), x, none]) ∧ SrcAt S' o ∧ Kp o S S') R := by
  obtain ⟨c, cells, pos, mixed, wide, left, h1, hc, h2⟩ := id h
  have ho := (List.getElem?_eq_some_iff.mp h1).1
  have i0 := fun Q => src_ix (Q := Q) h1 (show L2.atI _ (0 : Int) = some (.obj c) from rfl)
  have i1 := fun Q => src_ix (Q := Q) h1 (show L2.atI _ (1 : Int) = some (.int pos) from rfl)
  have i4 := fun Q => src_ix (Q := Q) h1 (show L2.atI _ (4 : Int) = some (.int left) from rfl)
  have sc : seqOf S (.obj c) = some (cells.map D.int) := by simp [seqOf, lstOf, h2]
  simp only [ws_if, wp_bAnd, wp_bVal, wp_op2, wp_eVar, wp_c, List.getElem?_cons_zero, Option.some.injEq, exists_eq_left', i4, i1, i0]
  simp [i0, i1, i4, sc]
  by_cases hl : left = 0
  · refine .inr ⟨hl, ?_⟩
    by_cases hp : pos < cells.length
    · have ht : opLt (.int pos) (.int cells.length) S = some (.val (.bl true) S) := by simp [opLt, ret, hp]
      refine wp_at ht (.inr ⟨rfl, ?_⟩)
      refine (i0 _).mpr ((i1 _).mpr (ixW (xs := cells.map D.int) sc (by simpa using hp) ((i1 _).mpr ?_)))
      simp only [List.getElem_map]
      generalize cells[pos] = a
      show ∃ S', wLst (.obj o) (.int 1) (.int ((pos : Int) + 1)) S = some S' ∧ _
      refine src_set2 h1 rfl fun S1 g1 kp1 => ?_
      have g1 : S1[o]? = some (.lst [D.obj c, .int (pos + 1 : Nat), .int mixed, .int wide, .int left]) := g1
      have j2 := fun Q => src_ix (Q := Q) g1 (show L2.atI _ (2 : Int) = some (.int mixed) from rfl)
      simp [cAbs, opPow, opI, opMul, opAdd, cInt, opMod, j2]
      by_cases hb : (if a < 0 then -a else a) < 1000000000000000000
      · refine .inl ⟨hb, ?_⟩
        refine src_set2 g1 rfl fun S2 g2 kp2 => ?_
        exact ⟨⟨c, cells, pos + 1, _, wide, left, g2, hc, (kp1.trans kp2).at h2 (Nat.ne_of_lt hc)⟩, kp1.trans kp2⟩
      · refine .inr ⟨by omega, ?_⟩
        refine src_set2 g1 rfl fun S2 g2 kp2 => ?_
        refine src_set2 g2 rfl fun S3 g3 kp3 => ?_
        have kp := (kp1.trans kp2).trans kp3
        exact ⟨⟨c, cells, pos + 1, mixed, _, 60, g3, hc, kp.at h2 (Nat.ne_of_lt hc)⟩, kp⟩
    · have ht : opLt (.int pos) (.int cells.length) S = some (.val (.bl false) S) := by simp [opLt, ret]; omega
      refine wp_at ht (.inl ⟨rfl, h, Kp.refl _⟩)
  · exact .inl ⟨hl, h, Kp.refl _⟩
theorem draw1 (h : SrcAt S o) {m : Nat} (hm : 1 ≤ m) (hm2 : m < 2 ^ 30) {x : Option D} (q : ∀ U v, Kp o S U → SrcAt U o → 0 ≤ v → v < (m : Int) → Q (.int v) U) : ws ((sIf (bAnd (bVal (fOp2 (opI fun i j => decide (j < i)) (fOp2 opIx (eVar 0) (eC (.int 4))) (eC (.int 0)))) (bVal (fOp2 (opI fun i j => decide (j < i)) (fOp2 opIx (eVar 0) (eC (.int 3))) (eC (.int 0))))) (sSeq (sSub (fOp2 opSub (fOp2 opIx (eVar 0) (eC (.int 4))) (eC (.int 1))) (eVar 0) (eC (.int 4)) wLst) (sSeq (sAsg (fOp2 opMod (fCall cInt (aCons (fOp2 opIx (eVar 0) (eC (.int 3))) aNil)) (eVar 1)) (gVar 3)) (sSeq (sSub (fOp2 opDiv (fOp2 opIx (eVar 0) (eC (.int 3))) (eVar 1)) (eVar 0) (eC (.int 3)) wLst) (sSeq (sRet (eVar 3)) sNil)))) sNil) [some (.obj o), some (.int m), x, none] S) (fun e' S' => e' = [some (.obj o), some (.int m), x, none] ∧ S' = S) Q := by
  obtain ⟨c, cells, pos, mixed, wide, left, h1, hc, h2⟩ := id h
  have i3 := fun Q => src_ix (Q := Q) h1 (show L2.atI _ (3 : Int) = some (.int wide) from rfl)
  have i4 := fun Q => src_ix (Q := Q) h1 (show L2.atI _ (4 : Int) = some (.int left) from rfl)
  have hm0 : ¬ m = 0 := by omega
  have hmp : (0 : Int) < m := by omega
  simp [i3, i4, opI, opSub]
  by_cases hl : 0 < left
  · by_cases hw : 0 < wide
    · simp [hl, hw]
      refine .inr (.inr ?_)
      refine src_set2 h1 rfl fun S1 g1 kp1 => ?_
      have g1 : S1[o]? = some (.lst [D.obj c, .int pos, .int mixed, .int wide, .int (left - 1)]) := g1
      have j3 := fun Q => src_ix (Q := Q) g1 (show L2.atI _ (3 : Int) = some (.int wide) from rfl)
      refine (j3 _).mpr ?_
      simp [cInt, opMod, hm0]
      refine (j3 _).mpr ?_
      have hd : opDiv (.int wide) (.int m) S1 = some (.val (.int (wide.fdiv m)) S1) := by
        have : m < 1073741824 := hm2
        simp [opDiv, ret, hm0, this]
      refine wp_at hd ?_
      refine src_set2 g1 rfl fun S2 g2 kp2 => ?_
      have kp := kp1.trans kp2
      exact q _ _ kp ⟨c, cells, pos, mixed, _, _, g2, hc, kp.at h2 (Nat.ne_of_lt hc)⟩ (Int.fmod_nonneg_of_pos _ hmp) (Int.fmod_lt_of_pos _ hmp)
    · simp [hl, hw]
      omega
  · simp [hl]
    omega
theorem f_draw (h : SrcAt S o) {m : Nat} (hm : 1 ≤ m) (hm2 : m < 2 ^ 30) (q : ∀ U v, Kp o S U → SrcAt U o → 0 ≤ v → v < (m : Int) → Q (.int v) U) : wp (cf G (k + 1) 1 [.obj o, .int m] S) Q := by
  refine wp_cf rfl [some (.obj o), some (.int m), none, none] rfl rfl ?_
  unfold d_l_law_draw
  rw [ws_seq]
  refine ws_imp (draw0 h (R := Q) (m := m)) (fun e1 S1 p => ?_) (fun d S1 p => p)
  obtain ⟨⟨x, rfl⟩, h1, kp1⟩ := p
  rw [ws_seq]
  have q1 : ∀ U v, Kp o S1 U → SrcAt U o → 0 ≤ v → v < (m : Int) → Q (.int v) U := fun U v a b c d => q U v (kp1.trans a) b c d
  refine ws_imp (draw1 h1 hm hm2 (x := x) q1) (fun e2 S2 p => ?_) (fun d S1 p => p)
  obtain ⟨rfl, rfl⟩ := p
  exact draw2 (e := []) h1 hm hm2 q1
theorem SrcAt.app {U : Sto} (h : SrcAt S o) : SrcAt (S ++ U) o := by
  obtain ⟨c, cells, pos, mixed, wide, left, h1, hc, h2⟩ := h
  exact ⟨c, cells, pos, mixed, wide, left, get_pre h1 (List.prefix_append _ _), hc, get_pre h2 (List.prefix_append _ _)⟩
theorem SrcAt.put {n : Nat} {x : O} (h : SrcAt S o) (hn : o < n) : SrcAt (S.set n x) o := by
  obtain ⟨c, cells, pos, mixed, wide, left, h1, hc, h2⟩ := h
  refine ⟨c, cells, pos, mixed, wide, left, ?_, hc, ?_⟩
  · rw [List.getElem?_set_ne (by omega)]; exact h1
  · rw [List.getElem?_set_ne (by omega)]; exact h2
theorem SrcAt.lt (h : SrcAt S o) : o < S.length := by
  obtain ⟨c, cells, pos, mixed, wide, left, h1, hc, h2⟩ := h
  exact (List.getElem?_eq_some_iff.mp h1).1
/-- a store beyond what stood changes nothing of it -/
theorem Kp.put {S0 : Sto} {n : Nat} {x : O} (h : Kp o S0 S) (hn : S0.length ≤ n) : Kp o S0 (S.set n x) := ⟨by simpa using h.len, fun i hi ho => by rw [List.getElem?_set_ne (by omega)]; exact h.get i hi ho⟩
end
end Mini
end

section
set_option Elab.async false
set_option linter.all false
set_option maxRecDepth 100000
namespace Mini
open PySem PySem.Spec PyProof.Rows L2
/-! k84: _law_picture. -/
section
variable {G : Gl} {k : Nat} {S : Sto} {d x : D} {Q : D → Sto → Prop} {T : List Int} {A B : List (List Int)} {g o n : Nat}
theorem wp_app {fo : FE} {la : FA} {e : Env'} {R : Nat} (ho : wp (fo e S) fun d S1 => d = .obj R ∧ S1 = S) (hS : isLst S (.obj R) = true) (q : wp (la e S) fun ds S1 => ∃ y xs, ds = [y] ∧ S1[R]? = some (.lst xs) ∧ xs.length < lim ∧ Q .non (S1.set R (.lst (xs ++ [y])))) : wp (fApp fo la e S) Q := by
  unfold fApp
  rw [wp_bnd]
  refine wp_imp ho fun d S1 q1 => ?_
  obtain ⟨rfl, rfl⟩ := q1
  simp only [hS, if_true]
  rw [wp_bnd]
  refine wp_imp q fun ds S2 q2 => ?_
  obtain ⟨y, xs, rfl, h1, h2, h3⟩ := q2
  simp only [h1, if_pos h2]; exact h3
theorem f_picture (h : SrcAt S o) {t p : Nat} {ti pi : Int} (et : ti = t) (ep : pi = p) (ht : 1 ≤ t) (ht2 : t < 2 ^ 30) (hp : p ≤ 16) (q : ∀ U P, Kp o S U → SrcAt U o → Pic t P → P.length = p → Q (dP P) U) : wp (cf G (k + 2) 17 [.obj o, .int ti, .int pi] S) Q := by
  refine wp_cf rfl [some (.obj o), some (.int ti), some (.int pi), none, none, none] rfl rfl ?_
  simp [d_l_law_picture]
  have hlt := h.lt
  refine ⟨by omega, ?_⟩
  refine ws_loop ((List.range p).map fun (i : Nat) => D.int i) (fun i e S' => ∃ y z P, e = [some (.obj o), some (.int ti), some (.int pi), some (.obj S.length), y, z] ∧ S'[S.length]? = some (.lst (P.map dI)) ∧ Kp o S S' ∧ SrcAt S' o ∧ Pic t P ∧ P.length = i) (by simp [lim]; omega)
    ⟨none, none, [], rfl, by simp, Kp.of (List.prefix_append _ _), h.app, ⟨by simp, by simp, by simp⟩, rfl⟩ (fun i e S' ⟨y, z, P, he, hR, kp, hs, pic, hl⟩ hi => ?_) (fun e S' ⟨y, z, P, he, hR, kp, hs, pic, hl⟩ => ?_)
  · subst he
    simp at hi
    refine ⟨by rw [ep]; simp [it_rng, hi], _, rfl, ?_⟩
    simp [hi]
    refine wp_app (R := S.length) (by simp) (by simp [isLst, hR]) ?_
    simp
    refine ⟨by omega, ?_⟩
    refine wp_comp ((List.range i).map fun (j : Nat) => D.int j) (fun j acc S1 => ∃ r : List Int, acc = r.map D.int ∧ r.length = j ∧ (∀ x ∈ r, 0 ≤ x ∧ x < (t : Int)) ∧ S1[S.length]? = some (.lst (P.map dI)) ∧ Kp o S S1 ∧ SrcAt S1 o) (by simp [lim]; omega) ⟨[], rfl, rfl, by simp, hR, kp, hs⟩ (fun j acc S1 ⟨r, e1, e2, e3, e4, e5, e6⟩ hj ha => ?_) (fun acc S1 ⟨r, e1, e2, e3, e4, e5, e6⟩ => ?_)
    · simp at hj
      refine ⟨by simp [it_rng, hj], _, rfl, ?_⟩
      simp [hj, bTrue, wipeE]
      rw [et]
      refine f_draw e6 ht ht2 fun U v a b c d => ⟨r ++ [v], by simp [e1], by simp [e2], ?_, a.at e4 (by omega), e5.trans a, b⟩
      intro x hx
      rcases List.mem_append.mp hx with hx | hx
      · exact e3 x hx
      · simp at hx; subst hx; exact ⟨c, d⟩
    · simp at e2
      refine ⟨by simp [it_rng], ?_⟩
      have hlen := (List.getElem?_eq_some_iff.mp e4).1
      refine ⟨_, e4, by simp [lim]; omega, P ++ [r], by simp [hlen, dI, e1], e5.put (Nat.le_refl _), e6.put hlt, ⟨by simp; omega, ?_, ?_⟩, by simp; omega⟩
      · intro j hj
        by_cases hjl : j < P.length
        · rw [List.getElem_append_left hjl]; exact pic.row j hjl
        · simp at hj
          have : j = P.length := by omega
          subst this
          simp; omega
      · intro r' hr'
        rcases List.mem_append.mp hr' with hr' | hr'
        · exact pic.low r' hr'
        · simp at hr'; subst hr'; exact e3
  · subst he
    refine ⟨by rw [ep]; simp [it_rng], ?_⟩
    simp at hl
    refine ⟨_, rfl, ?_⟩
    unfold cTup
    simp [seqOf, lstOf, hR]
    exact q _ P kp hs pic hl
end
end Mini
end

section
set_option Elab.async false
set_option linter.all false
set_option maxRecDepth 100000
namespace Mini
open PySem PySem.Spec PyProof.Rows L2
/-! k84: _law_source. -/
section
variable {G : Gl} {k : Nat} {S : Sto} {d x : D} {Q : D → Sto → Prop}
theorem wp_slL {f1 : FE} {e : Env'} {QL : List D → Sto → Prop} {ns : List Int} {j : Int} (hf : wp (f1 e S) fun d S1 => d = .rol ns ∧ S1 = S) (q : QL (cutG (ns.map D.int) none (some j)) S) : wp (fSlL f1 oNone (oSome (eC (.int j))) e S) QL := by
  unfold fSlL
  rw [wp_bnd]
  refine wp_imp hf fun d S1 q1 => ?_
  obtain ⟨rfl, rfl⟩ := q1
  exact q
theorem cut63 {ns : List Int} (h : ns.length ≤ 63) : cutG (ns.map D.int) none (some 63) = ns.map D.int := by
  unfold cutG HT.sIx
  simp
  rw [List.take_of_length_le (by simp; omega)]
theorem f_source {ns : List Int} (hl : ns.length ≤ 63) (q : ∀ U, S <+: U → SrcAt U (S.length + 3) → Q (.obj (S.length + 3)) U) : wp (cf G (k + 1) 0 [.rol ns] S) Q := by
  refine wp_cf rfl [some (.rol ns), none, none] rfl rfl ?_
  simp [d_l_law_source]
  refine wp_slL (ns := ns) (by simp) ?_
  rw [cut63 hl]
  refine ⟨by simp [okIt, seqOf, lstOf], ?_⟩
  refine ws_loop (ns.map D.int) (fun i e S' => ∃ m y, e = [some (.rol ns), some (.int m), y] ∧ S' = S ++ [O.lst (ns.map D.int)]) (by simp [lim]; omega) ⟨20011, none, rfl, rfl⟩ (fun i e S' ⟨m, y, he, hS⟩ hi => ?_) (fun e S' ⟨m, y, he, hS⟩ => ?_)
  · subst he hS
    simp at hi
    refine ⟨by simp [itVal, seqOf, lstOf, hi], _, rfl, ?_⟩
    simp [hi, opMul, opAdd, opMod, cInt]
  · subst he hS
    refine ⟨by simp [itVal, seqOf, lstOf], ?_⟩
    refine wp_slL (ns := ns) (by simp) ?_
    rw [cut63 hl]
    refine ⟨by simp [okIt, seqOf, lstOf], ?_⟩
    refine wp_comp (ns.map D.int) (fun i acc S' => S' = S ++ [O.lst (ns.map D.int)] ++ [O.lst (ns.map D.int)] ∧ acc = (ns.take i).map D.int) (by simp [lim]; omega) ⟨rfl, rfl⟩ (fun i acc S' ⟨h1, h2⟩ hi ha => ?_) (fun acc S' ⟨h1, h2⟩ => ?_)
    · subst h1 h2
      simp at hi
      refine ⟨by simp [itVal, seqOf, lstOf, hi], _, rfl, ?_⟩
      simp [hi, bTrue, wipeE, cInt]
      rw [List.take_succ_eq_append_getElem (by simpa using hi)]
      simp
    · subst h1 h2
      refine ⟨by simp [itVal, seqOf, lstOf], ?_⟩
      simp [lim]
      refine q _ (List.prefix_append _ _) ⟨S.length + 2, ns, 0, m, 0, 0, by simp, by omega, by simp⟩
end
end Mini
end

section
set_option Elab.async false
set_option linter.all false
set_option maxRecDepth 100000
namespace Mini
open PySem PySem.Spec PyProof.Rows L2
/-! k84: _law_sort. -/
def cell0 (T : List Int) (P : List (List Int)) (pts : List Nat) (j i : Nat) : Int := if pts.getD i 0 = pts.getD j 0 then -1 else tieV T P (pts.getD i 0) (pts.getD j 0)
def row0 (T : List Int) (P : List (List Int)) (pts : List Nat) (j m : Nat) : List Int := (List.range m).map (cell0 T P pts j)
def srt0 (T : List Int) (P : List (List Int)) (pts : List Nat) : Nat → List Int
  | 0 => []
  | n + 1 => srt0 T P pts n ++ row0 T P pts n n
@[irreducible] def dQ (pts : List Nat) : D := .tup (pts.map fun (p : Nat) => D.int p)
theorem dQ_eq {pts : List Nat} : dQ pts = .tup (pts.map fun (p : Nat) => D.int p) := by unfold dQ; rfl
@[simp] theorem seq_dQ {S : Sto} {pts : List Nat} : seqOf S (dQ pts) = some (pts.map fun (p : Nat) => D.int p) := by rw [dQ_eq]; rfl
theorem opAdd_dQ {S : Sto} {Q : D → Sto → Prop} {pts : List Nat} {p : Nat} (h : pts.length < lim) (q : Q (dQ (pts ++ [p])) S) : wp (opAdd (dQ pts) (.tup [.int p]) S) Q := by
  rw [dQ_eq]
  refine opAdd_tup (by simp; omega) ?_
  rw [dQ_eq] at q
  simpa using q
def srtT (T : List Int) (P : List (List Int)) : Nat → List Nat → D
  | 0, pts => dI (srt0 T P pts pts.length)
  | r + 1, pts => .tup (sortD ((List.range P.length).map fun p => srtT T P r (pts ++ [p])))
theorem row0_len {T P pts j m} : (row0 T P pts j m).length = m := by simp [row0]
theorem srt0_le {T P pts} : ∀ {n : Nat}, n ≤ 5 → (srt0 T P pts n).length ≤ 5 * n
  | 0, _ => by simp [srt0]
  | n + 1, h => by
    have := srt0_le (T := T) (P := P) (pts := pts) (n := n) (by omega)
    simp [srt0, row0_len]; omega
section
variable {G : Gl} {k : Nat} {S : Sto} {d x : D} {Q : D → Sto → Prop} {t : Int} {T : List Int} {P : List (List Int)}
theorem wp_app1 {fo f1 : FE} {e : Env'} {R : Nat} (ho : wp (fo e S) fun d S1 => d = .obj R ∧ S1 = S) (hS : isLst S (.obj R) = true) (q : wp (f1 e S) fun y S1 => ∃ xs, S1[R]? = some (.lst xs) ∧ xs.length < lim ∧ Q .non (S1.set R (.lst (xs ++ [y])))) : wp (fApp fo (aCons f1 aNil) e S) Q := by
  refine wp_app ho hS ?_
  rw [wp_cons]
  refine wp_imp q fun y S1 ⟨xs, h1, h2, h3⟩ => ?_
  rw [wp_nil]
  exact ⟨y, xs, rfl, h1, h2, h3⟩
theorem wp_vNegC {i : Int} {e : Env'} : wp (vNeg (eC (.int i)) e S) Q ↔ Q (.int (-i)) S := Iff.rfl
theorem set_last {x y : O} : (S ++ [x]).set S.length y = S ++ [y] := by simp
theorem f_sort0 (hT : Turn t T) (hP : Pic t P) {pts : List Nat} (hp : ∀ p ∈ pts, p < P.length) (hl : pts.length ≤ 5) (q : ∀ U, S <+: U → Q (srtT T P 0 pts) U) : wp (cf G (k + 2) 22 [dI T, dP P, dQ pts, .int (0 : Nat)] S) Q := by
  refine wp_cf rfl [some (dI T), some (dP P), some (dQ pts), some (.int (0 : Nat)), none, none, none, none] (by rfl) (by rfl) ?_
  simp [d_l_law_sort]
  refine ⟨by omega, ?_⟩
  refine ws_loop ((List.range pts.length).map fun (i : Nat) => D.int i) (fun i e S' => ∃ y z, e = [some (dI T), some (dP P), some (dQ pts), some (.int (0 : Nat)), some (.obj S.length), y, z, none] ∧ S' = S ++ [.lst ((srt0 T P pts i).map D.int)]) (by simp [lim]; omega) ⟨none, none, rfl, by simp [srt0]⟩ (fun i e S' ⟨y, z, he, hS⟩ hi => ?_) (fun e S' ⟨y, z, he, hS⟩ => ?_)
  · subst he hS
    simp at hi
    have hs := srt0_le (T := T) (P := P) (pts := pts) (n := i) (by omega)
    refine ⟨by simp [it_rng, hi], _, rfl, ?_⟩
    simp [hi]
    refine ⟨by omega, ?_⟩
    refine ws_loop ((List.range i).map fun (j : Nat) => D.int j) (fun j e S' => ∃ z, e = [some (dI T), some (dP P), some (dQ pts), some (.int (0 : Nat)), some (.obj S.length), some (.int i), z, none] ∧ S' = S ++ [.lst ((srt0 T P pts i ++ row0 T P pts i j).map D.int)]) (by simp [lim]; omega) ⟨z, rfl, by simp [row0]⟩ (fun j e S' ⟨z, he, hS⟩ hj => ?_) (fun e S' ⟨z, he, hS⟩ => ?_)
    · subst he hS
      simp at hj
      refine ⟨by simp [it_rng, hj], _, rfl, ?_⟩
      simp [hj]
      have hjl : j < pts.length := by omega
      refine ixW (i := j) (xs := pts.map fun (p : Nat) => D.int p) (by simp [dQ]) (by simpa using hjl) ?_
      refine ixW (i := i) (xs := pts.map fun (p : Nat) => D.int p) (by simp [dQ]) (by simpa using hi) ?_
      have ec : ∀ v : Int, v = cell0 T P pts i j → (S ++ [O.lst ((srt0 T P pts i ++ row0 T P pts i j).map D.int)]).set S.length (.lst ((srt0 T P pts i ++ row0 T P pts i j).map D.int ++ [.int v])) = S ++ [O.lst ((srt0 T P pts i ++ row0 T P pts i (j + 1)).map D.int)] := by
        intro v hv
        rw [set_last, hv]
        simp [row0, List.range_succ]
      have hlen : ((srt0 T P pts i ++ row0 T P pts i j).map D.int).length < lim := by simp [row0_len, lim]; omega
      simp
      have hget : (S ++ [O.lst ((srt0 T P pts i ++ row0 T P pts i j).map D.int)])[S.length]? = some (.lst ((srt0 T P pts i ++ row0 T P pts i j).map D.int)) := by simp
      rw [List.map_append] at hget hlen
      by_cases hq : pts[j] = pts[i]
      · refine .inr ⟨by simp [hq], ?_⟩
        refine wp_app1 (R := S.length) (by simp) (by simp [isLst]) ?_
        rw [wp_vNegC]
        refine ⟨_, hget, hlen, ?_⟩
        have := ec (-1) (by simp [cell0, hq, hi, hjl])
        rw [List.map_append] at this
        simpa using this
      · refine .inl ⟨by omega, ?_⟩
        refine wp_app1 (R := S.length) (by simp) (by simp [isLst]) ?_
        simp
        refine ixW (i := j) (xs := pts.map fun (p : Nat) => D.int p) (by simp) (by simpa using hjl) ?_
        refine ixW (i := i) (xs := pts.map fun (p : Nat) => D.int p) (by simp) (by simpa using hi) ?_
        simp only [List.getElem_map]
        refine (tie_W hT hP (hp _ (List.getElem_mem hjl)) (hp _ (List.getElem_mem hi)) hq ?_).2
        refine ⟨_, hget, hlen, ?_⟩
        have := ec (tieV T P pts[j] pts[i]) (by simp [cell0, hq, hi, hjl])
        rw [List.map_append] at this
        simpa using this
    · subst he hS
      refine ⟨by simp [it_rng], ?_⟩
      simp [srt0]
  · subst he hS
    refine ⟨by simp [it_rng], ?_⟩
    simp
    unfold cTup
    simp [seqOf, lstOf]
    have := q (S ++ [.lst ((srt0 T P pts pts.length).map D.int)]) (List.prefix_append _ _)
    exact this
end
end Mini
end

section
set_option Elab.async false
set_option linter.all false
set_option maxRecDepth 100000
namespace Mini
open PySem PySem.Spec PyProof.Rows L2 PySem.W
/-! nested tuples of whole numbers by their depth -/
def Shp : Nat → D → Prop
  | 0, d => ∃ ns : List Int, d = dI ns ∧ ns.length ≤ 30
  | n + 1, d => ∃ xs, d = .tup xs ∧ xs.length ≤ 30 ∧ ∀ x ∈ xs, Shp n x
theorem ntDs_of : ∀ {xs : List D}, (∀ x ∈ xs, ntD x = true) → ntDs xs = true
  | [], _ => rfl
  | x :: xs, h => by
    rw [ntDs, h x (by simp), ntDs_of fun y hy => h y (by simp [hy])]; rfl
theorem toKeys_of {m : Nat} : ∀ {xs : List D}, (∀ x ∈ xs, ∃ k, toKey x = some k ∧ k.depth ≤ m) → ∃ ks, toKeys xs = some ks ∧ NestedKey.depthAll ks ≤ m
  | [], _ => ⟨[], rfl, by simp [NestedKey.depthAll]⟩
  | x :: xs, h => by
    obtain ⟨k, h1, h2⟩ := h x (by simp)
    obtain ⟨ks, h3, h4⟩ := toKeys_of (xs := xs) fun y hy => h y (by simp [hy])
    exact ⟨k :: ks, by simp [toKeys, h1, h3], by simp [NestedKey.depthAll]; omega⟩
theorem encDs_depth {m : Nat} : ∀ {xs : List D}, (∀ x ∈ xs, (encD x).depth ≤ m) → PyData.depthAll (encDs xs) ≤ m
  | [], _ => by simp [encDs, PyData.depthAll]
  | x :: xs, h => by
    have h1 := h x (by simp)
    have h2 := encDs_depth (xs := xs) fun y hy => h y (by simp [hy])
    simp [encDs, PyData.depthAll]; omega
theorem encDs_lay : ∀ {xs : List D}, (∀ x ∈ xs, (encD x).canLay0 = true) → PyData.canLayAll0 (encDs xs) = true
  | [], _ => by simp [encDs, PyData.canLayAll0]
  | x :: xs, h => by
    have h1 := h x (by simp)
    have h2 := encDs_lay (xs := xs) fun y hy => h y (by simp [hy])
    simp [encDs, PyData.canLayAll0, h1, h2]
theorem alikeAll_of : ∀ {xs ys : List D}, (∀ x ∈ xs, ∀ y ∈ ys, alike (encD x) (encD y) = true) → alikeAll (encDs xs) (encDs ys) = true
  | [], _, _ => by simp [encDs, alikeAll]
  | _ :: _, [], _ => by simp [encDs, alikeAll]
  | x :: xs, y :: ys, h => by
    have h1 := h x (by simp) y (by simp)
    have h2 := alikeAll_of (xs := xs) (ys := ys) fun a ha b hb => h a (by simp [ha]) b (by simp [hb])
    simp [encDs, alikeAll, h1, h2]
theorem toPys_of {S : Sto} {N : Nat} : ∀ {xs : List D}, (∀ x ∈ xs, ∀ f, N ≤ f → toPy S f x = some (encD x)) → ∀ f, N + xs.length + 1 ≤ f → toPys S f xs = some (encDs xs)
  | [], _, f, hf => by
    obtain ⟨f, rfl⟩ : ∃ f', f = f' + 1 := ⟨f - 1, by omega⟩
    simp [toPys, encDs]
  | x :: xs, h, f, hf => by
    obtain ⟨f, rfl⟩ : ∃ f', f = f' + 1 := ⟨f - 1, by omega⟩
    simp at hf
    have h1 := h x (by simp) f (by omega)
    have h2 := toPys_of (xs := xs) (fun y hy => h y (by simp [hy])) f (by omega)
    simp [toPys, encDs, h1, h2]
theorem Shp.tup : ∀ {n : Nat} {d : D}, Shp n d → ∃ xs, d = .tup xs
  | 0, _, ⟨ns, h, _⟩ => ⟨_, h⟩
  | _ + 1, _, ⟨xs, h, _⟩ => ⟨xs, h⟩
theorem Shp.nt : ∀ {n : Nat} {d : D}, Shp n d → ntD d = true
  | 0, _, ⟨ns, h, _⟩ => by
    subst h
    rw [dI, ntD]
    exact ntDs_of (by simp [ntD])
  | n + 1, _, ⟨xs, h, _, hx⟩ => by
    subst h
    rw [ntD]
    exact ntDs_of fun x hm => (hx x hm).nt
theorem Shp.key : ∀ {n : Nat} {d : D}, Shp n d → ∃ k, toKey d = some k ∧ k.depth ≤ n + 1
  | 0, _, ⟨ns, h, _⟩ => by
    subst h
    obtain ⟨ks, h1, h2⟩ := toKeys_of (m := 0) (xs := ns.map D.int) (by simp [toKey, NestedKey.depth])
    exact ⟨.tup ks, by simp [dI, toKey, h1], by simp [NestedKey.depth]; omega⟩
  | n + 1, _, ⟨xs, h, _, hx⟩ => by
    subst h
    obtain ⟨ks, h1, h2⟩ := toKeys_of (m := n + 1) (xs := xs) fun x hm => (hx x hm).key
    exact ⟨.tup ks, by simp [toKey, h1], by simp [NestedKey.depth]; omega⟩
theorem Shp.dep : ∀ {n : Nat} {d : D}, Shp n d → (encD d).depth ≤ n + 1
  | 0, _, ⟨ns, h, _⟩ => by
    subst h
    have := encDs_depth (m := 0) (xs := ns.map D.int) (by simp [encD, PyData.depth])
    simp [dI, encD, PyData.depth]; omega
  | n + 1, _, ⟨xs, h, _, hx⟩ => by
    subst h
    have := encDs_depth (m := n + 1) (xs := xs) fun x hm => (hx x hm).dep
    simp [encD, PyData.depth]; omega
theorem Shp.lay : ∀ {n : Nat} {d : D}, Shp n d → (encD d).canLay0 = true
  | 0, _, ⟨ns, h, _⟩ => by
    subst h
    simp only [dI, encD, PyData.canLay0]
    exact encDs_lay (by simp [encD, PyData.canLay0])
  | n + 1, _, ⟨xs, h, _, hx⟩ => by
    subst h
    simp only [encD, PyData.canLay0]
    exact encDs_lay fun x hm => (hx x hm).lay
theorem Shp.alk : ∀ {n : Nat} {d e : D}, Shp n d → Shp n e → alike (encD d) (encD e) = true
  | 0, _, _, ⟨ns, h, _⟩, ⟨ms, g, _⟩ => by
    subst h g
    simp only [dI, encD, alike]
    refine alikeAll_of fun x hx y hy => ?_
    simp at hx hy
    obtain ⟨i, _, rfl⟩ := hx
    obtain ⟨j, _, rfl⟩ := hy
    simp [encD, alike]
  | n + 1, _, _, ⟨xs, h, _, hx⟩, ⟨ys, g, _, hy⟩ => by
    subst h g
    simp only [encD, alike]
    exact alikeAll_of fun x hm y hm2 => (hx x hm).alk (hy y hm2)
theorem Shp.py {S : Sto} : ∀ {n : Nat} {d : D}, Shp n d → ∀ f, 33 + 32 * n ≤ f → toPy S f d = some (encD d)
  | 0, _, ⟨ns, h, hl⟩, f, hf => by
    subst h
    obtain ⟨f, rfl⟩ : ∃ f', f = f' + 1 := ⟨f - 1, by omega⟩
    have := toPys_of (S := S) (N := 1) (xs := ns.map D.int) (by
      intro x hx f hf
      obtain ⟨f, rfl⟩ : ∃ f', f = f' + 1 := ⟨f - 1, by omega⟩
      simp at hx
      obtain ⟨i, _, rfl⟩ := hx
      simp [toPy, encD]) f (by simp; omega)
    simp [dI, toPy, this, encD]
  | n + 1, _, ⟨xs, h, hl, hx⟩, f, hf => by
    subst h
    obtain ⟨f, rfl⟩ : ∃ f', f = f' + 1 := ⟨f - 1, by omega⟩
    have := toPys_of (S := S) (N := 33 + 32 * n) (xs := xs) (fun x hm f hf => (hx x hm).py f hf) f (by omega)
    simp [toPy, this, encD]
mutual
theorem eqv_nt : ∀ (x y : D), ntD x = true → ntD y = true → (PyData.eqv (encD x) (encD y) = true ↔ x = y)
  | .int i, y, _, hy => by
    cases y with
    | int j => simp [encD, PyData.eqv]
    | tup ys => simp [encD, PyData.eqv]
    | _ => cases hy
  | .tup xs, y, hx, hy => by
    cases y with
    | int j => simp [encD, PyData.eqv]
    | tup ys =>
      simp only [encD, PyData.eqv, eqv_nts xs ys (by simpa [ntD] using hx) (by simpa [ntD] using hy), D.tup.injEq]
    | _ => cases hy
  | .non, _, h, _ => by cases h
  | .bl _, _, h, _ => by cases h
  | .str _, _, h, _ => by cases h
  | .rng _ _, _, h, _ => by cases h
  | .obj _, _, h, _ => by cases h
  | .rol _, _, h, _ => by cases h
theorem eqv_nts : ∀ (xs ys : List D), ntDs xs = true → ntDs ys = true → (PyData.eqvAll (encDs xs) (encDs ys) = true ↔ xs = ys)
  | [], ys, _, _ => by
    cases ys with
    | nil => simp [encDs, PyData.eqvAll]
    | cons y ys => simp [encDs, PyData.eqvAll]
  | x :: xs, ys, hx, hy => by
    cases ys with
    | nil => simp [encDs, PyData.eqvAll]
    | cons y ys =>
      simp only [ntDs, Bool.and_eq_true] at hx hy
      simp only [encDs, PyData.eqvAll, Bool.and_eq_true, eqv_nt x y hx.1 hy.1, eqv_nts xs ys hx.2 hy.2, List.cons.injEq]
end
theorem eqD_shp {S : Sto} {n : Nat} {a b : D} (hn : n ≤ 3) (ha : Shp n a) (hb : Shp n b) : ∃ c, eqD S a b = some c ∧ (c = true ↔ a = b) := by
  refine ⟨PyData.eqv (encD a) (encD b), ?_, eqv_nt a b ha.nt hb.nt⟩
  have h1 := ha.dep
  have h2 := hb.dep
  unfold eqD
  rw [ha.py fuel (by simp [fuel]; omega), hb.py fuel (by simp [fuel]; omega)]
  have s1 : SeqAt.shaped (encD a) = true := by simp [SeqAt.shaped, ha.lay]; omega
  have s2 : SeqAt.shaped (encD b) = true := by simp [SeqAt.shaped, hb.lay]; omega
  simp only [s1, s2, and_self, if_true]
theorem mem_sortD {xs : List D} (hn : ∀ x ∈ xs, ntD x = true) {d : D} : d ∈ sortD xs ↔ d ∈ xs := by
  unfold sortD
  rw [(List.mergeSort_perm _ _).mem_iff]
  exact ⟨dedD_sub, dedD_all hn⟩
theorem sortD_ext {n : Nat} {xs ys : List D} (hx : ∀ x ∈ xs, Shp n x) (hy : ∀ y ∈ ys, Shp n y) (h : ∀ d, d ∈ xs ↔ d ∈ ys) : sortD xs = sortD ys := by
  have mx : ∀ z, z ∈ sortD xs → Shp n z := fun z hz => hx z ((mem_sortD fun x hm => (hx x hm).nt).mp hz)
  unfold sortD at *
  refine sorted_one (sort_pairwise leD_total _) (sort_pairwise leD_total _) ((List.mergeSort_perm _ _).trans ((nodup_perm (dedD_nodup xs) (dedD_nodup ys) fun d => ?_).trans (List.mergeSort_perm _ _).symm)) fun x h1 y h2 a b => ?_
  · constructor
    · intro hd
      exact dedD_all (fun y hm => (hy y hm).nt) ((h d).mp (dedD_sub hd))
    · intro hd
      exact dedD_all (fun y hm => (hx y hm).nt) ((h d).mpr (dedD_sub hd))
  · exact leD_anti (mx x h1).nt (mx y h2).nt ((mx x h1).alk (mx y h2)) a b
theorem dedD_le : ∀ xs : List D, (dedD xs).length ≤ xs.length
  | [] => Nat.le_refl _
  | x :: xs => by
    have := dedD_le xs
    unfold dedD
    split <;> simp <;> omega
theorem sortD_le (xs : List D) : (sortD xs).length ≤ xs.length := by
  unfold sortD
  rw [(List.mergeSort_perm _ _).length_eq]
  exact dedD_le xs
theorem okSet_shp {n : Nat} {xs : List D} (hn : n ≤ 3) (hl : xs.length ≤ 30) (h : ∀ x ∈ xs, Shp n x) (hf : (dedD xs).length < 2 ∨ ∀ x ∈ xs, fullTup x = true) : okSet xs = true := by
  simp only [okSet, Bool.and_eq_true, Bool.or_eq_true, List.all_eq_true, decide_eq_true_eq]
  refine ⟨⟨⟨by omega, fun d hd => ?_⟩, hf⟩, fun x hx y hy => (h x hx).alk (h y hy)⟩
  have s := h d hd
  obtain ⟨ys, e⟩ := s.tup
  obtain ⟨k, h1, h2⟩ := s.key
  have h3 := s.dep
  refine ⟨⟨⟨by rw [e]; rfl, s.nt⟩, ?_⟩, by omega⟩
  unfold keyDepth
  rw [h1]
  show k.depth ≤ 8
  omega
theorem dedD_one {a : D} : ∀ {xs : List D}, (∀ x ∈ xs, x = a) → (dedD xs).length < 2
  | [], _ => by simp [dedD]
  | x :: xs, h => by
    have ih := dedD_one (xs := xs) fun y hy => h y (by simp [hy])
    unfold dedD
    split
    · exact ih
    · rename_i q
      cases xs with
      | nil => simp [dedD]
      | cons y ys =>
        exfalso
        apply q
        have e1 := h x (by simp)
        have e2 := h y (by simp)
        simp [sameK, e1, e2]
theorem srtT_shp {T : List Int} {P : List (List Int)} (hP : P.length ≤ 16) : ∀ {r : Nat} {pts : List Nat}, pts.length + r ≤ 5 → Shp r (srtT T P r pts)
  | 0, pts, h => ⟨_, rfl, by have := srt0_le (T := T) (P := P) (pts := pts) (n := pts.length) (by omega); omega⟩
  | r + 1, pts, h => by
    have hs : ∀ x ∈ (List.range P.length).map (fun p => srtT T P r (pts ++ [p])), Shp r x := by
      intro x hx
      obtain ⟨p, _, rfl⟩ := List.mem_map.mp hx
      exact srtT_shp hP (by simp; omega)
    refine ⟨_, rfl, ?_, fun x hx => hs x ((mem_sortD fun y hy => (hs y hy).nt).mp hx)⟩
    have := sortD_le ((List.range P.length).map fun p => srtT T P r (pts ++ [p]))
    simp at this; omega
theorem sortD_ne {n : Nat} {xs : List D} (hx : ∀ x ∈ xs, Shp n x) (h : xs ≠ []) : sortD xs ≠ [] := by
  intro e
  obtain ⟨y, hy⟩ := List.exists_mem_of_ne_nil xs h
  have := (mem_sortD (fun x hm => (hx x hm).nt)).mpr hy
  rw [e] at this; cases this
theorem full_ne {xs : List D} (h : xs ≠ []) : fullTup (.tup xs) = true := by
  cases xs with
  | nil => exact absurd rfl h
  | cons _ _ => rfl
section
variable {G : Gl} {k : Nat} {S : Sto} {d x : D} {Q : D → Sto → Prop} {t : Int} {T : List Int} {P : List (List Int)}
theorem srt0_one {T P} {p : Nat} : srt0 T P [p] 1 = [] := by simp [srt0, row0]
theorem srt0_full {T P} {pts : List Nat} {p q : Nat} : srt0 T P (pts ++ [q] ++ [p]) (pts ++ [q] ++ [p]).length ≠ [] := by
  simp [srt0, row0]
theorem okSet_srt (hP : P.length ≤ 16) {r : Nat} (hr : r ≤ 3) {pts : List Nat} (h : pts.length + r + 1 ≤ 5) : okSet ((List.range P.length).map fun p => srtT T P r (pts ++ [p])) = true := by
  have hs : ∀ x ∈ (List.range P.length).map (fun p => srtT T P r (pts ++ [p])), Shp r x := by
    intro x hx
    obtain ⟨p, _, rfl⟩ := List.mem_map.mp hx
    exact srtT_shp hP (by simp; omega)
  refine okSet_shp hr (by simp; omega) hs ?_
  cases r with
  | zero =>
    rcases List.eq_nil_or_concat pts with rfl | ⟨pts, q, rfl⟩
    · refine .inl (dedD_one (a := dI []) fun x hx => ?_)
      obtain ⟨p, _, rfl⟩ := List.mem_map.mp hx
      simp [srtT, srt0_one]
    · refine .inr fun x hx => ?_
      obtain ⟨p, _, rfl⟩ := List.mem_map.mp hx
      refine full_ne ?_
      have := srt0_full (T := T) (P := P) (pts := pts) (p := p) (q := q)
      simpa using this
  | succ r =>
    refine .inr fun x hx => ?_
    obtain ⟨p, hp, rfl⟩ := List.mem_map.mp hx
    have hp : p < P.length := by simpa using hp
    refine full_ne (sortD_ne (n := r) (fun x hx => ?_) ?_)
    · obtain ⟨p, _, rfl⟩ := List.mem_map.mp hx
      exact srtT_shp hP (by simp; omega)
    · intro e
      have := congrArg List.length e
      rw [List.length_map, List.length_range] at this
      simp at this
      simp [this] at hp
theorem wp_sortSet {la : FA} {e : Env'} {QL : List D → Sto → Prop} : wp (fSortSet la e S) QL ↔ wp (la e S) fun xs S1 => okSet xs = true ∧ QL (sortD xs) S1 := by
  unfold fSortSet
  rw [wp_bnd]
  constructor <;> intro h <;> refine wp_imp h fun d S1 q => ?_
  · split at q
    · exact ⟨by assumption, q⟩
    · cases q
  · rw [if_pos q.1]; exact q.2
@[simp] theorem wp_cTupN {xs : List D} : wp (cTupN xs S) Q ↔ Q (.tup xs) S := Iff.rfl
theorem f_sort (hT : Turn t T) (hP : Pic t P) : ∀ (r k : Nat) (S : Sto) (pts : List Nat) (Q : D → Sto → Prop), r ≤ 3 → (∀ p ∈ pts, p < P.length) → pts.length + r ≤ 5 → (∀ U, S <+: U → Q (srtT T P r pts) U) → wp (cf G (k + r + 2) 22 [dI T, dP P, dQ pts, .int r] S) Q := by
  intro r
  induction r with
  | zero => intro k S pts Q _ hp hl q; exact f_sort0 hT hP hp (by omega) q
  | succ r ih =>
    intro k S pts Q hr hp hl q
    have hm := hP.many
    refine wp_cf rfl [some (dI T), some (dP P), some (dQ pts), some (.int ((r : Int) + 1)), none, none, none, none] rfl rfl ?_
    have hr0 : ¬ ((r : Int) + 1 = 0) := by omega
    simp [d_l_law_sort, hr0, dP, wp_sortSet]
    refine ⟨by omega, ?_⟩
    refine wp_comp ((List.range P.length).map fun (i : Nat) => D.int i) (fun i acc S' => S <+: S' ∧ acc = (List.range i).map fun p => srtT T P r (pts ++ [p])) (by simp [lim]; omega) ⟨List.prefix_refl _, rfl⟩ (fun i acc S' ⟨h1, h2⟩ hi ha => ?_) (fun acc S' ⟨h1, h2⟩ => ?_)
    · subst h2
      simp at hi
      refine ⟨by simp [it_rng, hi], _, rfl, ?_⟩
      simp [hi, bTrue, wipeE]
      refine ⟨by simp [lim], ?_⟩
      refine opAdd_dQ (by simp [lim]; omega) ?_
      refine ih k S' (pts ++ [i]) _ (by omega) ?_ (by simp; omega) fun U hU => ?_
      · intro p hp'
        rcases List.mem_append.mp hp' with h | h
        · exact hp p h
        · simp at h; omega
      · refine ⟨h1.trans hU, ?_⟩
        simp [List.range_succ]
    · subst h2
      refine ⟨by simp [it_rng], ?_⟩
      simp
      refine ⟨okSet_srt hm (by omega) (by omega), ?_⟩
      exact q _ h1
end
end Mini
end

section
set_option Elab.async false
set_option linter.all false
set_option maxRecDepth 100000
set_option maxHeartbeats 4000000
namespace Mini
open PySem PySem.Spec PyProof.Rows L2
/-! k84: _law_alike, _law_as_told, in plain Lean. -/
theorem Upto.all' {α : Type} {F : α → Bool} {l : List α} {n : Nat} (h : Upto F l n) (e : n = l.length) : l.all F = true := by subst e; exact h.all
open Classical in
noncomputable def alk (T : List Int) (A B : List (List Int)) (r : Nat) (ps : List (Nat × Nat)) : Bool := decide (srtT T A r (ps.map (·.1)) = srtT T B r (ps.map (·.2)))
theorem alk_iff {T A B r ps} : alk T A B r ps = true ↔ srtT T A r (ps.map (·.1)) = srtT T B r (ps.map (·.2)) := by simp [alk]
section
variable {G : Gl} {k : Nat} {S : Sto} {d x : D} {Q : D → Sto → Prop} {t : Int} {T : List Int} {P A B : List (List Int)} {o : Nat}
theorem InP.fst {ps : List (Nat × Nat)} (h : InP A B ps) : ∀ p ∈ ps.map (·.1), p < A.length := by
  intro p hp
  obtain ⟨a, ha, rfl⟩ := List.mem_map.mp hp
  exact (h a ha).1
theorem InP.snd {ps : List (Nat × Nat)} (h : InP A B ps) : ∀ p ∈ ps.map (·.2), p < B.length := by
  intro p hp
  obtain ⟨a, ha, rfl⟩ := List.mem_map.mp hp
  exact (h a ha).2
theorem f_lalike (V : Envi G t T A B) {r : Nat} {ps : List (Nat × Nat)} (hr : r ≤ 3) (hp : InP A B ps) (hl : ps.length + r ≤ 5) (q : ∀ U, S <+: U → Q (.bl (alk T A B r ps)) U) : wp (cf G (k + r + 3) 23 [dI T, dP A, dP B, dQ (ps.map (·.1)), dQ (ps.map (·.2)), .int r] S) Q := by
  refine wp_cf rfl [some (dI T), some (dP A), some (dP B), some (dQ (ps.map (·.1))), some (dQ (ps.map (·.2))), some (.int r)] rfl rfl ?_
  simp [d_l_law_alike]
  refine f_sort V.turn V.a r k S _ _ hr hp.fst (by simpa using hl) fun U1 h1 => ?_
  refine f_sort V.turn V.b r k U1 _ _ hr hp.snd (by simpa using hl) fun U2 h2 => ?_
  obtain ⟨c, e, hc⟩ := eqD_shp (S := U2) hr (srtT_shp (T := T) (pts := ps.map (·.1)) V.la (by simpa using hl)) (srtT_shp (T := T) (pts := ps.map (·.2)) V.lb (by simpa using hl))
  have : c = alk T A B r ps := by rw [Bool.eq_iff_iff, alk_iff]; exact hc
  rw [e, this]
  have q2 := q _ (h1.trans h2)
  cases hq : alk T A B r ps <;> rw [hq] at q2 <;> simp <;> exact q2
theorem f_las_told (V : Envi G t T A B) {ps : List (Nat × Nat)} (hp : InP A B ps) (hl : ps.length ≤ 5) (q : ∀ U, S <+: U → Q (.bl (alk T A B 0 ps)) U) : wp (cf G (k + 4) 25 [dI T, dP A, dP B, dQ (ps.map (·.1)), dQ (ps.map (·.2))] S) Q := by
  refine wp_cf rfl [some (dI T), some (dP A), some (dP B), some (dQ (ps.map (·.1))), some (dQ (ps.map (·.2)))] rfl rfl ?_
  simp [d_l_law_as_told]
  exact f_lalike (r := 0) V (by omega) hp (by simpa using hl) q
/-! ### the plain law of it -/
def rowL (T : List Int) (P : List (List Int)) (pts : List Nat) (x : Nat) : List Int := pts.map fun y => if y = x then -1 else tieV T P y x
theorem cell0_app {pts : List Nat} {x j i : Nat} (hi : i < pts.length) (hj : j < pts.length) : cell0 T P (pts ++ [x]) j i = cell0 T P pts j i := by
  have e1 : (pts ++ [x]).getD i 0 = pts.getD i 0 := by simp [List.getD, List.getElem?_append_left hi]
  have e2 : (pts ++ [x]).getD j 0 = pts.getD j 0 := by simp [List.getD, List.getElem?_append_left hj]
  unfold cell0
  rw [e1, e2]
theorem srt0_app {pts : List Nat} {x : Nat} : ∀ j, j ≤ pts.length → srt0 T P (pts ++ [x]) j = srt0 T P pts j
  | 0, _ => rfl
  | j + 1, h => by
    rw [srt0, srt0, srt0_app j (by omega)]
    congr 1
    unfold row0
    refine List.map_congr_left fun i hi => ?_
    have hi : i < j := by simpa using hi
    exact cell0_app (by omega) (by omega)
theorem row0_last {pts : List Nat} {x : Nat} : row0 T P (pts ++ [x]) pts.length pts.length = rowL T P pts x := by
  refine List.ext_getElem (by simp [row0, rowL]) fun i h1 h2 => ?_
  have hi : i < pts.length := by simpa [rowL] using h2
  simp [row0, rowL, cell0, List.getD, List.getElem?_append_left hi, hi]
theorem srtT_snoc {pts : List Nat} {x : Nat} : srtT T P 0 (pts ++ [x]) = dI (srt0 T P pts pts.length ++ rowL T P pts x) := by
  simp only [srtT, List.length_append, List.length_singleton, srt0]
  rw [srt0_app _ (Nat.le_refl _), row0_last]
theorem dI_inj {a b : List Int} : dI a = dI b ↔ a = b := by
  unfold dI
  rw [D.tup.injEq]
  exact (List.map_inj_right fun x y h => by cases h; rfl)
theorem gw_iff (V : Envi G t T A B) {a b : Nat × Nat} (ha : a.1 < A.length ∧ a.2 < B.length) (hb : b.1 < A.length ∧ b.2 < B.length) : ((if a.1 = b.1 then -1 else tieV T A a.1 b.1) = (if a.2 = b.2 then -1 else tieV T B a.2 b.2)) ↔ gw T A B a b = true := by
  unfold gw
  by_cases h1 : a.1 = b.1
  · by_cases h2 : a.2 = b.2
    · simp [h1, h2]
    · have := tie_core V.turn V.b ha.2 hb.2 h2
      simp [h1, h2]; omega
  · by_cases h2 : a.2 = b.2
    · have := tie_core V.turn V.a ha.1 hb.1 h1
      simp [h1, h2]; omega
    · simp [h1, h2]
theorem told_snoc (V : Envi G t T A B) {ps : List (Nat × Nat)} {p : Nat × Nat} (h : InP A B ps) (hp : p.1 < A.length ∧ p.2 < B.length) : alk T A B 0 (ps ++ [p]) = (alk T A B 0 ps && go T A B ps p) := by
  rw [Bool.eq_iff_iff, Bool.and_eq_true, alk_iff, alk_iff]
  simp only [List.map_append, List.map_cons, List.map_nil, srtT_snoc]
  rw [dI_inj]
  have e0 : (srtT T A 0 (ps.map (·.1)) = srtT T B 0 (ps.map (·.2))) ↔ srt0 T A (ps.map (·.1)) (ps.map (·.1)).length = srt0 T B (ps.map (·.2)) (ps.map (·.2)).length := by
    simp only [srtT]; exact dI_inj
  rw [e0]
  have er : (rowL T A (ps.map (·.1)) p.1 = rowL T B (ps.map (·.2)) p.2) ↔ go T A B ps p = true := by
    unfold rowL go
    rw [List.map_map, List.map_map, List.map_inj_left, List.all_eq_true]
    exact forall_congr' fun a => forall_congr' fun ha => gw_iff V (h a ha) hp
  rw [← er]
  constructor
  · intro e
    exact List.append_inj' e (by simp [rowL])
  · rintro ⟨e1, e2⟩
    rw [e1, e2]
theorem alk_nil : alk T A B 0 [] = true := by
  rw [alk_iff]; simp [srtT, srt0]
theorem alk_succ (V : Envi G t T A B) {r : Nat} {ps : List (Nat × Nat)} (hl : ps.length + r + 1 ≤ 5) : alk T A B (r + 1) ps = true ↔ (∀ p < A.length, ∃ q < B.length, alk T A B r (ps ++ [(p, q)]) = true) ∧ (∀ q < B.length, ∃ p < A.length, alk T A B r (ps ++ [(p, q)]) = true) := by
  rw [alk_iff]
  simp only [srtT, D.tup.injEq, alk_iff, List.map_append, List.map_cons, List.map_nil]
  generalize hX : (List.range A.length).map (fun p => srtT T A r (ps.map (·.1) ++ [p])) = X
  generalize hY : (List.range B.length).map (fun p => srtT T B r (ps.map (·.2) ++ [p])) = Y
  have sX : ∀ x ∈ X, Shp r x := by
    intro x hx
    rw [← hX] at hx
    obtain ⟨p, _, rfl⟩ := List.mem_map.mp hx
    exact srtT_shp V.la (by simp; omega)
  have sY : ∀ x ∈ Y, Shp r x := by
    intro x hx
    rw [← hY] at hx
    obtain ⟨p, _, rfl⟩ := List.mem_map.mp hx
    exact srtT_shp V.lb (by simp; omega)
  have mX : ∀ d, d ∈ X ↔ ∃ p < A.length, srtT T A r (ps.map (·.1) ++ [p]) = d := by intro d; rw [← hX]; simp
  have mY : ∀ d, d ∈ Y ↔ ∃ p < B.length, srtT T B r (ps.map (·.2) ++ [p]) = d := by intro d; rw [← hY]; simp
  constructor
  · intro e
    have m : ∀ d, d ∈ X ↔ d ∈ Y := fun d => by
      rw [← mem_sortD (fun x hx => (sX x hx).nt), e, mem_sortD (fun x hx => (sY x hx).nt)]
    constructor
    · intro p hp
      obtain ⟨q, hq, e⟩ := (mY _).mp ((m _).mp ((mX _).mpr ⟨p, hp, rfl⟩))
      exact ⟨q, hq, e.symm⟩
    · intro q hq
      exact (mX _).mp ((m _).mpr ((mY _).mpr ⟨q, hq, rfl⟩))
  · rintro ⟨h1, h2⟩
    refine sortD_ext sX sY fun d => ?_
    rw [mX, mY]
    constructor
    · rintro ⟨p, hp, rfl⟩
      obtain ⟨q, hq, e⟩ := h1 p hp
      exact ⟨q, hq, e.symm⟩
    · rintro ⟨q, hq, rfl⟩
      exact h2 q hq
theorem alk_told (V : Envi G t T A B) : ∀ {r : Nat} {ps : List (Nat × Nat)}, InP A B ps → ps.length + r ≤ 5 → alk T A B r ps = true → alk T A B 0 ps = true
  | 0, _, _, _, h => h
  | r + 1, ps, hp, hl, h => by
    by_cases ha : A.length = 0
    · cases ps with
      | nil => exact alk_nil
      | cons a ps => have := (hp a (by simp)).1; omega
    · obtain ⟨q, hq, h1⟩ := ((alk_succ V (by omega)).mp h).1 0 (by omega)
      have hin : (((0, q) : Nat × Nat)).1 < A.length ∧ (((0, q) : Nat × Nat)).2 < B.length := ⟨by show 0 < _; omega, hq⟩
      have h2 := alk_told V (r := r) (hp.snoc hin) (by simp; omega) h1
      rw [told_snoc V hp hin, Bool.and_eq_true] at h2
      exact h2.1
/-! ### _law_is_apart -/
noncomputable def lapV (T : List Int) (A B : List (List Int)) (r : Nat) (ps : List (Nat × Nat)) (d : D) : Bool := if alk T A B 0 ps = true then apT T A B r ps d else isEmp d
theorem lapV_snoc (V : Envi G t T A B) {r : Nat} {ps : List (Nat × Nat)} {p : Nat × Nat} (h : InP A B ps) (hp : p.1 < A.length ∧ p.2 < B.length) (ht : alk T A B 0 ps = true) : lapV T A B r (ps ++ [p]) d = (if go T A B ps p then apT T A B r (ps ++ [p]) d else isEmp d) := by
  unfold lapV
  rw [told_snoc V h hp, ht, Bool.true_and]
theorem f_lis_apart (V : Envi G t T A B) : ∀ (r k n : Nat) (S : Sto) (ps : List (Nat × Nat)) (d : D) (Q : D → Sto → Prop), InP A B ps → ps.length + r ≤ 4 → Pap o S n d → (∀ U, S <+: U → Q (.bl (lapV T A B r ps d)) U) →
    wp (cf G (k + r + 5) 38 [dI T, dP A, dP B, dQ (ps.map (·.1)), dQ (ps.map (·.2)), .int r, d] S) Q := by
  intro r
  induction r with
  | zero =>
    intro k n S ps d Q hp hl hd q
    refine wp_cf rfl [some (dI T), some (dP A), some (dP B), some (dQ (ps.map (·.1))), some (dQ (ps.map (·.2))), some (.int (0 : Nat)), some d, none, none] rfl rfl ?_
    obtain ⟨t1, a1, b1⟩ := isi_tuple hd.typ
    cases d with
    | tup xs =>
      simp [d_l_law_is_apart]
      refine f_las_told V hp (by omega) fun U hU => ?_
      have q0 := q U hU
      cases ht : alk T A B 0 ps with
      | false =>
        simp [lapV, ht] at q0
        simp
        have : isEmp (.tup xs) = decide (xs = []) := by cases xs <;> rfl
        rw [this] at q0
        cases xs <;> simp_all
      | true =>
        simp [lapV, ht, apT] at q0
        simp; exact q0
    | _ =>
      have q0 := q S (List.prefix_refl _)
      simp [d_l_law_is_apart, a1, b1, qTup]
      simpa [lapV, apT, isEmp] using q0
  | succ r ih =>
    intro k n S ps d Q hp hl hd q
    refine wp_cf rfl [some (dI T), some (dP A), some (dP B), some (dQ (ps.map (·.1))), some (dQ (ps.map (·.2))), some (.int (r + 1 : Nat)), some d, none, none] rfl rfl ?_
    obtain ⟨t1, a1, b1⟩ := isi_tuple hd.typ
    cases d with
    | tup xs =>
      simp [d_l_law_is_apart]
      refine f_las_told V hp (by omega) fun U hU => ?_
      cases ht : alk T A B 0 ps with
      | false =>
        have q0 := q U hU
        simp [lapV, ht] at q0
        simp
        have : isEmp (.tup xs) = decide (xs = []) := by cases xs <;> rfl
        rw [this] at q0
        cases xs <;> simp_all
      | true =>
        have hr0 : ¬ ((r : Int) + 1 = 0) := by omega
        have eq0 : ∀ d, lapV T A B (r + 1) ps d = apT T A B (r + 1) ps d := fun d => by simp [lapV, ht]
        by_cases h3 : xs.length = 3
        · match xs, h3, hd with
          | [a, b, c], _, hd =>
            obtain ⟨n, rfl⟩ : ∃ n', n = n' + 1 := by
              cases n with
              | zero => exact hd.elim
              | succ n => exact ⟨n, rfl⟩
            have ha := (hd.2 a (by simp)).kp (Kp.of (o := o) hU)
            have hb := (hd.2 b (by simp)).kp (Kp.of (o := o) hU)
            have hc := (hd.2 c (by simp)).kp (Kp.of (o := o) hU)
            have q1 : ∀ U', U <+: U' → Q (.bl (apT T A B (r + 1) ps (.tup [a, b, c]))) U' := fun U' h => by rw [← eq0]; exact q U' (hU.trans h)
            clear q eq0
            have q0 := q1 U (List.prefix_refl _)
            simp [hr0]
            refine ixW (i := 2) (xs := [a, b, c]) (by rfl) (by simp) ?_
            obtain ⟨t2, a2, b2⟩ := isi_tuple hc.typ
            refine ⟨t2, a2, ?_⟩
            cases hq : qTup c with
            | false =>
              have e : apT T A B (r + 1) ps (.tup [a, b, c]) = false := by simp [apT, hq]
              rw [e] at q0
              exact .inl ⟨by rw [b2, hq], q0⟩
            | true =>
              obtain ⟨trees, rfl⟩ : ∃ trees, c = .tup trees := by cases c <;> simp [qTup] at hq; exact ⟨_, rfl⟩
              refine .inr ⟨by rw [b2, hq], ?_⟩
              refine ixW (i := 0) (xs := [a, b, .tup trees]) (by rfl) (by simp) ?_
              simp only [List.getElem_cons_zero]
              refine f_number ha.typ ?_
              cases hs : isBel 2 a with
              | false =>
                simp [apT, hs] at q0
                simp; exact q0
              | true =>
                obtain ⟨s, rfl⟩ : ∃ s, a = .int s := by cases a <;> simp [isBel] at hs; exact ⟨_, rfl⟩
                have hs' : 0 ≤ s ∧ s < 2 := by simpa [isBel] using hs
                have hs01 : s = 0 ∨ s = 1 := by omega
                simp
                refine ixW (i := 0) (xs := [.int s, b, .tup trees]) (by rfl) (by simp) ?_
                simp
                by_cases s1 : s = 1
                · subst s1
                  refine .inl ⟨by decide, ?_⟩
                  refine ixW (i := 1) (xs := [.int 1, b, .tup trees]) (by rfl) (by simp) ?_
                  simp [dP]
                  refine f_number hb.typ ?_
                  cases hx : isBel B.length b with
                  | false =>
                    simp [apT, numOf, sideLen, hx] at q0
                    simp; exact q0
                  | true =>
                    obtain ⟨x, rfl⟩ : ∃ x, b = .int x := by cases b <;> simp [isBel] at hx; exact ⟨_, rfl⟩
                    have hx' : 0 ≤ x ∧ x < B.length := by simpa [isBel] using hx
                    obtain ⟨x, rfl⟩ : ∃ y : Nat, x = y := ⟨x.toNat, by omega⟩
                    have ez : apT T A B (r + 1) ps (.tup [.int 1, .int x, .tup trees]) = (decide (trees.length = A.length) && (((List.range A.length).map fun i => (i, x)).zip trees).all fun p => lapV T A B r (ps ++ [p.1]) p.2) := by
                      have el : ((List.range A.length).map fun i => (i, x)).length = A.length := by simp
                      simp only [apT, hs, numOf, hx, qTup, tupOf, Bool.true_and, sideLen, repl, Bool.and_true]
                      simp only [show ¬ ((1 : Int) = 0) by decide, if_false, hx, Bool.true_and, Int.toNat_natCast, el]
                      congr 1
                      refine all_congr_mem fun p hp' => ?_
                      have hm := (List.of_mem_zip hp').1
                      simp at hm
                      obtain ⟨i, hi, e⟩ := hm
                      rw [lapV_snoc V hp (by rw [← e]; exact ⟨hi, by show x < _; omega⟩) ht]
                    rw [ez] at q0 q1
                    clear ez
                    simp
                    refine ixW (i := 2) (xs := [.int 1, .int x, .tup trees]) (by rfl) (by simp) ?_
                    simp
                    by_cases hlen : trees.length = A.length
                    · refine .inr ⟨by omega, ?_⟩
                      simp only [hlen, decide_true, Bool.true_and] at q1
                      have hA := V.la
                      have hB := V.lb
                      refine ⟨by omega, ?_⟩
                      refine ws_loop ((List.range A.length).map fun (i : Nat) => D.int i) (fun i e S' => ∃ y z, e = [some (dI T), some (.tup (A.map dI)), some (.tup (B.map dI)), some (dQ (ps.map (·.1))), some (dQ (ps.map (·.2))), some (.int ((r : Int) + 1)), some (.tup [.int 1, .int x, .tup trees]), y, z] ∧ U <+: S' ∧ Upto (fun p => lapV T A B r (ps ++ [p.1]) p.2) (((List.range A.length).map fun i => (i, x)).zip trees) i) (by simp [lim]; omega) ⟨none, none, rfl, List.prefix_refl _, Upto.zero⟩ (fun i e S' ⟨y, z, he, hS, hu⟩ hi => ?_) (fun e S' ⟨y, z, he, hS, hu⟩ => ?_)
                      · subst he
                        simp at hi
                        refine ⟨by simp [it_rng, hi], _, rfl, ?_⟩
                        simp [hi]
                        refine ⟨by simp [lim], ?_⟩
                        refine opAdd_dQ (by simp [lim]; omega) ?_
                        refine ixW (i := 1) (xs := [.int 1, .int x, .tup trees]) (by rfl) (by simp) ?_
                        refine ⟨by simp [lim], ?_⟩
                        refine opAdd_dQ (by simp [lim]; omega) ?_
                        refine ixW (i := 2) (xs := [.int 1, .int x, .tup trees]) (by rfl) (by simp) ?_
                        simp only [List.getElem_cons_succ, List.getElem_cons_zero]
                        have hit : i < trees.length := by omega
                        refine ixW (i := i) (xs := trees) (by rfl) hit ?_
                        have e1 : ps.map (·.1) ++ [i] = (ps ++ [(i, x)]).map (·.1) := by simp
                        have e2 : ps.map (·.2) ++ [x] = (ps ++ [(i, x)]).map (·.2) := by simp
                        rw [e1, e2]
                        obtain ⟨m, rfl⟩ : ∃ m, n = m + 1 := by
                          cases n with
                          | zero => exact hc.elim
                          | succ m => exact ⟨m, rfl⟩
                        have hti : Pap o S' m trees[i] := (hc.2 _ (List.getElem_mem hit)).kp (Kp.of hS)
                        have hiz : i < (((List.range A.length).map fun i => (i, x)).zip trees).length := by simp [hlen]; omega
                        have hno := all_no (F := fun p => lapV T A B r (ps ++ [p.1]) p.2) hiz
                        have hyes := hu.succ hiz
                        simp only [List.getElem_zip, List.getElem_map, List.getElem_range] at hno hyes
                        refine ih k m S' (ps ++ [(i, x)]) trees[i] _ (hp.snoc ⟨hi, by show x < _; omega⟩) (by simp; omega) hti fun U2 hU2 => ?_
                        cases hap : lapV T A B r (ps ++ [(i, x)]) trees[i] with
                        | true => exact .inr ⟨rfl, hS.trans hU2, hyes hap⟩
                        | false =>
                          rw [hno hap] at q1
                          exact .inl ⟨rfl, q1 _ (hS.trans hU2)⟩
                      · subst he
                        simp only [List.length_map, List.length_range] at hu
                        rw [hu.all' (by simp [hlen])] at q1
                        refine ⟨by simp [it_rng], ?_⟩
                        exact q1 _ hS
                    · refine .inl ⟨by omega, ?_⟩
                      simp only [hlen, decide_false, Bool.false_and] at q0
                      exact q0
                · obtain rfl : s = 0 := by omega
                  refine .inr ⟨rfl, ?_⟩
                  refine ixW (i := 1) (xs := [.int 0, b, .tup trees]) (by rfl) (by simp) ?_
                  simp [dP]
                  refine f_number hb.typ ?_
                  cases hx : isBel A.length b with
                  | false =>
                    simp [apT, numOf, sideLen, hx] at q0
                    simp; exact q0
                  | true =>
                    obtain ⟨x, rfl⟩ : ∃ x, b = .int x := by cases b <;> simp [isBel] at hx; exact ⟨_, rfl⟩
                    have hx' : 0 ≤ x ∧ x < A.length := by simpa [isBel] using hx
                    obtain ⟨x, rfl⟩ : ∃ y : Nat, x = y := ⟨x.toNat, by omega⟩
                    have ez : apT T A B (r + 1) ps (.tup [.int 0, .int x, .tup trees]) = (decide (trees.length = B.length) && (((List.range B.length).map fun i => (x, i)).zip trees).all fun p => lapV T A B r (ps ++ [p.1]) p.2) := by
                      have el : ((List.range B.length).map fun i => (x, i)).length = B.length := by simp
                      simp only [apT, hs, numOf, hx, qTup, tupOf, Bool.true_and, sideLen, repl, Bool.and_true]
                      simp only [if_true, hx, Bool.true_and, Int.toNat_natCast, el]
                      congr 1
                      refine all_congr_mem fun p hp' => ?_
                      have hm := (List.of_mem_zip hp').1
                      simp at hm
                      obtain ⟨i, hi, e⟩ := hm
                      rw [lapV_snoc V hp (by rw [← e]; exact ⟨by show x < _; omega, hi⟩) ht]
                    rw [ez] at q0 q1
                    clear ez
                    simp
                    refine ixW (i := 2) (xs := [.int 0, .int x, .tup trees]) (by rfl) (by simp) ?_
                    simp
                    by_cases hlen : trees.length = B.length
                    · refine .inr ⟨by omega, ?_⟩
                      simp only [hlen, decide_true, Bool.true_and] at q1
                      have hA := V.la
                      have hB := V.lb
                      refine ⟨by omega, ?_⟩
                      refine ws_loop ((List.range B.length).map fun (i : Nat) => D.int i) (fun i e S' => ∃ y z, e = [some (dI T), some (.tup (A.map dI)), some (.tup (B.map dI)), some (dQ (ps.map (·.1))), some (dQ (ps.map (·.2))), some (.int ((r : Int) + 1)), some (.tup [.int 0, .int x, .tup trees]), y, z] ∧ U <+: S' ∧ Upto (fun p => lapV T A B r (ps ++ [p.1]) p.2) (((List.range B.length).map fun i => (x, i)).zip trees) i) (by simp [lim]; omega) ⟨none, none, rfl, List.prefix_refl _, Upto.zero⟩ (fun i e S' ⟨y, z, he, hS, hu⟩ hi => ?_) (fun e S' ⟨y, z, he, hS, hu⟩ => ?_)
                      · subst he
                        simp at hi
                        refine ⟨by simp [it_rng, hi], _, rfl, ?_⟩
                        simp [hi]
                        refine ixW (i := 1) (xs := [.int 0, .int x, .tup trees]) (by rfl) (by simp) ?_
                        refine ⟨by simp [lim], ?_⟩
                        refine opAdd_dQ (by simp [lim]; omega) ?_
                        refine ⟨by simp [lim], ?_⟩
                        refine opAdd_dQ (by simp [lim]; omega) ?_
                        refine ixW (i := 2) (xs := [.int 0, .int x, .tup trees]) (by rfl) (by simp) ?_
                        simp only [List.getElem_cons_succ, List.getElem_cons_zero]
                        have hit : i < trees.length := by omega
                        refine ixW (i := i) (xs := trees) (by rfl) hit ?_
                        have e1 : ps.map (·.1) ++ [x] = (ps ++ [(x, i)]).map (·.1) := by simp
                        have e2 : ps.map (·.2) ++ [i] = (ps ++ [(x, i)]).map (·.2) := by simp
                        rw [e1, e2]
                        obtain ⟨m, rfl⟩ : ∃ m, n = m + 1 := by
                          cases n with
                          | zero => exact hc.elim
                          | succ m => exact ⟨m, rfl⟩
                        have hti : Pap o S' m trees[i] := (hc.2 _ (List.getElem_mem hit)).kp (Kp.of hS)
                        have hiz : i < (((List.range B.length).map fun i => (x, i)).zip trees).length := by simp [hlen]; omega
                        have hno := all_no (F := fun p => lapV T A B r (ps ++ [p.1]) p.2) hiz
                        have hyes := hu.succ hiz
                        simp only [List.getElem_zip, List.getElem_map, List.getElem_range] at hno hyes
                        refine ih k m S' (ps ++ [(x, i)]) trees[i] _ (hp.snoc ⟨by show x < _; omega, hi⟩) (by simp; omega) hti fun U2 hU2 => ?_
                        cases hap : lapV T A B r (ps ++ [(x, i)]) trees[i] with
                        | true => exact .inr ⟨rfl, hS.trans hU2, hyes hap⟩
                        | false =>
                          rw [hno hap] at q1
                          exact .inl ⟨rfl, q1 _ (hS.trans hU2)⟩
                      · subst he
                        simp only [List.length_map, List.length_range] at hu
                        rw [hu.all' (by simp [hlen])] at q1
                        refine ⟨by simp [it_rng], ?_⟩
                        exact q1 _ hS
                    · refine .inl ⟨by omega, ?_⟩
                      simp only [hlen, decide_false, Bool.false_and] at q0
                      exact q0
        · have q0 := q U hU
          rw [eq0, apT_false (by rintro a b c ⟨⟩; exact h3 rfl)] at q0
          have h3' : ¬ (xs.length : Int) = 3 := by omega
          simp [hr0, h3']; exact q0
    | _ =>
      have q0 := q S (List.prefix_refl _)
      simp [d_l_law_is_apart, a1, b1, qTup]
      simpa [lapV, apT, isEmp] using q0
end
end Mini
end

section
set_option Elab.async false
set_option linter.all false
set_option maxRecDepth 100000
set_option maxHeartbeats 4000000
namespace Mini
open PySem PySem.Spec PyProof.Rows L2
/-! k84: _law_is_alike, _law_is_paper. -/
noncomputable def lalV (T : List Int) (A B : List (List Int)) (r : Nat) (ps : List (Nat × Nat)) (d : D) : Bool := alk T A B 0 ps && alT T A B r ps d
section
variable {G : Gl} {k : Nat} {S : Sto} {d x : D} {Q : D → Sto → Prop} {t : Int} {T : List Int} {P A B : List (List Int)} {o : Nat}
theorem many_W {s : Int} (hs : 0 ≤ s ∧ s < 2) (q : Q (.int (sideLen A B s)) S) : wp (opIx (.tup [.int A.length, .int B.length]) (.int s) S) Q := by
  have : s = 0 ∨ s = 1 := by omega
  rcases this with rfl | rfl
  · refine ixW (i := 0) (xs := [.int A.length, .int B.length]) (by rfl) (by simp) ?_
    simpa [sideLen] using q
  · refine ixW (i := 1) (xs := [.int A.length, .int B.length]) (by rfl) (by simp) ?_
    simpa [sideLen] using q
theorem chosen1 {s : Int} (hs : 0 ≤ s ∧ s < 2) {x y : Nat} (q : Q (.int (prS s x y).1) S) : wp (opIx (.tup [.int x, .int y]) (.int s) S) Q := by
  have : s = 0 ∨ s = 1 := by omega
  rcases this with rfl | rfl
  · refine ixW (i := 0) (xs := [.int x, .int y]) (by rfl) (by simp) ?_
    simpa [prS] using q
  · refine ixW (i := 1) (xs := [.int x, .int y]) (by rfl) (by simp) ?_
    simpa [prS] using q
theorem chosen2 {s : Int} (hs : 0 ≤ s ∧ s < 2) {x y : Nat} (q : Q (.int (prS s x y).2) S) : wp (opIx (.tup [.int x, .int y]) (.int (1 - s)) S) Q := by
  have : s = 0 ∨ s = 1 := by omega
  rcases this with rfl | rfl
  · refine ixW (i := 1) (xs := [.int x, .int y]) (by rfl) (by simp) ?_
    simpa [prS] using q
  · refine ixW (i := 0) (xs := [.int x, .int y]) (by rfl) (by simp) ?_
    simpa [prS] using q
theorem toldA_false {rec : List (Nat × Nat) → D → Bool} {ps : List (Nat × Nat)} {s : Int} {x : Nat} {d : D} (h : ∀ a b, d ≠ .tup [a, b]) : toldA rec T A B ps s x d = false := by
  unfold toldA
  split
  · exact absurd rfl (h _ _)
  · rfl
theorem toldA_two {r : Nat} {ps : List (Nat × Nat)} {s : Int} {x : Nat} {a tr : D} (V : Envi G t T A B) (hp : InP A B ps) (hs : 0 ≤ s ∧ s < 2) (hx : x < sideLen A B s) (ht : alk T A B 0 ps = true) (hb : isBel (sideLen A B (1 - s)) a = true) :
    toldA (alT T A B r) T A B ps s x (.tup [a, tr]) = lalV T A B r (ps ++ [prS s x (numOf a).toNat]) tr ∧ ((prS s x (numOf a).toNat).1 < A.length ∧ (prS s x (numOf a).toNat).2 < B.length) := by
  obtain ⟨y, rfl⟩ : ∃ y, a = .int y := by cases a <;> simp [isBel] at hb; exact ⟨_, rfl⟩
  have hy : 0 ≤ y ∧ y < sideLen A B (1 - s) := by simpa [isBel] using hb
  obtain ⟨y, rfl⟩ : ∃ z : Nat, y = z := ⟨y.toNat, by omega⟩
  have hin : (prS s x y).1 < A.length ∧ (prS s x y).2 < B.length := by
    have : s = 0 ∨ s = 1 := by omega
    rcases this with rfl | rfl
    · simp [prS, sideLen] at *; omega
    · simp [prS, sideLen] at *; omega
  refine ⟨?_, by simpa [numOf] using hin⟩
  simp only [toldA, hb, Bool.true_and, numOf, Int.toNat_natCast, lalV]
  rw [told_snoc V hp hin, ht, Bool.true_and]
theorem f_lis_alike (V : Envi G t T A B) : ∀ (r k n : Nat) (S : Sto) (ps : List (Nat × Nat)) (d : D) (Q : D → Sto → Prop), InP A B ps → ps.length + r ≤ 4 → Pap o S n d → (∀ U, S <+: U → Q (.bl (lalV T A B r ps d)) U) →
    wp (cf G (k + r + 5) 39 [dI T, dP A, dP B, dQ (ps.map (·.1)), dQ (ps.map (·.2)), .int r, d] S) Q := by
  intro r
  induction r with
  | zero =>
    intro k n S ps d Q hp hl hd q
    refine wp_cf rfl [some (dI T), some (dP A), some (dP B), some (dQ (ps.map (·.1))), some (dQ (ps.map (·.2))), some (.int (0 : Nat)), some d, none, none, none, none, none] rfl rfl ?_
    obtain ⟨t1, a1, b1⟩ := isi_tuple hd.typ
    cases d with
    | tup xs =>
      simp [d_l_law_is_alike]
      refine f_las_told V hp (by omega) fun U hU => ?_
      have q0 := q U hU
      cases ht : alk T A B 0 ps with
      | false =>
        simp [lalV, ht] at q0
        simp; exact q0
      | true =>
        simp [lalV, ht, alT] at q0
        simp
        have : isEmp (.tup xs) = decide (xs = []) := by cases xs <;> rfl
        rw [this] at q0
        cases xs <;> simp_all
    | _ =>
      have q0 := q S (List.prefix_refl _)
      simp [d_l_law_is_alike, a1, b1, qTup]
      simpa [lalV, alT, isEmp] using q0
  | succ r ih =>
    intro k n S ps d Q hp hl hd q
    refine wp_cf rfl [some (dI T), some (dP A), some (dP B), some (dQ (ps.map (·.1))), some (dQ (ps.map (·.2))), some (.int (r + 1 : Nat)), some d, none, none, none, none, none] rfl rfl ?_
    obtain ⟨t1, a1, b1⟩ := isi_tuple hd.typ
    have hr0 : ¬ ((r : Int) + 1 = 0) := by omega
    cases hq : qTup d with
    | false =>
      have q0 := q S (List.prefix_refl _)
      have e : lalV T A B (r + 1) ps d = false := by
        unfold lalV
        rw [alT_false (by rintro a b rfl; cases hq), Bool.and_false]
      rw [e] at q0
      simp [d_l_law_is_alike, a1, b1, hq]; exact q0
    | true =>
      obtain ⟨xs, rfl⟩ : ∃ trees, d = .tup trees := by cases d <;> simp [qTup] at hq; exact ⟨_, rfl⟩
      simp [d_l_law_is_alike]
      refine f_las_told V hp (by omega) fun U hU => ?_
      cases ht : alk T A B 0 ps with
      | false =>
        have q0 := q U hU
        simp [lalV, ht] at q0
        simp; exact q0
      | true =>
        have eq0 : ∀ d, lalV T A B (r + 1) ps d = alT T A B (r + 1) ps d := fun d => by simp [lalV, ht]
        by_cases h3 : xs.length = 2
        · match xs, h3, hd with
          | [a, b], _, hd =>
            obtain ⟨m, rfl⟩ : ∃ m, n = m + 1 := by
              cases n with
              | zero => exact hd.elim
              | succ m => exact ⟨m, rfl⟩
            have eqn : lalV T A B (r + 1) ps (.tup [a, b]) = [((0 : Int), a), (1, b)].all fun p => sideA (alT T A B r) T A B ps p.1 p.2 := by rw [eq0]; simp [alT]
            rw [eqn] at q
            have q1 : ∀ U', U <+: U' → Q (.bl ([((0 : Int), a), (1, b)].all fun p => sideA (alT T A B r) T A B ps p.1 p.2)) U' := fun U' h => q U' (hU.trans h)
            have hd := hd.kp (Kp.of (o := o) hU)
            have hA := V.la
            have hB := V.lb
            clear q eqn eq0
            simp [hr0, dP]
            refine ⟨by simp [lim], ?_⟩
            refine ws_loop [.int (0 : Nat), .int (1 : Nat)] (fun i e S' => ∃ y z u v, e = [some (dI T), some (.tup (A.map dI)), some (.tup (B.map dI)), some (dQ (ps.map (·.1))), some (dQ (ps.map (·.2))), some (.int ((r : Int) + 1)), some (.tup [a, b]), some (.tup [.int A.length, .int B.length]), y, z, u, v] ∧ U <+: S' ∧ Upto (fun p => sideA (alT T A B r) T A B ps p.1 p.2) [((0 : Int), a), (1, b)] i) (by simp [lim]) ⟨none, none, none, none, rfl, List.prefix_refl _, Upto.zero⟩ (fun i e S' ⟨y, z, u, v, he, hS, hu⟩ hi => ?_) (fun e S' ⟨y, z, u, v, he, hS, hu⟩ => ?_)
            · subst he
              have hi2 : i < [((0 : Int), a), (1, b)].length := by simpa using hi
              have hno := all_no (F := fun p => sideA (alT T A B r) T A B ps p.1 p.2) hi2
              have hyes := hu.succ hi2
              have hv : Pap o S' m [a, b][i] := (hd.2 _ (List.getElem_mem (by simpa using hi))).kp (Kp.of hS)
              have e1 : [D.int (0 : Nat), D.int (1 : Nat)][i] = .int i := by
                have : i = 0 ∨ i = 1 := by simp at hi; omega
                rcases this with rfl | rfl <;> rfl
              have e2 : [((0 : Int), a), (1, b)][i] = ((i : Int), [a, b][i]) := by
                have : i = 0 ∨ i = 1 := by simp at hi; omega
                rcases this with rfl | rfl <;> rfl
              rw [e2] at hno hyes
              rw [e1]
              have hi3 : i < [a, b].length := by simpa using hi
              have hs : (0 : Int) ≤ i ∧ (i : Int) < 2 := by simp at hi; omega
              have i2 : i < 2 := by simpa using hi
              have ixv : ∀ {Q : D → Sto → Prop} {S'}, Q [a, b][i] S' → wp (opIx (.tup [a, b]) (.int i) S') Q := fun q => ixW (i := i) (xs := [a, b]) (by rfl) hi3 q
              generalize hw : [a, b][i] = w at *
              refine ⟨by simp [itVal]; omega, _, rfl, ?_⟩
              simp
              refine ixv ?_
              obtain ⟨t2, a2, b2⟩ := isi_tuple hv.typ
              refine ⟨t2, a2, ?_⟩
              cases hq2 : qTup w with
              | false =>
                have : sideA (alT T A B r) T A B ps i w = false := by simp [sideA, hq2]
                rw [hno this] at q1
                exact .inl ⟨by rw [b2, hq2], q1 _ hS⟩
              | true =>
                obtain ⟨zs, rfl⟩ : ∃ trees, w = .tup trees := by cases w <;> simp [qTup] at hq2; exact ⟨_, rfl⟩
                refine .inr ⟨by rw [b2, hq2], ?_⟩
                refine ixv ?_
                simp
                refine many_W hs ?_
                simp
                by_cases hlen : zs.length = sideLen A B i
                · refine .inr ⟨by omega, ?_⟩
                  have hsl : sideLen A B i ≤ 16 := by unfold sideLen; split <;> omega
                  refine many_W hs ?_
                  simp
                  refine ⟨by omega, ?_⟩
                  obtain ⟨m', rfl⟩ : ∃ m', m = m' + 1 := by
                    cases m with
                    | zero => exact hv.elim
                    | succ m' => exact ⟨m', rfl⟩
                  let F : Nat × D → Bool := fun p => toldA (alT T A B r) T A B ps (i : Int) p.1 p.2
                  have hside : sideA (alT T A B r) T A B ps i (.tup zs) = ((List.range zs.length).zip zs).all F := by
                    simp [sideA, qTup, tupOf, hlen, F]
                  rw [hside] at hno hyes
                  refine ws_loop ((List.range zs.length).map fun (j : Nat) => D.int j) (fun j e S2 => ∃ z u v, e = [some (dI T), some (.tup (A.map dI)), some (.tup (B.map dI)), some (dQ (ps.map (·.1))), some (dQ (ps.map (·.2))), some (.int ((r : Int) + 1)), some (.tup [a, b]), some (.tup [.int A.length, .int B.length]), some (.int i), z, u, v] ∧ U <+: S2 ∧ S' <+: S2 ∧ Upto F ((List.range zs.length).zip zs) j) (by simp [lim]; omega) ⟨_, _, _, rfl, hS, List.prefix_refl _, Upto.zero⟩ (fun j e S2 ⟨z, u, v, he, hS1, hS2, hu2⟩ hj => ?_) (fun e S2 ⟨z, u, v, he, hS1, hS2, hu2⟩ => ?_)
                  · subst he
                    have hj1 : j < zs.length := by simpa using hj
                    have hj2 : j < ((List.range zs.length).zip zs).length := by simpa using hj1
                    have hno2 := all_no (F := F) hj2
                    have hyes2 := hu2.succ hj2
                    have hz : Pap o S2 m' zs[j] := (hv.2 _ (List.getElem_mem hj1)).kp (Kp.of hS2)
                    refine ⟨by rw [← hlen]; simp [it_rng, hj1], _, rfl, ?_⟩
                    simp only [List.getElem_map, List.getElem_zip, List.getElem_range] at hno2 hyes2 ⊢
                    simp
                    refine ixv ?_
                    refine ixW (i := j) (xs := zs) (by rfl) hj1 ?_
                    generalize hzw : zs[j] = zw at *
                    have fin0 : F (j, zw) = false → Q (.bl false) S2 := fun h => by
                      rw [hno (hno2 h)] at q1
                      exact q1 _ hS1
                    obtain ⟨t3, a3, b3⟩ := isi_tuple hz.typ
                    refine ⟨t3, a3, ?_⟩
                    cases hq3 : qTup zw with
                    | false =>
                      refine .inl ⟨by rw [b3, hq3], fin0 ?_⟩
                      exact toldA_false (by rintro a b rfl; cases hq3)
                    | true =>
                      obtain ⟨ys, rfl⟩ : ∃ trees, zw = .tup trees := by cases zw <;> simp [qTup] at hq3; exact ⟨_, rfl⟩
                      refine .inr ⟨by rw [b3, hq3], ?_⟩
                      simp
                      by_cases h2 : ys.length = 2
                      · match ys, h2, hz with
                        | [c, tr], _, hz =>
                          obtain ⟨m2, rfl⟩ : ∃ m2, m' = m2 + 1 := by
                            cases m' with
                            | zero => exact hz.elim
                            | succ m2 => exact ⟨m2, rfl⟩
                          have hc := hz.2 c (by simp)
                          have htr := hz.2 tr (by simp)
                          simp
                          refine ixW (i := 0) (xs := [c, tr]) (by rfl) (by simp) ?_
                          refine many_W (by omega) ?_
                          simp only [List.getElem_cons_zero]
                          refine f_number hc.typ ?_
                          cases hb : isBel (sideLen A B (1 - i)) c with
                          | false =>
                            simp
                            refine fin0 ?_
                            simp [F, toldA, hb]
                          | true =>
                            obtain ⟨e5, hin⟩ := toldA_two (r := r) (tr := tr) V hp hs (show j < sideLen A B i by omega) ht hb
                            obtain ⟨y, rfl⟩ : ∃ y, c = .int y := by cases c <;> simp [isBel] at hb; exact ⟨_, rfl⟩
                            have hy : 0 ≤ y ∧ y < sideLen A B (1 - i) := by simpa [isBel] using hb
                            obtain ⟨y, rfl⟩ : ∃ z : Nat, y = z := ⟨y.toNat, by omega⟩
                            simp only [numOf, Int.toNat_natCast] at e5 hin
                            simp
                            refine ixW (i := 0) (xs := [.int y, tr]) (by rfl) (by simp) ?_
                            refine ⟨by simp [lim], ?_⟩
                            simp only [List.getElem_cons_zero]
                            refine chosen1 hs ?_
                            refine ⟨by simp [lim], ?_⟩
                            refine opAdd_dQ (by simp [lim]; omega) ?_
                            refine chosen2 hs ?_
                            refine ⟨by simp [lim], ?_⟩
                            refine opAdd_dQ (by simp [lim]; omega) ?_
                            refine ixW (i := 1) (xs := [.int y, tr]) (by rfl) (by simp) ?_
                            simp only [List.getElem_cons_zero, List.getElem_cons_succ]
                            have g1 : ps.map (·.1) ++ [(prS i j y).1] = (ps ++ [prS i j y]).map (·.1) := by simp
                            have g2 : ps.map (·.2) ++ [(prS i j y).2] = (ps ++ [prS i j y]).map (·.2) := by simp
                            rw [g1, g2]
                            refine ih k m2 S2 (ps ++ [prS i j y]) tr _ (hp.snoc hin) (by simp; omega) htr fun U2 hU2 => ?_
                            cases hap : lalV T A B r (ps ++ [prS i j y]) tr with
                            | true => exact .inr ⟨rfl, ⟨hS1.trans hU2, hS2.trans hU2, hyes2 (by rw [← e5] at hap; exact hap)⟩⟩
                            | false =>
                              rw [hno (hno2 (by rw [← e5] at hap; exact hap))] at q1
                              exact .inl ⟨rfl, q1 _ (hS1.trans hU2)⟩
                      · refine .inl ⟨by omega, fin0 ?_⟩
                        exact toldA_false (by rintro a b ⟨⟩; exact h2 rfl)
                  · subst he
                    simp only [List.length_map, List.length_range] at hu2
                    refine ⟨by rw [← hlen]; simp [it_rng], ⟨_, _, _, _, rfl⟩, hS1, hyes (hu2.all' (by simp))⟩
                · have : sideA (alT T A B r) T A B ps i (.tup zs) = false := by simp [sideA, tupOf, hlen]
                  rw [hno this] at q1
                  exact .inl ⟨by omega, q1 _ hS⟩
            · subst he
              rw [hu.all' (by simp)] at q1
              refine ⟨by simp [itVal], ?_⟩
              exact q1 _ hS
        · have q0 := q U hU
          rw [eq0, alT_false (by rintro a b ⟨⟩; exact h3 rfl)] at q0
          have h3' : ¬ (xs.length : Int) = 2 := by omega
          simp [hr0, h3']; exact q0
theorem f_lis_paper (V : Envi G t T A B) {n r : Nat} (hr : r ≤ 3) (hd : Pap o S n d) (q : ∀ U, S <+: U → Q (.bl (gpT T A B r d)) U) : wp (cf G (k + r + 6) 40 [dI T, dP A, dP B, .int r, d] S) Q := by
  refine wp_cf rfl [some (dI T), some (dP A), some (dP B), some (.int r), some d] rfl rfl ?_
  obtain ⟨t1, a1, b1⟩ := isi_tuple hd.typ
  have q0 := q S (List.prefix_refl _)
  have e0 : D.tup [] = dQ (([] : List (Nat × Nat)).map (·.1)) := by simp [dQ_eq]
  have e1 : D.tup [] = dQ (([] : List (Nat × Nat)).map (·.2)) := by simp [dQ_eq]
  have hnil : InP A B [] := by intro p hp; cases hp
  cases hq : qTup d with
  | false =>
    have : gpT T A B r d = false := by
      cases d <;> first | rfl | cases hq
    rw [this] at q0
    simp [d_l_law_is_paper, a1, b1, hq]; exact q0
  | true =>
    obtain ⟨xs, rfl⟩ : ∃ trees, d = .tup trees := by cases d <;> simp [qTup] at hq; exact ⟨_, rfl⟩
    by_cases h3 : xs.length = 2
    · match xs, h3, hd with
      | [a, tr], _, hd =>
        obtain ⟨m, rfl⟩ : ∃ m', n = m' + 1 := by
          cases n with
          | zero => exact hd.elim
          | succ m => exact ⟨m, rfl⟩
        have ha := hd.2 a (by simp)
        have htr := hd.2 tr (by simp)
        simp [d_l_law_is_paper]
        refine ixW (i := 0) (xs := [a, tr]) (by rfl) (by simp) ?_
        obtain ⟨t2, a2, b2⟩ := isi_str ha.typ
        refine ⟨t2, a2, ?_⟩
        cases hs : qStr a with
        | false =>
          have : gpT T A B r (.tup [a, tr]) = false := by
            cases a <;> first | rfl | cases hs
          rw [this] at q0
          exact .inl ⟨by simpa [hs] using b2, q0⟩
        | true =>
          obtain ⟨s, rfl⟩ : ∃ s, a = .str s := by cases a <;> simp [qStr] at hs; exact ⟨_, rfl⟩
          have hso : PyData.strOk s = true := by cases m <;> exact ha
          refine .inr ⟨by simpa [hs] using b2, ?_⟩
          refine ixW (i := 0) (xs := [.str s, tr]) (by rfl) (by simp) ?_
          show (eqD S (.str s) (D.str (Str.ofString "apart")) = some false ∧ _) ∨ (eqD S (.str s) (D.str (Str.ofString "apart")) = some true ∧ _)
          have ok1 : PyData.strOk (Str.ofString "apart") = true := by decide +kernel
          have ok2 : PyData.strOk (Str.ofString "alike") = true := by decide +kernel
          rw [eqD_str hso ok1]
          by_cases h1 : s = Str.ofString "apart"
          · refine .inr ⟨by simp [h1], ?_⟩
            refine ixW (i := 1) (xs := [.str s, tr]) (by rfl) (by simp) ?_
            simp only [List.getElem_cons_zero, List.getElem_cons_succ]
            rw [e0]
            refine f_lis_apart V r k m S [] tr Q hnil (by simp; omega) htr fun U2 h2 => ?_
            have : gpT T A B r (.tup [.str s, tr]) = lapV T A B r [] tr := by simp [gpT, h1, lapV, alk_nil]
            rw [← this]
            exact q _ h2
          · refine .inl ⟨by simp [h1], ?_⟩
            refine ixW (i := 0) (xs := [.str s, tr]) (by rfl) (by simp) ?_
            show (eqD S (.str s) (D.str (Str.ofString "alike")) = some false ∧ _) ∨ (eqD S (.str s) (D.str (Str.ofString "alike")) = some true ∧ _)
            rw [eqD_str hso ok2]
            by_cases h2 : s = Str.ofString "alike"
            · refine .inr ⟨by simp [h2], ?_⟩
              refine ixW (i := 1) (xs := [.str s, tr]) (by rfl) (by simp) ?_
              simp only [List.getElem_cons_zero, List.getElem_cons_succ]
              rw [e0]
              refine f_lis_alike V r k m S [] tr Q hnil (by simp; omega) htr fun U2 h3 => ?_
              have h1' := h1
              rw [h2] at h1'
              have : gpT T A B r (.tup [.str s, tr]) = lalV T A B r [] tr := by simp [gpT, h2, h1', lalV, alk_nil]
              rw [← this]
              exact q _ h3
            · refine .inl ⟨by simp [h2], ?_⟩
              have : gpT T A B r (.tup [.str s, tr]) = false := by simp [gpT, h1, h2]
              rw [this] at q0
              exact q0
    · have : gpT T A B r (.tup xs) = false := by
        unfold gpT
        split
        · rename_i h; cases h; exact absurd rfl h3
        · rfl
      rw [this] at q0
      have h3' : ¬ (xs.length : Int) = 2 := by omega
      simp [d_l_law_is_paper, h3']; exact q0
end
end Mini
end

section
set_option Elab.async false
set_option linter.all false
set_option maxRecDepth 100000
set_option maxHeartbeats 4000000
namespace Mini
open PySem PySem.Spec PyProof.Rows L2
/-! k84: _law_answers. -/
/-- trees of whole numbers -/
def Tr (w : Nat) : Nat → D → Prop
  | _, .int _ => True
  | n + 1, .tup xs => xs.length ≤ w ∧ ∀ x ∈ xs, Tr w n x
  | _, _ => False
theorem Tr.up {w : Nat} : ∀ {n m : Nat} {d : D}, Tr w n d → n ≤ m → Tr w m d
  | 0, 0, .int _, _, _ => trivial
  | 0, _ + 1, .int _, _, _ => trivial
  | _ + 1, _ + 1, .int _, _, _ => trivial
  | n + 1, m + 1, .tup xs, h, hm => ⟨h.1, fun x hx => (h.2 x hx).up (by omega)⟩
  | 0, _, .tup _, h, _ => h.elim
theorem zip_all {F : Nat → D → Bool} {L : List D} (h : ∀ j (hj : j < L.length), F j L[j] = true) : (((List.range L.length).zip L).all fun p => F p.1 p.2) = true := by
  rw [List.all_eq_true]
  intro p hp
  obtain ⟨i, hi, rfl⟩ := List.mem_iff_getElem.mp hp
  simp at hi
  simpa using h i hi
section
variable {G : Gl} {k : Nat} {S : Sto} {d x : D} {Q : D → Sto → Prop} {t : Int} {T : List Int} {P A B : List (List Int)} {o L : Nat}
theorem f_lalike' (V : Envi G t T A B) {r : Nat} {ps : List (Nat × Nat)} (hL : r + 3 ≤ L) (hr : r ≤ 3) (hp : InP A B ps) (hl : ps.length + r ≤ 5) (q : ∀ U, S <+: U → Q (.bl (alk T A B r ps)) U) : wp (cf G L 23 [dI T, dP A, dP B, dQ (ps.map (·.1)), dQ (ps.map (·.2)), .int r] S) Q := by
  obtain ⟨k, rfl⟩ : ∃ k, L = k + r + 3 := ⟨L - r - 3, by omega⟩
  exact f_lalike V hr hp hl q
theorem f_las_told' (V : Envi G t T A B) {ps : List (Nat × Nat)} (hL : 4 ≤ L) (hp : InP A B ps) (hl : ps.length ≤ 5) (q : ∀ U, S <+: U → Q (.bl (alk T A B 0 ps)) U) : wp (cf G L 25 [dI T, dP A, dP B, dQ (ps.map (·.1)), dQ (ps.map (·.2))] S) Q := by
  obtain ⟨k, rfl⟩ : ∃ k, L = k + 4 := ⟨L - 4, by omega⟩
  exact f_las_told V hp hl q
theorem f_draw' (h : SrcAt S o) {m : Int} (hL : 1 ≤ L) (hm : 1 ≤ m) (hm2 : m < 2 ^ 30) (q : ∀ U (v : Nat), Kp o S U → SrcAt U o → (v : Int) < m → Q (.int v) U) : wp (cf G L 1 [.obj o, .int m] S) Q := by
  obtain ⟨k, rfl⟩ : ∃ k, L = k + 1 := ⟨L - 1, by omega⟩
  obtain ⟨m, rfl⟩ : ∃ z : Nat, m = z := ⟨m.toNat, by omega⟩
  refine f_draw h (by omega) (by omega) fun U v a b c d => ?_
  obtain ⟨v, rfl⟩ : ∃ z : Nat, v = z := ⟨v.toNat, by omega⟩
  exact q U v a b d
theorem toldA_alk (V : Envi G t T A B) {r : Nat} {ps : List (Nat × Nat)} {s : Int} {x y : Nat} {tr : D} (hp : InP A B ps) (hl : ps.length + r ≤ 4) (hs : 0 ≤ s ∧ s < 2) (hx : x < sideLen A B s) (hy : y < sideLen A B (1 - s)) (ha : alk T A B r (ps ++ [prS s x y]) = true) (ht : alT T A B r (ps ++ [prS s x y]) tr = true) : toldA (alT T A B r) T A B ps s x (.tup [.int y, tr]) = true := by
  have hin : (prS s x y).1 < A.length ∧ (prS s x y).2 < B.length := by
    have : s = 0 ∨ s = 1 := by omega
    rcases this with rfl | rfl
    · simp [prS, sideLen] at *; omega
    · simp [prS, sideLen] at *; omega
  have h0 := alk_told V (hp.snoc hin) (by simp; omega) ha
  rw [told_snoc V hp hin, Bool.and_eq_true] at h0
  have hb : isBel (sideLen A B (1 - s)) (.int y) = true := by simp [isBel]; omega
  simp only [toldA, hb, Bool.true_and, numOf, Int.toNat_natCast, h0.2, ht]
theorem mem_filt {n : Nat} {f : Nat → Bool} {v : Nat} (h : v < ((List.range n).filter f).length) : ((List.range n).filter f)[v] < n ∧ f (((List.range n).filter f)[v]) = true := by
  have := List.getElem_mem h
  rw [List.mem_filter] at this
  exact ⟨by simpa using this.1, this.2⟩
theorem filt_succ {i : Nat} {f : Nat → Bool} : (List.range (i + 1)).filter f = (List.range i).filter f ++ (if f i = true then [i] else []) := by
  rw [List.range_succ, List.filter_append]
  congr 1
  by_cases h : f i = true <;> simp [h]
theorem filt_ne {n i : Nat} {f : Nat → Bool} (hi : i < n) (h : f i = true) : 1 ≤ ((List.range n).filter f).length := by
  have : i ∈ (List.range n).filter f := by rw [List.mem_filter]; exact ⟨by simpa using hi, h⟩
  exact List.length_pos_of_mem this
theorem filt_le {n : Nat} {f : Nat → Bool} : ((List.range n).filter f).length ≤ n := by
  have := List.length_filter_le f (List.range n)
  simpa using this
theorem Kp.lst {S0 : Sto} {R : Nat} {xs : List D} (h : Kp o S0 S) (hS : S0[R]? = some (.lst xs)) (hR : R ≠ o) : S[R]? = some (.lst xs) := h.at hS hR
theorem dI_eq {xs : List Int} : D.tup (xs.map D.int) = dI xs := rfl
theorem dP_eq {P : List (List Int)} : D.tup (P.map dI) = dP P := rfl
theorem f_answers (V : Envi G t T A B) (hA : A.length ≤ 5) (hB : B.length ≤ 5) : ∀ (r L : Nat) (S : Sto) (ps : List (Nat × Nat)) (Q : D → Sto → Prop), r + 4 ≤ L → SrcAt S o → InP A B ps → ps.length + r ≤ 4 → r ≤ 3 → alk T A B r ps = true →
    (∀ U d, Kp o S U → SrcAt U o → Tr 5 (3 * r + 1) d → alT T A B r ps d = true → Q d U) → wp (cf G L 24 [.obj o, dI T, dP A, dP B, dQ (ps.map (·.1)), dQ (ps.map (·.2)), .int r] S) Q := by
  intro r
  induction r with
  | zero =>
    intro L S ps Q hL hs hp hl hr ha q
    obtain ⟨L, rfl⟩ : ∃ k, L = k + 1 := ⟨L - 1, by omega⟩
    refine wp_cf rfl [some (.obj o), some (dI T), some (dP A), some (dP B), some (dQ (ps.map (·.1))), some (dQ (ps.map (·.2))), some (.int (0 : Nat)), none, none, none, none, none] rfl rfl ?_
    simp [d_l_law_answers, lim]
    exact q S (.tup []) (Kp.refl _) hs ⟨by simp, by simp⟩ rfl
  | succ r ih =>
    intro L S ps Q hL hs hp hl hr ha q
    obtain ⟨L, rfl⟩ : ∃ k, L = k + 1 := ⟨L - 1, by omega⟩
    refine wp_cf rfl [some (.obj o), some (dI T), some (dP A), some (dP B), some (dQ (ps.map (·.1))), some (dQ (ps.map (·.2))), some (.int ((r : Int) + 1)), none, none, none, none, none] rfl rfl ?_
    have hr0 : ¬ ((r : Int) + 1 = 0) := by omega
    have hh := (alk_succ (r := r) (ps := ps) V (by omega)).mp ha
    have hal1 := hh.1
    have hal2 := hh.2
    clear hh
    have hlt := hs.lt
    simp [d_l_law_answers, hr0]
    refine ⟨_, rfl, by simp; omega, ?_⟩
    refine ws_loop ((List.range A.length).map fun (i : Nat) => D.int i) (fun i e S' => ∃ y u v F, e = [some (.obj o), some (dI T), some (dP A), some (dP B), some (dQ (ps.map (·.1))), some (dQ (ps.map (·.2))), some (.int ((r : Int) + 1)), some (.obj S.length), y, none, u, v] ∧ S'[S.length]? = some (.lst F) ∧ Kp o S S' ∧ SrcAt S' o ∧ F.length = i ∧ (∀ j (hj : j < F.length), toldA (alT T A B r) T A B ps 0 j F[j] = true) ∧ ∀ x ∈ F, Tr 5 (3 * r + 2) x) (by simp [lim]; omega)
      ⟨none, none, none, [], rfl, by simp, Kp.of (List.prefix_append _ _), hs.app, rfl, by simp, by simp⟩ (fun i e S' ⟨y, u, v, F, he, hF, kp, hs', hlF, htF, hdF⟩ hi => ?_) (fun e S' ⟨y, u, v, F, he, hF, kp, hs', hlF, htF, hdF⟩ => ?_)
    · subst he
      simp at hi
      refine ⟨by simp [dP, it_rng, hi], _, rfl, ?_⟩
      simp [hi]
      refine ⟨_, rfl, by simp; omega, ?_⟩
      refine wp_comp ((List.range B.length).map fun (j : Nat) => D.int j) (fun j acc S1 => S' <+: S1 ∧ acc = ((List.range j).filter fun q => alk T A B r (ps ++ [(i, q)])).map fun (q : Nat) => D.int q) (by simp [lim]; omega) ⟨List.prefix_refl _, rfl⟩ (fun j acc S1 ⟨h1, h2⟩ hj haj => ?_) (fun acc S1 ⟨h1, h2⟩ => ?_)
      · subst h2
        simp at hj
        refine ⟨by simp [it_rng, hj], _, rfl, ?_⟩
        simp [hj, wipeE]
        refine ⟨by simp [lim], ?_⟩
        refine opAdd_dQ (by simp [lim]; omega) ?_
        refine ⟨by simp [lim], ?_⟩
        refine opAdd_dQ (by simp [lim]; omega) ?_
        have g1 : ps.map (·.1) ++ [i] = (ps ++ [(i, j)]).map (·.1) := by simp
        have g2 : ps.map (·.2) ++ [j] = (ps ++ [(i, j)]).map (·.2) := by simp
        rw [g1, g2]
        refine f_lalike' V (by omega) (by omega) (hp.snoc ⟨hi, hj⟩) (by simp; omega) fun U hU => ?_
        cases hq : alk T A B r (ps ++ [(i, j)]) with
        | true =>
          refine .inr ⟨rfl, h1.trans hU, ?_⟩
          simp [filt_succ, hq]
        | false =>
          refine .inl ⟨rfl, h1.trans hU, ?_⟩
          simp [filt_succ, hq]
      · subst h2
        simp only [List.length_map, List.length_range]
        refine ⟨by simp [it_rng], ?_⟩
        obtain ⟨q0, hq0, ha0⟩ := hal1 i hi
        have hne := filt_ne (f := fun q => alk T A B r (ps ++ [(i, q)])) hq0 ha0
        have hle := filt_le (n := B.length) (f := fun q => alk T A B r (ps ++ [(i, q)]))
        generalize hg : ((List.range B.length).filter fun q => alk T A B r (ps ++ [(i, q)])) = gd at hne hle ⊢
        have kp1 : Kp o S' (S1 ++ [O.lst (gd.map fun (q : Nat) => D.int q)]) := Kp.of (h1.trans (List.prefix_append _ _))
        have hs1 : SrcAt (S1 ++ [O.lst (gd.map fun (q : Nat) => D.int q)]) o := by
          obtain ⟨Z, hZ⟩ := h1.trans (List.prefix_append S1 [O.lst (gd.map fun (q : Nat) => D.int q)])
          rw [← hZ]; exact hs'.app
        have hS1 : S.length < S1.length := by
          have a1 := (List.getElem?_eq_some_iff.mp hF).1
          have := h1.length_le
          omega
        have hgd : (S1 ++ [O.lst (gd.map fun (q : Nat) => D.int q)])[S1.length]? = some (.lst (gd.map fun (q : Nat) => D.int q)) := by simp
        skip
        refine ⟨gd.map fun (q : Nat) => D.int q, by simp [seqOf, lstOf], ?_⟩
        simp
        refine f_draw' hs1 (by omega) (by omega) (by omega) fun U v ku su hv => ?_
        have hgd2 : U[S1.length]? = some (.lst (gd.map fun (q : Nat) => D.int q)) := ku.at hgd (by omega)
        have hvl : v < gd.length := by omega
        refine ixW (i := v) (xs := gd.map fun (q : Nat) => D.int q) (by simp [seqOf, lstOf, hgd2]) (by simpa using hvl) ?_
        have hgv : gd[v] < B.length ∧ alk T A B r (ps ++ [(i, gd[v])]) = true := by
          subst hg
          exact mem_filt hvl
        generalize hqv : gd[v] = qv at hgv
        have kU : Kp o S' U := kp1.trans ku
        have hFU : U[S.length]? = some (.lst F) := kU.at hF (by omega)
        refine wp_app (R := S.length) (by simp) (by simp [isLst, hFU]) ?_
        simp [hqv]
        refine ⟨by simp [lim], ?_⟩
        refine opAdd_dQ (by simp [lim]; omega) ?_
        refine ⟨by simp [lim], ?_⟩
        refine opAdd_dQ (by simp [lim]; omega) ?_
        have g1 : ps.map (·.1) ++ [i] = (ps ++ [(i, qv)]).map (·.1) := by simp
        have g2 : ps.map (·.2) ++ [qv] = (ps ++ [(i, qv)]).map (·.2) := by simp
        rw [g1, g2]
        refine ih L U (ps ++ [(i, qv)]) _ (by omega) su (hp.snoc ⟨hi, hgv.1⟩) (by simp; omega) (by omega) hgv.2 fun U2 tr k2 s2 htr hat => ?_
        have hF2 : U2[S.length]? = some (.lst F) := k2.at hFU (by omega)
        have hlen2 := (List.getElem?_eq_some_iff.mp hF2).1
        refine ⟨by simp [lim], _, hF2, by simp [lim]; omega, ?_⟩
        refine ⟨F ++ [.tup [.int qv, tr]], ?_⟩
        refine ⟨by simp [hlen2], ?_⟩
        refine ⟨(kp.trans (kU.trans k2)).put (Nat.le_refl _), s2.put hlt, by simp [hlF], ?_, ?_⟩
        · intro j hj
          by_cases hjl : j < F.length
          · rw [List.getElem_append_left hjl]; exact htF j hjl
          · simp at hj
            have : j = F.length := by omega
            subst this
            simp
            rw [hlF]
            exact toldA_alk V hp (by omega) (by omega) (by simpa [sideLen] using hi) (by simpa [sideLen] using hgv.1) (by simpa [prS] using hgv.2) (by simpa [prS] using hat)
        · intro x hx
          rcases List.mem_append.mp hx with hx | hx
          · exact hdF x hx
          · simp at hx
            subst hx
            refine ⟨by simp, fun x hx => ?_⟩
            simp at hx
            rcases hx with rfl | rfl
            · cases r <;> trivial
            · exact htr
    · subst he
      have ef : S'.length = S'.length := rfl
      simp at hlF
      refine ⟨by simp [dP, it_rng], ?_⟩
      simp
      refine ⟨_, rfl, by simp; omega, ?_⟩
      have hSl : S.length < S'.length := (List.getElem?_eq_some_iff.mp hF).1
      refine ws_loop ((List.range B.length).map fun (i : Nat) => D.int i) (fun i e S2 => ∃ y u v E, e = [some (.obj o), some (dI T), some (dP A), some (dP B), some (dQ (ps.map (·.1))), some (dQ (ps.map (·.2))), some (.int ((r : Int) + 1)), some (.obj S.length), y, some (.obj S'.length), u, v] ∧ S2[S'.length]? = some (.lst E) ∧ S2[S.length]? = some (.lst F) ∧ Kp o S S2 ∧ SrcAt S2 o ∧ E.length = i ∧ (∀ j (hj : j < E.length), toldA (alT T A B r) T A B ps 1 j E[j] = true) ∧ ∀ x ∈ E, Tr 5 (3 * r + 2) x) (by simp [lim]; omega)
        ⟨_, _, _, [], rfl, by simp, by rw [List.getElem?_append_left hSl]; exact hF, kp.trans (Kp.of (List.prefix_append _ _)), hs'.app, rfl, by simp, by simp⟩ (fun i e S2 ⟨y, u, v, E, he, hE, hF', kp', hs2, hlE, htE, hdE⟩ hi => ?_) (fun e S2 ⟨y, u, v, E, he, hE, hF', kp', hs2, hlE, htE, hdE⟩ => ?_)
      · subst he
        simp at hi
        refine ⟨by simp [dP, it_rng, hi], _, rfl, ?_⟩
        simp [hi]
        refine ⟨_, rfl, by simp; omega, ?_⟩
        refine wp_comp ((List.range A.length).map fun (j : Nat) => D.int j) (fun j acc S1 => S2 <+: S1 ∧ acc = ((List.range j).filter fun p => alk T A B r (ps ++ [(p, i)])).map fun (q : Nat) => D.int q) (by simp [lim]; omega) ⟨List.prefix_refl _, rfl⟩ (fun j acc S1 ⟨h1, h2⟩ hj haj => ?_) (fun acc S1 ⟨h1, h2⟩ => ?_)
        · subst h2
          simp at hj
          refine ⟨by simp [it_rng, hj], _, rfl, ?_⟩
          simp [hj, wipeE]
          refine ⟨by simp [lim], ?_⟩
          refine opAdd_dQ (by simp [lim]; omega) ?_
          refine ⟨by simp [lim], ?_⟩
          refine opAdd_dQ (by simp [lim]; omega) ?_
          have g1 : ps.map (·.1) ++ [j] = (ps ++ [(j, i)]).map (·.1) := by simp
          have g2 : ps.map (·.2) ++ [i] = (ps ++ [(j, i)]).map (·.2) := by simp
          rw [g1, g2]
          refine f_lalike' V (by omega) (by omega) (hp.snoc ⟨hj, hi⟩) (by simp; omega) fun U hU => ?_
          cases hq : alk T A B r (ps ++ [(j, i)]) with
          | true =>
            refine .inr ⟨rfl, h1.trans hU, ?_⟩
            simp [filt_succ, hq]
          | false =>
            refine .inl ⟨rfl, h1.trans hU, ?_⟩
            simp [filt_succ, hq]
        · subst h2
          simp only [List.length_map, List.length_range]
          refine ⟨by simp [it_rng], ?_⟩
          obtain ⟨q0, hq0, ha0⟩ := hal2 i hi
          have hne := filt_ne (f := fun q => alk T A B r (ps ++ [(q, i)])) hq0 ha0
          have hle := filt_le (n := A.length) (f := fun q => alk T A B r (ps ++ [(q, i)]))
          generalize hg : ((List.range A.length).filter fun q => alk T A B r (ps ++ [(q, i)])) = gd at hne hle ⊢
          have kp1 : Kp o S2 (S1 ++ [O.lst (gd.map fun (q : Nat) => D.int q)]) := Kp.of (h1.trans (List.prefix_append _ _))
          have hs1 : SrcAt (S1 ++ [O.lst (gd.map fun (q : Nat) => D.int q)]) o := by
            obtain ⟨Z, hZ⟩ := h1.trans (List.prefix_append S1 [O.lst (gd.map fun (q : Nat) => D.int q)])
            rw [← hZ]; exact hs2.app
          have hS1 : S'.length < S1.length := by
            have a1 := (List.getElem?_eq_some_iff.mp hE).1
            have := h1.length_le
            omega
          have hgd : (S1 ++ [O.lst (gd.map fun (q : Nat) => D.int q)])[S1.length]? = some (.lst (gd.map fun (q : Nat) => D.int q)) := by simp
          skip
          refine ⟨gd.map fun (q : Nat) => D.int q, by simp [seqOf, lstOf], ?_⟩
          simp
          refine f_draw' hs1 (by omega) (by omega) (by omega) fun U v ku su hv => ?_
          have hgd2 : U[S1.length]? = some (.lst (gd.map fun (q : Nat) => D.int q)) := ku.at hgd (by omega)
          have hvl : v < gd.length := by omega
          refine ixW (i := v) (xs := gd.map fun (q : Nat) => D.int q) (by simp [seqOf, lstOf, hgd2]) (by simpa using hvl) ?_
          have hgv : gd[v] < A.length ∧ alk T A B r (ps ++ [(gd[v], i)]) = true := by
            subst hg
            exact mem_filt hvl
          generalize hqv : gd[v] = qv at hgv
          have kU : Kp o S2 U := kp1.trans ku
          have hEU : U[S'.length]? = some (.lst E) := kU.at hE (by omega)
          have hFU : U[S.length]? = some (.lst F) := kU.at hF' (by omega)
          refine wp_app (R := S'.length) (by simp) (by simp [isLst, hEU]) ?_
          simp [hqv]
          refine ⟨by simp [lim], ?_⟩
          refine opAdd_dQ (by simp [lim]; omega) ?_
          refine ⟨by simp [lim], ?_⟩
          refine opAdd_dQ (by simp [lim]; omega) ?_
          have g1 : ps.map (·.1) ++ [qv] = (ps ++ [(qv, i)]).map (·.1) := by simp
          have g2 : ps.map (·.2) ++ [i] = (ps ++ [(qv, i)]).map (·.2) := by simp
          rw [g1, g2]
          refine ih L U (ps ++ [(qv, i)]) _ (by omega) su (hp.snoc ⟨hgv.1, hi⟩) (by simp; omega) (by omega) hgv.2 fun U2 tr k2 s2 htr hat => ?_
          have hE2 : U2[S'.length]? = some (.lst E) := k2.at hEU (by omega)
          have hF2 : U2[S.length]? = some (.lst F) := k2.at hFU (by omega)
          have hlen2 := (List.getElem?_eq_some_iff.mp hE2).1
          refine ⟨by simp [lim], _, hE2, by simp [lim]; omega, ?_⟩
          refine ⟨E ++ [.tup [.int qv, tr]], ?_⟩
          refine ⟨by simp [hlen2], by rw [List.getElem?_set_ne (by omega)]; exact hF2, ?_⟩
          refine ⟨(kp'.trans (kU.trans k2)).put (by omega), s2.put (by omega), by simp [hlE], ?_, ?_⟩
          · intro j hj
            by_cases hjl : j < E.length
            · rw [List.getElem_append_left hjl]; exact htE j hjl
            · simp at hj
              have : j = E.length := by omega
              subst this
              simp
              rw [hlE]
              exact toldA_alk V hp (by omega) (by omega) (by simpa [sideLen] using hi) (by simpa [sideLen] using hgv.1) (by simpa [prS] using hgv.2) (by simpa [prS] using hat)
          · intro x hx
            rcases List.mem_append.mp hx with hx | hx
            · exact hdE x hx
            · simp at hx
              subst hx
              refine ⟨by simp, fun x hx => ?_⟩
              simp at hx
              rcases hx with rfl | rfl
              · cases r <;> trivial
              · exact htr
      · subst he
        simp at hlE
        refine ⟨by simp [dP, it_rng], ?_⟩
        simp
        unfold cTup
        simp [seqOf, lstOf, hF', hE]
        refine ⟨by simp [lim], q S2 _ kp' hs2 ?_ ?_⟩
        · refine ⟨by simp, fun x hx => ?_⟩
          simp at hx
          rcases hx with rfl | rfl
          · exact ⟨by omega, fun x hx => hdF x hx⟩
          · exact ⟨by omega, fun x hx => hdE x hx⟩
        · unfold alT sideA
          simp only [qTup, tupOf, Bool.true_and, sideLen, hlF, hlE, decide_true, if_true, show ¬ ((1 : Int) = 0) by decide, if_false]
          rw [← hlF, ← hlE]
          rw [Bool.and_eq_true]
          exact ⟨zip_all (F := fun j d => toldA (alT T A B r) T A B ps 0 j d) htF, zip_all (F := fun j d => toldA (alT T A B r) T A B ps 1 j d) htE⟩
end
end Mini
end

section
set_option Elab.async false
set_option linter.all false
set_option maxRecDepth 100000
set_option maxHeartbeats 4000000
namespace Mini
open PySem PySem.Spec PyProof.Rows L2
/-! k84: _law_apart, _law_paper. -/
section
variable {G : Gl} {k : Nat} {S : Sto} {d x : D} {Q : D → Sto → Prop} {t : Int} {T : List Int} {P A B : List (List Int)} {o L : Nat}
theorem wp_anyBl {bs : List Bool} (q : Q (.bl (bs.any id)) S) : wp (cAnyN (bs.map D.bl) S) Q := by
  unfold cAnyN
  rw [asBls_map]; exact q
theorem apT_s0 (V : Envi G t T A B) {r : Nat} {ps : List (Nat × Nat)} (hp : InP A B ps) (ht : alk T A B 0 ps = true) {x : Nat} (hx : x < A.length) {trees : List D} (hl : trees.length = B.length) (h : ∀ j (hj : j < trees.length), lapV T A B r (ps ++ [(x, j)]) trees[j] = true) : apT T A B (r + 1) ps (.tup [.int 0, .int x, .tup trees]) = true := by
  have hs : isBel 2 (.int 0) = true := by simp [isBel]
  have hx' : isBel A.length (.int x) = true := by simp [isBel, hx]
  have el : ((List.range B.length).map fun i => (x, i)).length = B.length := by simp
  simp only [apT, hs, numOf, qTup, tupOf, Bool.true_and, Bool.and_true, sideLen, repl, if_true, hx', Int.toNat_natCast, el, hl, decide_true]
  rw [List.all_eq_true]
  intro p hp'
  obtain ⟨i, hi, rfl⟩ := List.mem_iff_getElem.mp hp'
  simp at hi
  have := h i (by omega)
  rw [lapV_snoc V hp ⟨hx, by show i < _; omega⟩ ht] at this
  simpa using this
theorem apT_s1 (V : Envi G t T A B) {r : Nat} {ps : List (Nat × Nat)} (hp : InP A B ps) (ht : alk T A B 0 ps = true) {x : Nat} (hx : x < B.length) {trees : List D} (hl : trees.length = A.length) (h : ∀ j (hj : j < trees.length), lapV T A B r (ps ++ [(j, x)]) trees[j] = true) : apT T A B (r + 1) ps (.tup [.int 1, .int x, .tup trees]) = true := by
  have hs : isBel 2 (.int 1) = true := by simp [isBel]
  have hx' : isBel B.length (.int x) = true := by simp [isBel, hx]
  have el : ((List.range A.length).map fun i => (i, x)).length = A.length := by simp
  simp only [apT, hs, numOf, qTup, tupOf, Bool.true_and, Bool.and_true, sideLen, repl, show ¬ ((1 : Int) = 0) by decide, if_false, hx', Int.toNat_natCast, el, hl, decide_true]
  rw [List.all_eq_true]
  intro p hp'
  obtain ⟨i, hi, rfl⟩ := List.mem_iff_getElem.mp hp'
  simp at hi
  have := h i (by omega)
  rw [lapV_snoc V hp ⟨by show i < _; omega, hx⟩ ht] at this
  simpa using this
/-- p has no answer -/
noncomputable def b0 (T : List Int) (A B : List (List Int)) (r : Nat) (ps : List (Nat × Nat)) (p : Nat) : Bool := !((List.range B.length).map fun q => alk T A B r (ps ++ [(p, q)])).any id
noncomputable def b1 (T : List Int) (A B : List (List Int)) (r : Nat) (ps : List (Nat × Nat)) (q : Nat) : Bool := !((List.range A.length).map fun p => alk T A B r (ps ++ [(p, q)])).any id
theorem b0_no {r : Nat} {ps : List (Nat × Nat)} {p : Nat} (h : b0 T A B r ps p = true) : ∀ q < B.length, alk T A B r (ps ++ [(p, q)]) = false := by
  intro q hq
  unfold b0 at h
  simp at h
  exact h q hq
theorem b1_no {r : Nat} {ps : List (Nat × Nat)} {q : Nat} (h : b1 T A B r ps q = true) : ∀ p < A.length, alk T A B r (ps ++ [(p, q)]) = false := by
  intro p hq
  unfold b1 at h
  simp at h
  exact h p hq
noncomputable def gd0 (T : List Int) (A B : List (List Int)) (r : Nat) (ps : List (Nat × Nat)) (i : Nat) : List D := ((List.range i).filter (b0 T A B r ps)).map fun (p : Nat) => D.tup [.int 0, .int p]
noncomputable def gd1 (T : List Int) (A B : List (List Int)) (r : Nat) (ps : List (Nat × Nat)) (i : Nat) : List D := ((List.range i).filter (b1 T A B r ps)).map fun (p : Nat) => D.tup [.int 1, .int p]
theorem gd0_succ {r ps i} : gd0 T A B r ps (i + 1) = gd0 T A B r ps i ++ (if b0 T A B r ps i = true then [.tup [.int 0, .int i]] else []) := by
  unfold gd0
  rw [filt_succ, List.map_append]
  split <;> rfl
theorem gd1_succ {r ps i} : gd1 T A B r ps (i + 1) = gd1 T A B r ps i ++ (if b1 T A B r ps i = true then [.tup [.int 1, .int i]] else []) := by
  unfold gd1
  rw [filt_succ, List.map_append]
  split <;> rfl
theorem gd0_le {r ps i} : (gd0 T A B r ps i).length ≤ i := by
  unfold gd0
  rw [List.length_map]
  exact filt_le
theorem gd1_le {r ps i} : (gd1 T A B r ps i).length ≤ i := by
  unfold gd1
  rw [List.length_map]
  exact filt_le
theorem gd_ne (V : Envi G t T A B) {r : Nat} {ps : List (Nat × Nat)} (hl : ps.length + r + 1 ≤ 5) (h : alk T A B (r + 1) ps = false) : 1 ≤ (gd0 T A B r ps A.length ++ gd1 T A B r ps B.length).length := by
  rw [List.length_append]
  apply Classical.byContradiction
  intro hn
  have e0 : (gd0 T A B r ps A.length).length = 0 := by omega
  have e1 : (gd1 T A B r ps B.length).length = 0 := by omega
  have : alk T A B (r + 1) ps = true := by
    refine (alk_succ V hl).mpr ⟨fun p hp => ?_, fun q hq => ?_⟩
    · have hb : b0 T A B r ps p = false := by
        cases hb : b0 T A B r ps p with
        | false => rfl
        | true =>
          have := filt_ne hp hb
          unfold gd0 at e0
          rw [List.length_map] at e0
          omega
      unfold b0 at hb
      simpa using hb
    · have hb : b1 T A B r ps q = false := by
        cases hb : b1 T A B r ps q with
        | false => rfl
        | true =>
          have := filt_ne hq hb
          unfold gd1 at e1
          rw [List.length_map] at e1
          omega
      unfold b1 at hb
      simpa using hb
  rw [h] at this
  cases this
theorem gd_at {r : Nat} {ps : List (Nat × Nat)} {E : D} (h : E ∈ gd0 T A B r ps A.length ++ gd1 T A B r ps B.length) : (∃ x : Nat, E = .tup [.int 0, .int x] ∧ x < A.length ∧ ∀ q < B.length, alk T A B r (ps ++ [(x, q)]) = false) ∨ (∃ x : Nat, E = .tup [.int 1, .int x] ∧ x < B.length ∧ ∀ p < A.length, alk T A B r (ps ++ [(p, x)]) = false) := by
  rcases List.mem_append.mp h with h | h
  · obtain ⟨x, hx, rfl⟩ := List.mem_map.mp h
    rw [List.mem_filter] at hx
    exact .inl ⟨x, rfl, by simpa using hx.1, b0_no hx.2⟩
  · obtain ⟨x, hx, rfl⟩ := List.mem_map.mp h
    rw [List.mem_filter] at hx
    exact .inr ⟨x, rfl, by simpa using hx.1, b1_no hx.2⟩
theorem pre_src {S' : Sto} (h : SrcAt S o) (p : S <+: S') : SrcAt S' o := by
  obtain ⟨Z, rfl⟩ := p
  exact h.app
theorem f_lapart (V : Envi G t T A B) (hA : A.length ≤ 5) (hB : B.length ≤ 5) : ∀ (r L : Nat) (S : Sto) (ps : List (Nat × Nat)) (Q : D → Sto → Prop), r + 5 ≤ L → SrcAt S o → InP A B ps → ps.length + r ≤ 4 → r ≤ 3 → alk T A B r ps = false →
    (∀ U d, Kp o S U → SrcAt U o → Tr 5 (3 * r + 1) d → lapV T A B r ps d = true → Q d U) → wp (cf G L 26 [.obj o, dI T, dP A, dP B, dQ (ps.map (·.1)), dQ (ps.map (·.2)), .int r] S) Q := by
  intro r
  induction r with
  | zero =>
    intro L S ps Q hL hs hp hl hr ha q
    obtain ⟨L, rfl⟩ : ∃ k, L = k + 1 := ⟨L - 1, by omega⟩
    refine wp_cf rfl [some (.obj o), some (dI T), some (dP A), some (dP B), some (dQ (ps.map (·.1))), some (dQ (ps.map (·.2))), some (.int (0 : Nat)), none, none, none, none, none, none] rfl rfl ?_
    simp [d_l_law_apart, ws_asg]
    refine f_las_told' V (by omega) hp (by omega) fun U hU => ?_
    rw [ha]
    simp [lim]
    refine q U (.tup []) (Kp.of hU) (pre_src hs hU) ⟨by simp, by simp⟩ ?_
    simp [lapV, ha, isEmp]
  | succ r ih =>
    intro L S ps Q hL hs hp hl hr ha q
    obtain ⟨L, rfl⟩ : ∃ k, L = k + 1 := ⟨L - 1, by omega⟩
    refine wp_cf rfl [some (.obj o), some (dI T), some (dP A), some (dP B), some (dQ (ps.map (·.1))), some (dQ (ps.map (·.2))), some (.int ((r : Int) + 1)), none, none, none, none, none, none] rfl rfl ?_
    simp [d_l_law_apart, ws_asg]
    refine f_las_told' V (by omega) hp (by omega) fun S0 hS0 => ?_
    have hs0 := pre_src hs hS0
    cases ht : alk T A B 0 ps with
    | false =>
      simp [lim]
      refine q S0 (.tup []) (Kp.of hS0) hs0 ⟨by simp, by simp⟩ ?_
      simp [lapV, ht, isEmp]
    | true =>
      have q1 : ∀ U d, Kp o S0 U → SrcAt U o → Tr 5 (3 * (r + 1) + 1) d → apT T A B (r + 1) ps d = true → Q d U := fun U d a b c e => q U d ((Kp.of hS0).trans a) b c (by simp [lapV, ht, e])
      clear q hs hS0
      have hlt := hs0.lt
      simp [gVar]
      refine ⟨_, rfl, by simp; omega, ?_⟩
      refine ws_loop ((List.range A.length).map fun (i : Nat) => D.int i) (fun i e S' => ∃ y z, e = [some (.obj o), some (dI T), some (dP A), some (dP B), some (dQ (ps.map (·.1))), some (dQ (ps.map (·.2))), some (.int ((r : Int) + 1)), some (.obj S0.length), y, z, none, none, none] ∧ S'[S0.length]? = some (.lst (gd0 T A B r ps i)) ∧ Kp o S0 S' ∧ SrcAt S' o) (by simp [lim]; omega)
        ⟨none, none, rfl, by simp [gd0], Kp.of (List.prefix_append _ _), hs0.app⟩ (fun i e S' ⟨y, z, he, hF, kp, hs'⟩ hi => ?_) (fun e S' ⟨y, z, he, hF, kp, hs'⟩ => ?_)
      · subst he
        simp at hi
        refine ⟨by simp [dP, it_rng, hi], _, rfl, ?_⟩
        simp [hi]
        refine ⟨_, rfl, by simp; omega, ?_⟩
        refine wp_comp ((List.range B.length).map fun (j : Nat) => D.int j) (fun j acc S1 => S' <+: S1 ∧ acc = ((List.range j).map fun q => alk T A B r (ps ++ [(i, q)])).map D.bl) (by simp [lim]; omega) ⟨List.prefix_refl _, rfl⟩ (fun j acc S1 ⟨h1, h2⟩ hj haj => ?_) (fun acc S1 ⟨h1, h2⟩ => ?_)
        · subst h2
          simp at hj
          refine ⟨by simp [it_rng, hj], _, rfl, ?_⟩
          simp [hj, wipeE, bTrue]
          refine ⟨by simp [lim], ?_⟩
          refine opAdd_dQ (by simp [lim]; omega) ?_
          refine ⟨by simp [lim], ?_⟩
          refine opAdd_dQ (by simp [lim]; omega) ?_
          have g1 : ps.map (·.1) ++ [i] = (ps ++ [(i, j)]).map (·.1) := by simp
          have g2 : ps.map (·.2) ++ [j] = (ps ++ [(i, j)]).map (·.2) := by simp
          rw [g1, g2]
          refine f_lalike' V (by omega) (by omega) (hp.snoc ⟨hi, hj⟩) (by simp; omega) fun U hU => ?_
          refine ⟨h1.trans hU, ?_⟩
          simp [List.range_succ]
        · subst h2
          simp only [List.length_map, List.length_range]
          refine ⟨by simp [it_rng], ?_⟩
          refine wp_anyBl ?_
          have hF1 := get_pre hF h1
          have hl1 := (List.getElem?_eq_some_iff.mp hF1).1
          have hgl := gd0_le (T := T) (A := A) (B := B) (r := r) (ps := ps) (i := i)
          have eb : b0 T A B r ps i = !((List.range B.length).map fun q => alk T A B r (ps ++ [(i, q)])).any id := rfl
          cases hb : ((List.range B.length).map fun q => alk T A B r (ps ++ [(i, q)])).any id with
          | true =>
            rw [hb] at eb
            refine .inr ⟨rfl, ?_⟩
            refine ⟨?_, kp.trans (Kp.of h1), pre_src hs' h1⟩
            rw [gd0_succ, eb]
            simpa using hF1
          | false =>
            rw [hb] at eb
            refine .inl ⟨rfl, ?_⟩
            refine wp_app1 (R := S0.length) (by simp) (by simp [isLst, hF1]) ?_
            simp
            refine ⟨by simp [lim], _, hF1, by simp [lim]; omega, ?_⟩
            refine ⟨?_, (kp.trans (Kp.of h1)).put (Nat.le_refl _), (pre_src hs' h1).put hlt⟩
            rw [gd0_succ, eb]
            simp [hl1]
      · subst he
        simp at hF
        refine ⟨by simp [dP, it_rng], ?_⟩
        simp
        refine ⟨_, rfl, by simp; omega, ?_⟩
        refine ws_loop ((List.range B.length).map fun (i : Nat) => D.int i) (fun i e S' => ∃ y z, e = [some (.obj o), some (dI T), some (dP A), some (dP B), some (dQ (ps.map (·.1))), some (dQ (ps.map (·.2))), some (.int ((r : Int) + 1)), some (.obj S0.length), y, z, none, none, none] ∧ S'[S0.length]? = some (.lst (gd0 T A B r ps A.length ++ gd1 T A B r ps i)) ∧ Kp o S0 S' ∧ SrcAt S' o) (by simp [lim]; omega)
          ⟨_, _, rfl, by simpa [gd1] using hF, kp, hs'⟩ (fun i e S' ⟨y, z, he, hF, kp, hs'⟩ hi => ?_) (fun e S' ⟨y, z, he, hF, kp, hs'⟩ => ?_)
        · subst he
          simp at hi
          refine ⟨by simp [dP, it_rng, hi], _, rfl, ?_⟩
          simp [hi]
          refine ⟨_, rfl, by simp; omega, ?_⟩
          refine wp_comp ((List.range A.length).map fun (j : Nat) => D.int j) (fun j acc S1 => S' <+: S1 ∧ acc = ((List.range j).map fun p => alk T A B r (ps ++ [(p, i)])).map D.bl) (by simp [lim]; omega) ⟨List.prefix_refl _, rfl⟩ (fun j acc S1 ⟨h1, h2⟩ hj haj => ?_) (fun acc S1 ⟨h1, h2⟩ => ?_)
          · subst h2
            simp at hj
            refine ⟨by simp [it_rng, hj], _, rfl, ?_⟩
            simp [hj, wipeE, bTrue]
            refine ⟨by simp [lim], ?_⟩
            refine opAdd_dQ (by simp [lim]; omega) ?_
            refine ⟨by simp [lim], ?_⟩
            refine opAdd_dQ (by simp [lim]; omega) ?_
            have g1 : ps.map (·.1) ++ [j] = (ps ++ [(j, i)]).map (·.1) := by simp
            have g2 : ps.map (·.2) ++ [i] = (ps ++ [(j, i)]).map (·.2) := by simp
            rw [g1, g2]
            refine f_lalike' V (by omega) (by omega) (hp.snoc ⟨hj, hi⟩) (by simp; omega) fun U hU => ?_
            refine ⟨h1.trans hU, ?_⟩
            simp [List.range_succ]
          · subst h2
            simp only [List.length_map, List.length_range]
            refine ⟨by simp [it_rng], ?_⟩
            refine wp_anyBl ?_
            have hF1 := get_pre hF h1
            have hl1 := (List.getElem?_eq_some_iff.mp hF1).1
            have hgl := gd0_le (T := T) (A := A) (B := B) (r := r) (ps := ps) (i := A.length)
            have hgl1 := gd1_le (T := T) (A := A) (B := B) (r := r) (ps := ps) (i := i)
            have eb : b1 T A B r ps i = !((List.range A.length).map fun p => alk T A B r (ps ++ [(p, i)])).any id := rfl
            cases hb : ((List.range A.length).map fun p => alk T A B r (ps ++ [(p, i)])).any id with
            | true =>
              rw [hb] at eb
              refine .inr ⟨rfl, ?_⟩
              refine ⟨?_, kp.trans (Kp.of h1), pre_src hs' h1⟩
              rw [gd1_succ, eb]
              simpa using hF1
            | false =>
              rw [hb] at eb
              refine .inl ⟨rfl, ?_⟩
              refine wp_app1 (R := S0.length) (by simp) (by simp [isLst, hF1]) ?_
              simp
              refine ⟨by simp [lim], _, hF1, by simp [lim]; omega, ?_⟩
              refine ⟨?_, (kp.trans (Kp.of h1)).put (Nat.le_refl _), (pre_src hs' h1).put hlt⟩
              rw [gd1_succ, eb]
              simp [hl1]
        · subst he
          simp at hF
          refine ⟨by simp [dP, it_rng], ?_⟩
          simp
          have hne := gd_ne V (by omega) ha
          have hat := fun E h => gd_at (T := T) (A := A) (B := B) (r := r) (ps := ps) (E := E) h
          have hgl := gd0_le (T := T) (A := A) (B := B) (r := r) (ps := ps) (i := A.length)
          have hgl1 := gd1_le (T := T) (A := A) (B := B) (r := r) (ps := ps) (i := B.length)
          have hle : (gd0 T A B r ps A.length ++ gd1 T A B r ps B.length).length ≤ 10 := by rw [List.length_append]; omega
          generalize gd0 T A B r ps A.length ++ gd1 T A B r ps B.length = gd at *
          refine ⟨gd, by simp [seqOf, lstOf, hF], ?_⟩
          refine f_draw' hs' (by omega) (by omega) (by omega) fun U v ku su hv => ?_
          have hlS := (List.getElem?_eq_some_iff.mp hF).1
          have hF2 : U[S0.length]? = some (.lst gd) := ku.at hF (by omega)
          have hlU := (List.getElem?_eq_some_iff.mp hF2).1
          have hvl : v < gd.length := by omega
          refine ixW (i := v) (xs := gd) (by simp [seqOf, lstOf, hF2]) hvl ?_
          have kU := kp.trans ku
          have hltU := su.lt
          rcases hat gd[v] (List.getElem_mem hvl) with ⟨x, e, hx, hno⟩ | ⟨x, e, hx, hno⟩
          · rw [e]
            simp [gTupD, gAll, gVar]
            refine ⟨_, rfl, by simp; omega, ?_⟩
            refine ws_loop ((List.range B.length).map fun (i : Nat) => D.int i) (fun i e S' => ∃ y z F, e = [some (.obj o), some (dI T), some (dP A), some (dP B), some (dQ (ps.map (·.1))), some (dQ (ps.map (·.2))), some (.int ((r : Int) + 1)), some (.obj S0.length), y, z, some (.obj U.length), some (.int 0), some (.int x)] ∧ S'[U.length]? = some (.lst F) ∧ Kp o S0 S' ∧ SrcAt S' o ∧ F.length = i ∧ (∀ j (hj : j < F.length), lapV T A B r (ps ++ [(x, j)]) F[j] = true) ∧ ∀ x ∈ F, Tr 5 (3 * r + 1) x) (by simp [lim]; omega)
              ⟨_, _, [], rfl, by simp, kU.trans (Kp.of (List.prefix_append _ _)), su.app, rfl, by simp, by simp⟩ (fun i e S' ⟨y, z, F, he, hF, kp, hs', hlF, htF, hdF⟩ hi => ?_) (fun e S' ⟨y, z, F, he, hF, kp, hs', hlF, htF, hdF⟩ => ?_)
            · subst he
              simp at hi
              refine ⟨by simp [dP, it_rng, hi], _, rfl, ?_⟩
              simp [hi]
              refine wp_app1 (R := U.length) (by simp) (by simp [isLst, hF]) ?_
              simp
              refine ⟨by simp [lim], ?_⟩
              refine opAdd_dQ (by simp [lim]; omega) ?_
              refine ⟨by simp [lim], ?_⟩
              refine opAdd_dQ (by simp [lim]; omega) ?_
              have g1 : ps.map (·.1) ++ [x] = (ps ++ [(x, i)]).map (·.1) := by simp
              have g2 : ps.map (·.2) ++ [i] = (ps ++ [(x, i)]).map (·.2) := by simp
              rw [g1, g2]
              refine ih L S' (ps ++ [(x, i)]) _ (by omega) hs' (hp.snoc ⟨hx, hi⟩) (by simp; omega) (by omega) (hno i hi) fun U2 tr k2 s2 htr hat => ?_
              have hF2 : U2[U.length]? = some (.lst F) := k2.at hF (by omega)
              have hlen2 := (List.getElem?_eq_some_iff.mp hF2).1
              refine ⟨_, hF2, by simp [lim]; omega, F ++ [tr], ?_⟩
              refine ⟨by simp [hlen2], (kp.trans k2).put kU.len, s2.put hltU, by simp [hlF], ?_, ?_⟩
              · intro j hj
                by_cases hjl : j < F.length
                · rw [List.getElem_append_left hjl]; exact htF j hjl
                · simp at hj
                  have : j = F.length := by omega
                  subst this
                  simp
                  rw [hlF]; exact hat
              · intro y hy
                rcases List.mem_append.mp hy with hy | hy
                · exact hdF y hy
                · simp at hy
                  subst hy
                  exact htr
            · subst he
              simp at hlF
              refine ⟨by simp [dP, it_rng], ?_⟩
              simp
              unfold cTup
              simp [seqOf, lstOf, hF]
              refine ⟨by simp [lim], q1 S' _ kp hs' ?_ (apT_s0 V hp ht hx hlF htF)⟩
              refine ⟨by simp, fun y hy => ?_⟩
              simp at hy
              rcases hy with rfl | rfl | rfl
              · trivial
              · trivial
              · exact ⟨by omega, fun y hy => (hdF y hy).up (show 3 * r + 1 ≤ 3 * r + 2 by omega)⟩
          · rw [e]
            simp [gTupD, gAll, gVar]
            refine ⟨_, rfl, by simp; omega, ?_⟩
            refine ws_loop ((List.range A.length).map fun (i : Nat) => D.int i) (fun i e S' => ∃ y z F, e = [some (.obj o), some (dI T), some (dP A), some (dP B), some (dQ (ps.map (·.1))), some (dQ (ps.map (·.2))), some (.int ((r : Int) + 1)), some (.obj S0.length), y, z, some (.obj U.length), some (.int 1), some (.int x)] ∧ S'[U.length]? = some (.lst F) ∧ Kp o S0 S' ∧ SrcAt S' o ∧ F.length = i ∧ (∀ j (hj : j < F.length), lapV T A B r (ps ++ [(j, x)]) F[j] = true) ∧ ∀ x ∈ F, Tr 5 (3 * r + 1) x) (by simp [lim]; omega)
              ⟨_, _, [], rfl, by simp, kU.trans (Kp.of (List.prefix_append _ _)), su.app, rfl, by simp, by simp⟩ (fun i e S' ⟨y, z, F, he, hF, kp, hs', hlF, htF, hdF⟩ hi => ?_) (fun e S' ⟨y, z, F, he, hF, kp, hs', hlF, htF, hdF⟩ => ?_)
            · subst he
              simp at hi
              refine ⟨by simp [dP, it_rng, hi], _, rfl, ?_⟩
              simp [hi]
              refine wp_app1 (R := U.length) (by simp) (by simp [isLst, hF]) ?_
              simp
              refine ⟨by simp [lim], ?_⟩
              refine opAdd_dQ (by simp [lim]; omega) ?_
              refine ⟨by simp [lim], ?_⟩
              refine opAdd_dQ (by simp [lim]; omega) ?_
              have g1 : ps.map (·.1) ++ [i] = (ps ++ [(i, x)]).map (·.1) := by simp
              have g2 : ps.map (·.2) ++ [x] = (ps ++ [(i, x)]).map (·.2) := by simp
              rw [g1, g2]
              refine ih L S' (ps ++ [(i, x)]) _ (by omega) hs' (hp.snoc ⟨hi, hx⟩) (by simp; omega) (by omega) (hno i hi) fun U2 tr k2 s2 htr hat => ?_
              have hF2 : U2[U.length]? = some (.lst F) := k2.at hF (by omega)
              have hlen2 := (List.getElem?_eq_some_iff.mp hF2).1
              refine ⟨_, hF2, by simp [lim]; omega, F ++ [tr], ?_⟩
              refine ⟨by simp [hlen2], (kp.trans k2).put kU.len, s2.put hltU, by simp [hlF], ?_, ?_⟩
              · intro j hj
                by_cases hjl : j < F.length
                · rw [List.getElem_append_left hjl]; exact htF j hjl
                · simp at hj
                  have : j = F.length := by omega
                  subst this
                  simp
                  rw [hlF]; exact hat
              · intro y hy
                rcases List.mem_append.mp hy with hy | hy
                · exact hdF y hy
                · simp at hy
                  subst hy
                  exact htr
            · subst he
              simp at hlF
              refine ⟨by simp [dP, it_rng], ?_⟩
              simp
              unfold cTup
              simp [seqOf, lstOf, hF]
              refine ⟨by simp [lim], q1 S' _ kp hs' ?_ (apT_s1 V hp ht hx hlF htF)⟩
              refine ⟨by simp, fun y hy => ?_⟩
              simp at hy
              rcases hy with rfl | rfl | rfl
              · trivial
              · trivial
              · exact ⟨by omega, fun y hy => (hdF y hy).up (show 3 * r + 1 ≤ 3 * r + 2 by omega)⟩
theorem f_lpaper (V : Envi G t T A B) (hA : A.length ≤ 5) (hB : B.length ≤ 5) {r : Nat} (hL : r + 6 ≤ L) (hr : r ≤ 3) (hs : SrcAt S o) (q : ∀ U (s : String) tr, Kp o S U → SrcAt U o → (s = "apart" ∨ s = "alike") → Tr 5 (3 * r + 1) tr → gpT T A B r (.tup [.str s, tr]) = true → Q (.tup [.str s, tr]) U) : wp (cf G L 27 [.obj o, dI T, dP A, dP B, .int r] S) Q := by
  obtain ⟨L, rfl⟩ : ∃ k, L = k + 1 := ⟨L - 1, by omega⟩
  refine wp_cf rfl [some (.obj o), some (dI T), some (dP A), some (dP B), some (.int r)] rfl rfl ?_
  have hnil : InP A B [] := by intro p hp; cases hp
  have e0 : D.tup [] = dQ (([] : List (Nat × Nat)).map (·.1)) := by simp [dQ_eq]
  simp [d_l_law_paper, lim]
  rw [e0]
  refine f_lalike' (ps := []) V (by omega) hr hnil (by simp; omega) fun U hU => ?_
  cases ha : alk T A B r [] with
  | true =>
    simp
    refine f_answers V hA hB r L U [] _ (by omega) (pre_src hs hU) hnil (by simp; omega) hr ha fun U2 tr k2 s2 htr hat => ?_
    refine q U2 "alike" tr ((Kp.of hU).trans k2) s2 (.inr rfl) htr ?_
    have h1 : ¬ (Str.ofString "alike" = ("apart" : Str)) := by decide +kernel
    simp only [gpT, if_neg h1, hat]
    simp
  | false =>
    simp
    refine f_lapart V hA hB r L U [] _ (by omega) (pre_src hs hU) hnil (by simp; omega) hr ha fun U2 tr k2 s2 htr hat => ?_
    refine q U2 "apart" tr ((Kp.of hU).trans k2) s2 (.inl rfl) htr ?_
    simp only [gpT, if_true]
    simpa [lapV, alk_nil] using hat
end
end Mini
end

section
set_option Elab.async false
set_option linter.all false
set_option maxRecDepth 100000
set_option maxHeartbeats 4000000
namespace Mini
open PySem PySem.Spec PyProof.Rows L2
/-! k84: _law_turn, _law_orders, _law_piece. -/
section
variable {G : Gl} {k : Nat} {S : Sto} {d x : D} {Q : D → Sto → Prop} {T : List Int} {P A B : List (List Int)} {o L : Nat} {e : Env'}
@[simp] theorem wp_opAddI {a b : Int} : wp (opAdd (.int a) (.int b) S) Q ↔ Q (.int (a + b)) S := Iff.rfl
theorem lst_set {R i : Nat} {xs : List D} {v : D} {Pr : Sto → Prop} (h : S[R]? = some (.lst xs)) (hi : i < xs.length) (q : Pr (S.set R (.lst (xs.set i v)))) : ∃ S', wLst (.obj R) (.int i) v S = some S' ∧ Pr S' :=
  src_set h (by unfold L2.ixN; simp [hi]) q
theorem seq_lst {R : Nat} {xs : List D} (h : S[R]? = some (.lst xs)) : seqOf S (.obj R) = some xs := by simp [seqOf, lstOf, h]
theorem cTup_W {R : Nat} {xs : List D} (h : S[R]? = some (.lst xs)) (q : Q (.tup xs) S) : wp (cTup [.obj R] S) Q := by
  unfold cTup
  simp only [seq_lst h]; exact q
/-! slices -/
theorem wp_slTo {f1 fj : FE} : wp (fSlT f1 oNone (oSome fj) e S) Q ↔ wp (f1 e S) fun d S1 => wp (fj e S1) fun j S2 => ∃ xs i, d = .tup xs ∧ j = .int i ∧ Q (.tup (cutG xs none (some i))) S2 := by
  unfold fSlT
  rw [wp_bnd]
  constructor <;> intro h <;> refine wp_imp h fun d S1 q => ?_
  · rw [wp_bnd] at q
    have q : wp (bnd (oSome fj e) (fun hi => match d with | .tup xs => ret (.tup (cutG xs none hi)) | _ => stuck) S1) Q := q
    unfold oSome at q
    rw [wp_bnd, wp_bnd] at q
    refine wp_imp q fun j S2 q => ?_
    cases j with
    | int i =>
      cases d with
      | tup xs => exact ⟨xs, i, rfl, rfl, q⟩
      | _ => exact (show False from q).elim
    | _ => exact (show False from q).elim
  · rw [wp_bnd]
    show wp (bnd (oSome fj e) (fun hi => match d with | .tup xs => ret (.tup (cutG xs none hi)) | _ => stuck) S1) Q
    unfold oSome
    rw [wp_bnd, wp_bnd]
    refine wp_imp q fun j S2 q => ?_
    obtain ⟨xs, i, rfl, rfl, q⟩ := q
    exact q
theorem wp_slFrom {f1 fj : FE} : wp (fSlT f1 (oSome fj) oNone e S) Q ↔ wp (f1 e S) fun d S1 => wp (fj e S1) fun j S2 => ∃ xs i, d = .tup xs ∧ j = .int i ∧ Q (.tup (cutG xs (some i) none)) S2 := by
  unfold fSlT
  rw [wp_bnd]
  constructor <;> intro h <;> refine wp_imp h fun d S1 q => ?_
  · unfold oSome at q
    rw [wp_bnd, wp_bnd] at q
    refine wp_imp q fun j S2 q => ?_
    cases j with
    | int i =>
      cases d with
      | tup xs => exact ⟨xs, i, rfl, rfl, q⟩
      | _ => exact (show False from q).elim
    | _ => exact (show False from q).elim
  · unfold oSome
    rw [wp_bnd, wp_bnd]
    refine wp_imp q fun j S2 q => ?_
    obtain ⟨xs, i, rfl, rfl, q⟩ := q
    exact q
theorem cut_to {α : Type} {xs : List α} {i : Nat} (h : i ≤ xs.length) : cutG xs none (some (i : Int)) = xs.take i := by
  unfold cutG
  rw [HT.sIx_none, HT.sIx_nat]
  simp [Nat.min_eq_left h]
theorem cut_from {α : Type} {xs : List α} {i : Nat} (h : i ≤ xs.length) : cutG xs (some (i : Int)) none = xs.drop i := by
  unfold cutG
  rw [HT.sIx_none, HT.sIx_nat, Nat.min_eq_left h]
  exact List.take_of_length_le (by simp)
theorem cut_to_neg {α : Type} {xs : List α} : cutG xs none (some (-1)) = xs.take (xs.length - 1) := by
  unfold cutG HT.sIx
  simp
  congr 1
  omega
theorem cut_from_neg {α : Type} {xs : List α} : cutG xs (some (-1)) none = xs.drop (xs.length - 1) := by
  unfold cutG HT.sIx
  simp
  have e : ((-1 : Int) + (xs.length : Int)).toNat = xs.length - 1 := by omega
  rw [e]
  exact List.take_of_length_le (by simp)
/-! ### _law_turn -/
def Inv (X : List Int) : Prop := ∀ i (h : i < X.length), X[X[i].toNat]? = some (i : Int)
theorem inv_swap {X : List Int} {a b : Nat} (hX : Inv X) (low : ∀ x ∈ X, 0 ≤ x) (ha : a < X.length) (hb : b < X.length) (ea : X[a] = (a : Int)) (eb : X[b] = (b : Int)) : Inv ((X.set a b).set b a) := by
  intro i hi
  simp only [List.length_set] at hi
  by_cases hib : i = b
  · subst hib
    have e1 : ((X.set a (i : Int)).set i (a : Int))[i]'(by simpa using hi) = a := by simp
    rw [e1]
    by_cases hab : a = i
    · subst hab
      simp only [Int.toNat_natCast]
      rw [List.getElem?_set_self (by simpa using hi)]
    · rw [Int.toNat_natCast, List.getElem?_set_ne (by omega)]
      simp [ha]
  · by_cases hia : i = a
    · subst hia
      have e1 : ((X.set i (b : Int)).set b (i : Int))[i]'(by simpa using hi) = b := by
        rw [List.getElem_set_ne (by omega)]; simp
      rw [e1]
      simp [hb]
    · have e1 : ((X.set a (b : Int)).set b (a : Int))[i]'(by simpa using hi) = X[i] := by
        rw [List.getElem_set_ne (by omega), List.getElem_set_ne (by omega)]
      rw [e1]
      have h1 := hX i hi
      have l1 := low X[i] (List.getElem_mem hi)
      have na : X[i].toNat ≠ a := by
        intro h
        rw [h] at h1
        rw [List.getElem?_eq_getElem ha, ea] at h1
        simp at h1; omega
      have nb : X[i].toNat ≠ b := by
        intro h
        rw [h] at h1
        rw [List.getElem?_eq_getElem hb, eb] at h1
        simp at h1; omega
      rw [List.getElem?_set_ne (by omega), List.getElem?_set_ne (by omega)]
      exact h1
theorem f_lturn (h : SrcAt S o) {ti : Int} {t : Nat} (hL : 2 ≤ L) (et : ti = t) (ht : 1 ≤ t) (ht2 : t ≤ 16) (q : ∀ U T, Kp o S U → SrcAt U o → Turn t T → Q (dI T) U) : wp (cf G L 2 [.obj o, .int ti] S) Q := by
  obtain ⟨L, rfl⟩ : ∃ k, L = k + 1 := ⟨L - 1, by omega⟩
  refine wp_cf rfl [some (.obj o), some (.int ti), none, none, none] rfl rfl ?_
  subst et
  have hlt := h.lt
  simp [d_l_law_turn]
  refine ⟨by omega, ?_⟩
  refine wp_comp ((List.range t).map fun (i : Nat) => D.int i) (fun i acc S' => S' = S ∧ acc = (List.range i).map fun (i : Nat) => D.int i) (by simp [lim]; omega) ⟨rfl, rfl⟩ (fun i acc S' ⟨h1, h2⟩ hi ha => ?_) (fun acc S' ⟨h1, h2⟩ => ?_)
  · subst h1 h2
    simp at hi
    refine ⟨by simp [it_rng, hi], _, rfl, ?_⟩
    simp [hi, bTrue, wipeE, List.range_succ]
  · subst h1 h2
    refine ⟨by simp [it_rng], ?_⟩
    simp
    refine ⟨by omega, ?_⟩
    have inv0 : Inv ((List.range t).map fun (i : Nat) => (i : Int)) := by
      intro i hi
      simp at hi
      simp [hi]
    refine ws_loop ((List.range t).map fun (i : Nat) => D.int i) (fun i e S2 => ∃ (y z : Option D) (X : List Int), e = [some (.obj o), some (.int t), some (.obj S'.length), y, z] ∧ S2[S'.length]? = some (.lst (X.map D.int)) ∧ Kp o S' S2 ∧ SrcAt S2 o ∧ X.length = t ∧ (∀ x ∈ X, 0 ≤ x ∧ x < (t : Int)) ∧ Inv X) (by simp [lim]; omega)
      ⟨none, none, (List.range t).map fun (i : Nat) => (i : Int), rfl, by simp, Kp.of (List.prefix_append _ _), h.app, by simp, by simp, inv0⟩ (fun i e S2 ⟨y, z, X, he, hX, kp, hs, hl, low, inv⟩ hi => ?_) (fun e S2 ⟨y, z, X, he, hX, kp, hs, hl, low, inv⟩ => ?_)
    · subst he
      simp at hi
      refine ⟨by simp [it_rng, hi], _, rfl, ?_⟩
      simp [hi]
      refine f_draw' hs (by omega) (by omega) (by omega) fun U v ku su hv => ?_
      have hXU := ku.at hX (by omega)
      have hsl := (List.getElem?_eq_some_iff.mp hXU).1
      have il : i < X.length := by omega
      have vl : i + v < X.length := by omega
      have ev : (i : Int) + (v : Int) = ((i + v : Nat) : Int) := by omega
      rw [wp_opAddI, ev]
      generalize i + v = b at *
      refine ixW (i := i) (xs := X.map D.int) (seq_lst hXU) (by simpa using il) ?_
      simp
      have keep : ∃ (X' : List Int), (X' = X) ∧ Kp o S' U := ⟨X, rfl, kp.trans ku⟩
      by_cases e1 : X[i] = (i : Int)
      · refine .inr ⟨e1, ?_⟩
        refine ixW (i := b) (xs := X.map D.int) (seq_lst hXU) (by simpa using vl) ?_
        simp
        by_cases e2 : X[b] = (b : Int)
        · refine .inr ⟨e2, ?_⟩
          refine lst_set hXU (by simpa using il) ?_
          refine lst_set (xs := (X.map D.int).set i (.int b)) (by simp [hsl]) (by simpa using vl) ?_
          refine ⟨(X.set i b).set b i, by simp [hsl, List.map_set], ?_⟩
          refine ⟨((kp.trans ku).put (Nat.le_refl _)).put (Nat.le_refl _), (su.put hlt).put hlt, by simp [hl], ?_, inv_swap inv (fun x hx => (low x hx).1) il vl e1 e2⟩
          intro x hx
          rcases List.mem_or_eq_of_mem_set hx with hx | hx
          · rcases List.mem_or_eq_of_mem_set hx with hx | hx
            · exact low x hx
            · omega
          · omega
        · refine .inl ⟨e2, ?_⟩
          exact ⟨X, hXU, kp.trans ku, su, hl, low, inv⟩
      · refine .inl ⟨e1, ?_⟩
        exact ⟨X, hXU, kp.trans ku, su, hl, low, inv⟩
    · subst he
      refine ⟨by simp [it_rng], ?_⟩
      simp
      refine cTup_W hX ?_
      exact q S2 X kp hs ⟨by omega, by omega, by omega, low, inv⟩
/-! ### _law_orders -/
structure Ord (k : Nat) (l : List Nat) : Prop where
  len : l.length = k
  low : ∀ x ∈ l, x < k
  nd : l.Nodup
theorem Ord.ins {k : Nat} {l : List Nat} (h : Ord k l) {i : Nat} : Ord (k + 1) (l.take i ++ [k] ++ l.drop i) := by
  have p : (l.take i ++ [k] ++ l.drop i).Perm (k :: l) := by
    have : (l.take i ++ [k] ++ l.drop i).Perm (k :: (l.take i ++ l.drop i)) := by
      rw [List.append_assoc]
      exact List.perm_middle
    rwa [List.take_append_drop] at this
  refine ⟨by rw [p.length_eq]; simp [h.len], fun x hx => ?_, p.nodup_iff.mpr ?_⟩
  · rcases List.mem_cons.mp (p.mem_iff.mp hx) with rfl | hx
    · omega
    · have := h.low x hx; omega
  · refine List.nodup_cons.mpr ⟨fun hk => ?_, h.nd⟩
    have := h.low k hk; omega
theorem pow5_le {i : Nat} (h : i ≤ 5) : 5 ^ i ≤ 3125 := by
  have : 5 ^ i ≤ 5 ^ 5 := Nat.pow_le_pow_right (by decide) h
  exact this
theorem f_orders (h : SrcAt S o) {mi : Int} {m : Nat} (hL : 1 ≤ L) (em : mi = m) (hm : m ≤ 5) (q : ∀ U R (xs : List (List Nat)), Kp o S U → SrcAt U o → U[R]? = some (.lst (xs.map dQ)) → 1 ≤ xs.length → xs.length ≤ 3125 → (∀ x ∈ xs, Ord m x) → Q (.obj R) U) : wp (cf G L 18 [.int mi] S) Q := by
  obtain ⟨L, rfl⟩ : ∃ k, L = k + 1 := ⟨L - 1, by omega⟩
  refine wp_cf rfl [some (.int mi), none, none, none, none, none] rfl rfl ?_
  subst em
  have hlt := h.lt
  simp [d_l_law_orders, lim]
  refine ⟨by omega, ?_⟩
  refine ws_loop ((List.range m).map fun (i : Nat) => D.int i) (fun i e S' => ∃ (R : Nat) (xs : List (List Nat)) (y z u v : Option D), e = [some (.int m), some (.obj R), y, z, u, v] ∧ S'[R]? = some (.lst (xs.map dQ)) ∧ S.length ≤ R ∧ Kp o S S' ∧ SrcAt S' o ∧ 1 ≤ xs.length ∧ xs.length ≤ 5 ^ i ∧ ∀ x ∈ xs, Ord i x) (by simp [lim]; omega)
    ⟨S.length, [[]], none, none, none, none, rfl, by simp [dQ_eq], Nat.le_refl _, Kp.of (List.prefix_append _ _), h.app, by simp, by simp, by simp; exact ⟨rfl, by simp, by simp⟩⟩ (fun i e S' ⟨R, xs, y, z, u, v, he, hX, hR, kp, hs, h1, h5, ho⟩ hi => ?_) (fun e S' ⟨R, xs, y, z, u, v, he, hX, hR, kp, hs, h1, h5, ho⟩ => ?_)
  · subst he
    simp at hi
    have hRl := (List.getElem?_eq_some_iff.mp hX).1
    have h55 := pow5_le (i := i) (by omega)
    have h56 : 5 ^ (i + 1) = 5 ^ i * 5 := Nat.pow_succ ..
    refine ⟨by simp [it_rng, hi], _, rfl, ?_⟩
    simp [hi]
    refine ⟨by simp [okIt, seqOf, lstOf, List.getElem?_append_left hRl, hX], ?_⟩
    refine ws_loop (xs.map dQ) (fun n e S2 => ∃ (ys : List (List Nat)) (u v : Option D), e = [some (.int m), some (.obj R), some (.int i), some (.obj S'.length), u, v] ∧ S2[R]? = some (.lst (xs.map dQ)) ∧ S2[S'.length]? = some (.lst (ys.map dQ)) ∧ Kp o S S2 ∧ SrcAt S2 o ∧ ys.length = n * (i + 1) ∧ ∀ x ∈ ys, Ord (i + 1) x) (by simp [lim]; omega)
      ⟨[], _, _, rfl, by rw [List.getElem?_append_left hRl]; exact hX, by simp, kp.trans (Kp.of (List.prefix_append _ _)), hs.app, by simp, by simp⟩ (fun n e S2 ⟨ys, u, v, he, hX2, hY, kp2, hs2, hn, hy⟩ hni => ?_) (fun e S2 ⟨ys, u, v, he, hX2, hY, kp2, hs2, hn, hy⟩ => ?_)
    · subst he
      simp at hni
      refine ⟨by simp [itVal, seqOf, lstOf, hX2, hni], _, rfl, ?_⟩
      simp
      refine ⟨by omega, ?_⟩
      have hnb : n * (i + 1) + (i + 1) ≤ 3125 * 5 := by
        have a1 : (n + 1) * (i + 1) ≤ 3125 * 5 := Nat.mul_le_mul (by omega) (by omega)
        rw [Nat.add_mul] at a1
        omega
      have hox := ho xs[n] (List.getElem_mem hni)
      generalize xs[n] = w at hox
      refine ws_loop ((List.range (i + 1)).map fun (j : Nat) => D.int j) (fun j e S2 => ∃ (ys : List (List Nat)) (v : Option D), e = [some (.int m), some (.obj R), some (.int i), some (.obj S'.length), some (dQ w), v] ∧ S2[R]? = some (.lst (xs.map dQ)) ∧ S2[S'.length]? = some (.lst (ys.map dQ)) ∧ Kp o S S2 ∧ SrcAt S2 o ∧ ys.length = n * (i + 1) + j ∧ ∀ x ∈ ys, Ord (i + 1) x) (by simp [lim]; omega)
        ⟨ys, _, rfl, hX2, hY, kp2, hs2, by simp [hn], hy⟩ (fun j e S2 ⟨ys, v, he, hX2, hY, kp2, hs2, hn, hy⟩ hj => ?_) (fun e S2 ⟨ys, v, he, hX2, hY, kp2, hs2, hn, hy⟩ => ?_)
      · subst he
        simp at hj
        have ej : (i : Int) + 1 = ((i + 1 : Nat) : Int) := by omega
        have hYl := (List.getElem?_eq_some_iff.mp hY).1
        refine ⟨by rw [ej, it_rng]; simp [hj], _, rfl, ?_⟩
        simp only [ws_seq, ws_drop, ws_nil]
        refine wp_app1 (R := S'.length) (by simp) (by simp [isLst, hY]) ?_
        simp [wp_slTo, wp_slFrom]
        refine ⟨w.map fun (p : Nat) => D.int p, dQ_eq, by simp [lim], ?_⟩
        rw [cut_to (by simp [hox.len]; omega)]
        refine opAdd_tup (by simp [lim]; omega) ?_
        refine ⟨_, dQ_eq, ?_⟩
        rw [cut_from (by simp [hox.len]; omega)]
        refine opAdd_tup (by simp [lim, hox.len]; omega) ?_
        have ew : D.tup (List.take j (w.map fun (p : Nat) => D.int p) ++ [D.int i] ++ List.drop j (w.map fun (p : Nat) => D.int p)) = dQ (w.take j ++ [i] ++ w.drop j) := by
          rw [dQ_eq]; simp
        rw [ew]
        refine ⟨_, hY, by simp [lim]; omega, ?_⟩
        refine ⟨by rw [List.getElem?_set_ne (by omega)]; exact hX2, ys ++ [w.take j ++ [i] ++ w.drop j], by simp [hYl], kp2.put (by omega), hs2.put (by omega), by simp [hn]; omega, ?_⟩
        intro x hx
        rcases List.mem_append.mp hx with hx | hx
        · exact hy x hx
        · simp only [List.mem_singleton] at hx
          subst hx
          exact hox.ins
      · subst he
        have ej : (i : Int) + 1 = ((i + 1 : Nat) : Int) := by omega
        simp only [List.length_map, List.length_range] at hn
        refine ⟨by rw [ej, it_rng]; simp, ?_⟩
        exact ⟨⟨_, _, rfl⟩, hX2, ys, hY, kp2, hs2, by rw [hn, Nat.add_mul]; omega, hy⟩
    · subst he
      simp only [List.length_map] at hn
      refine ⟨by simp [itVal, seqOf, lstOf, hX2], ?_⟩
      simp
      refine ⟨ys, hY, by have := kp.len; omega, kp2, hs2, ?_, ?_, hy⟩
      · have : 1 * 1 ≤ xs.length * (i + 1) := Nat.mul_le_mul h1 (by omega)
        omega
      · rw [hn, h56]
        exact Nat.mul_le_mul h5 (by omega)
  · subst he
    simp at h5 ho
    refine ⟨by simp [it_rng], ?_⟩
    simp
    exact q S' R xs kp hs hX h1 (Nat.le_trans h5 (pow5_le hm)) ho
/-! ### _law_piece -/
theorem f_piece {t : Int} (hT : Turn t T) (hP : Pic t P) (h : SrcAt S o) {pts : List Nat} (hL : 2 ≤ L) (hp : ∀ p ∈ pts, p < P.length) (hd : pts.Nodup) (hl : pts.length ≤ 16) (q : ∀ U M, Kp o S U → SrcAt U o → Pic t M → M.length = pts.length → Q (dP M) U) : wp (cf G L 20 [dI T, dP P, dQ pts] S) Q := by
  obtain ⟨L, rfl⟩ : ∃ k, L = k + 2 := ⟨L - 2, by omega⟩
  refine wp_cf rfl [some (dI T), some (dP P), some (dQ pts), none, none, none] rfl rfl ?_
  have hlt := h.lt
  simp [d_l_law_piece, lim]
  refine ⟨by omega, ?_⟩
  refine ws_loop ((List.range pts.length).map fun (i : Nat) => D.int i) (fun i e S' => ∃ (M : List (List Int)) (y z : Option D), e = [some (dI T), some (dP P), some (dQ pts), some (.obj S.length), y, z] ∧ S'[S.length]? = some (.lst (M.map dI)) ∧ Kp o S S' ∧ SrcAt S' o ∧ Pic t M ∧ M.length = i) (by simp [lim]; omega)
    ⟨[], none, none, rfl, by simp, Kp.of (List.prefix_append _ _), h.app, ⟨by simp, by simp, by simp⟩, rfl⟩ (fun i e S' ⟨M, y, z, he, hX, kp, hs, pic, hM⟩ hi => ?_) (fun e S' ⟨M, y, z, he, hX, kp, hs, pic, hM⟩ => ?_)
  · subst he
    simp at hi
    have hRl := (List.getElem?_eq_some_iff.mp hX).1
    refine ⟨by simp [it_rng, hi], _, rfl, ?_⟩
    simp only [ws_seq, ws_drop, ws_nil]
    refine wp_app1 (R := S.length) (by simp) (by simp [isLst, hX]) ?_
    simp [hi]
    refine ⟨by omega, ?_⟩
    refine wp_comp ((List.range i).map fun (j : Nat) => D.int j) (fun j acc S1 => S1 = S' ∧ ∃ r : List Int, acc = r.map D.int ∧ r.length = j ∧ ∀ x ∈ r, 0 ≤ x ∧ x < t) (by simp [lim]; omega) ⟨rfl, [], rfl, rfl, by simp⟩ (fun j acc S1 ⟨e0, r, e1, e2, e3⟩ hj ha => ?_) (fun acc S1 ⟨e0, r, e1, e2, e3⟩ => ?_)
    · subst e0
      simp at hj
      refine ⟨by simp [it_rng, hj], _, rfl, ?_⟩
      simp [hj, bTrue, wipeE]
      have jl : j < pts.length := by omega
      refine ixW (i := j) (xs := pts.map fun (p : Nat) => D.int p) (by simp) (by simpa using jl) ?_
      refine ixW (i := i) (xs := pts.map fun (p : Nat) => D.int p) (by simp) (by simpa using hi) ?_
      simp only [List.getElem_map]
      have hne : pts[j] ≠ pts[i] := fun h => by
        have := (List.getElem_inj hd).mp h
        omega
      refine (tie_W hT hP (hp _ (List.getElem_mem jl)) (hp _ (List.getElem_mem hi)) hne ?_).2
      have tc := tie_core hT hP (hp _ (List.getElem_mem jl)) (hp _ (List.getElem_mem hi)) hne
      refine ⟨rfl, r ++ [tieV T P pts[j] pts[i]], by simp [e1], by simp [e2], ?_⟩
      intro x hx
      rcases List.mem_append.mp hx with hx | hx
      · exact e3 x hx
      · simp at hx; subst hx; exact tc
    · subst e0
      simp at e2
      refine ⟨by simp [it_rng], ?_⟩
      refine ⟨_, hX, by simp [lim]; omega, M ++ [r], by simp [hRl, dI, e1], kp.put (Nat.le_refl _), hs.put hlt, ⟨by simp; omega, ?_, ?_⟩, by simp; omega⟩
      · intro j hj
        by_cases hjl : j < M.length
        · rw [List.getElem_append_left hjl]; exact pic.row j hjl
        · simp at hj
          have : j = M.length := by omega
          subst this
          simp; omega
      · intro r' hr'
        rcases List.mem_append.mp hr' with hr' | hr'
        · exact pic.low r' hr'
        · simp at hr'; subst hr'; exact e3
  · subst he
    simp at hM
    refine ⟨by simp [it_rng], ?_⟩
    simp
    refine cTup_W hX ?_
    exact q S' M kp hs pic hM
end
end Mini
end

section
set_option Elab.async false
set_option linter.all false
set_option maxRecDepth 100000
set_option maxHeartbeats 4000000
namespace Mini
open PySem PySem.Spec PyProof.Rows L2
/-! k84: _law_shown. -/
section
variable {G : Gl} {k : Nat} {S : Sto} {d x : D} {Q : D → Sto → Prop} {T : List Int} {P A B : List (List Int)} {o L : Nat} {e : Env'} {t : Int}
theorem Pic.app (h : Pic t P) {r : List Int} (hr : r.length = P.length) (hl : P.length + 1 ≤ 16) (low : ∀ x ∈ r, 0 ≤ x ∧ x < t) : Pic t (P ++ [r]) := by
  refine ⟨by simpa using hl, fun j hj => ?_, fun r' hr' => ?_⟩
  · by_cases hjl : j < P.length
    · rw [List.getElem_append_left hjl]; exact h.row j hjl
    · simp at hj
      have : j = P.length := by omega
      subst this
      simpa using hr
  · rcases List.mem_append.mp hr' with hr' | hr'
    · exact h.low r' hr'
    · simp at hr'; subst hr'; exact low
theorem Pic.tk (h : Pic t P) {i : Nat} : Pic t (P.take i) := by
  refine ⟨by have := h.many; simp; omega, fun j hj => ?_, fun r hr => h.low r (List.mem_of_mem_take hr)⟩
  simp at hj
  rw [List.getElem_take]
  exact h.row j (by omega)
theorem put_eq {α : Type} {P : List α} {j : Nat} {r : α} (hj : j < P.length) : P.take j ++ [r] ++ P.drop (j + 1) = P.set j r := by
  rw [List.set_eq_take_append_cons_drop, if_pos hj]
  simp
theorem Pic.put (h : Pic t P) {j : Nat} {r : List Int} (hj : j < P.length) (hr : r.length = j) (low : ∀ x ∈ r, 0 ≤ x ∧ x < t) : Pic t (P.take j ++ [r] ++ P.drop (j + 1)) := by
  rw [put_eq hj]
  refine ⟨by simpa using h.many, fun i hi => ?_, fun r' hr' => ?_⟩
  · simp at hi
    rw [List.getElem_set]
    split
    · rename_i e; subst e; exact hr
    · exact h.row i hi
  · rcases List.mem_or_eq_of_mem_set hr' with h1 | h1
    · exact h.low r' h1
    · subst h1; exact low
def cst (v : Int) (n : Nat) : List (List Int) := (List.range n).map fun j => List.replicate j v
theorem Pic.cst {v : Int} {n : Nat} (hn : n ≤ 16) (hv : 0 ≤ v ∧ v < t) : Pic t (cst v n) := by
  refine ⟨by simpa [Mini.cst] using hn, fun j hj => by simp [Mini.cst], fun r hr x hx => ?_⟩
  simp [Mini.cst] at hr
  obtain ⟨j, _, rfl⟩ := hr
  have := List.eq_of_mem_replicate hx
  subst this; exact hv
theorem f_picture' (h : SrcAt S o) {t p : Nat} {ti pi : Int} (hL : 2 ≤ L) (et : ti = t) (ep : pi = p) (ht : 1 ≤ t) (ht2 : t < 2 ^ 30) (hp : p ≤ 16) (q : ∀ U P, Kp o S U → SrcAt U o → Pic t P → P.length = p → Q (dP P) U) : wp (cf G L 17 [.obj o, .int ti, .int pi] S) Q := by
  obtain ⟨k, rfl⟩ : ∃ k, L = k + 2 := ⟨L - 2, by omega⟩
  exact f_picture h et ep ht ht2 hp q
def Sh (o : Nat) (S : Sto) (t : Int) (Q : D → Sto → Prop) : Prop := ∀ U A B, Kp o S U → SrcAt U o → Pic t A → Pic t B → A.length ≤ 5 → B.length ≤ 5 → Q (.tup [dP A, dP B]) U
section
variable {N : Env' → Sto → Prop} {R : D → Sto → Prop} {f g : FS} {fe : FE} {c : FB}
theorem ws_skip {Pr : Prop} (hc : wp (c e S) fun b S' => S' = S ∧ (b = true → ws (f e S) N R) ∧ (b = false → Pr)) (hN : Pr → N e S) : ws (sIf c f sNil e S) N R := by
  rw [ws_if]
  refine wp_imp hc fun b S' ⟨h1, h2, h3⟩ => ?_
  subst h1
  exact ⟨h2, fun hb => hN (h3 hb)⟩
theorem ws_let {i : Nat} (Q1 : D → Sto → Prop) (h : wp (fe e S) Q1) (h2 : ∀ d S', Q1 d S' → ws (g (e.set i (some d)) S') N R) : ws (sSeq (sAsg fe (gVar i)) g e S) N R := by
  rw [ws_seq, ws_asgV]
  exact wp_imp h fun d S' q => h2 d S' q
end
theorem l0 : (0 ≤ lim) = True := by simp [lim]
theorem l1 : (1 ≤ lim) = True := by simp [lim]
theorem l2 : (2 ≤ lim) = True := by simp [lim]
theorem l3 : (3 ≤ lim) = True := by simp [lim]
theorem l5 : (5 ≤ lim) = True := by simp [lim]
theorem l6 : (6 ≤ lim) = True := by simp [lim]
theorem or_of {a b c : Prop} (h0 : ¬ c → a) (h : c → b) : a ∨ c ∧ b := by
  by_cases hc : c
  · exact .inr ⟨hc, h hc⟩
  · exact .inl (h0 hc)
theorem wp_opLtI {a b : Int} : wp (opLt (.int a) (.int b) S) Q ↔ Q (.bl (decide (a < b))) S := Iff.rfl
theorem wp_opII {f : Int → Int → Bool} {a b : Int} : wp (opI f (.int a) (.int b) S) Q ↔ Q (.bl (f a b)) S := Iff.rfl
theorem f_shown (h : SrcAt S o) {t : Nat} {ti : Int} (hL : 3 ≤ L) (et : ti = t) (hT : Turn t T) (q : Sh o S t Q) : wp (cf G L 21 [.obj o, .int ti, dI T] S) Q := by
  obtain ⟨L, rfl⟩ : ∃ k, L = k + 1 := ⟨L - 1, by omega⟩
  refine wp_cf rfl [some (.obj o), some (.int ti), some (dI T), none, none, none, none, none, none, none, none, none, none] rfl rfl ?_
  have ht1 := hT.pos
  have ht2 := hT.few
  unfold d_l_law_shown
  refine ws_let (fun d S' => ∃ v : Nat, d = .int v ∧ Kp o S S' ∧ SrcAt S' o) ?_ ?_
  · simp
    exact f_draw' h (by omega) (by omega) (by omega) fun U v a b c => ⟨⟨v, rfl⟩, a, b⟩
  rintro d S1 ⟨form, rfl, k1, s1⟩
  refine ws_let (fun d S' => ∃ A, d = dP A ∧ A.length ≤ 4 ∧ Pic t A ∧ Kp o S S' ∧ SrcAt S' o) ?_ ?_
  · simp
    refine f_draw' s1 (by omega) (by omega) (by omega) fun U v a b c => ?_
    exact f_picture' b (by omega) et rfl (by omega) (by omega) (by omega) fun U2 A k2 s2 picA hA => ⟨A, rfl, by omega, picA, (k1.trans a).trans k2, s2⟩
  rintro d S2 ⟨A, rfl, hA, picA, k2, s2⟩
  simp only [List.set_cons_zero, List.set_cons_succ]
  rw [ws_seq]
  refine ws_skip (Pr := True) ?_ fun _ => ?_
  · simp [wp_opLtI, l2, l1]
    refine or_of (by omega) fun _ => ?_
    refine f_draw' s2 (by omega) (by omega) (by omega) fun U v a b c => ?_
    exact f_picture' b (by omega) et rfl (by omega) (by omega) (by omega) fun U2 B k3 s3 picB hB => q _ A B (k2.trans (a.trans k3)) s3 picA picB (by omega) (by omega)
  rw [ws_seq]
  refine ws_skip (Pr := True) ?_ fun _ => ?_
  · simp [wp_opLtI, l2, l1]
    refine or_of (by omega) fun _ => ?_
    refine f_draw' s2 (by omega) (by omega) (by omega) fun U v a b c => ?_
    refine f_draw' b (by omega) (by omega) (by omega) fun U1 v1 a1 b1 c1 => ?_
    rw [wp_opAddI]
    refine f_draw' b1 (by omega) (by omega) (by omega) fun U2 v2 a2 b2 c2 => ?_
    rw [wp_opAddI]
    have e1 : (1 : Int) + v1 = ((1 + v1 : Nat) : Int) := by omega
    have e2 : (1 : Int) + v2 = ((1 + v2 : Nat) : Int) := by omega
    rw [e1, e2]
    have hm1 : 1 + v1 ≤ 4 := by omega
    have hm2 : 1 + v2 ≤ 4 := by omega
    generalize 1 + v1 = m1 at *
    generalize 1 + v2 = m2 at *
    have hseq : ∀ S, seqOf S (D.tup [D.int m1, D.int m2]) = some ([m1, m2].map fun (i : Nat) => D.int i) := fun S => rfl
    have hit : ∀ i S, itVal (D.tup [D.int m1, D.int m2]) i S = some ([m1, m2].map fun (i : Nat) => D.int i)[i]? := fun i S => rfl
    generalize D.tup [D.int m1, D.int m2] = many at *
    refine wp_comp ([m1, m2].map fun (i : Nat) => D.int i) (fun i acc S' => S' = U2 ∧ acc = ([m1, m2].take i).map fun n => dP (cst v n)) (by simp [lim]) ⟨rfl, rfl⟩ (fun i acc S' ⟨h1, h2⟩ hi ha => ?_) (fun acc S' ⟨h1, h2⟩ => ?_)
    · subst h1 h2
      have hi2 : i < [m1, m2].length := by simpa using hi
      have hm : [m1, m2][i] ≤ 4 := by
        simp at hi
        have : i = 0 ∨ i = 1 := by omega
        rcases this with rfl | rfl
        · exact hm1
        · exact hm2
      have etk : [m1, m2].take (i + 1) = [m1, m2].take i ++ [[m1, m2][i]] := List.take_succ_eq_append_getElem hi2
      have eg : ([m1, m2].map fun (i : Nat) => D.int i)[i] = D.int ([m1, m2][i] : Nat) := by rw [List.getElem_map]
      rw [etk, eg]
      generalize [m1, m2][i] = n at *
      refine ⟨?_, _, rfl, ?_⟩
      · rw [← eg, hit]
        exact congrArg some (List.getElem?_eq_getElem hi)
      · simp [bTrue, wipeE]
        refine ⟨by omega, ?_⟩
        refine wp_comp ((List.range n).map fun (i : Nat) => D.int i) (fun j acc S2 => S2 = S' ∧ acc = (List.range j).map fun j => dI (List.replicate j (v : Int))) (by simp [lim]; omega) ⟨rfl, rfl⟩ (fun j acc S2 ⟨h1, h2⟩ hj ha => ?_) (fun acc S2 ⟨h1, h2⟩ => ?_)
        · subst h1 h2
          simp at hj
          refine ⟨by simp [it_rng, hj], _, rfl, ?_⟩
          simp [hj, bTrue, wipeE]
          refine ⟨by omega, ?_⟩
          refine wp_comp ((List.range j).map fun (i : Nat) => D.int i) (fun l acc S3 => S3 = S2 ∧ acc = List.replicate l (D.int v)) (by simp [lim]; omega) ⟨rfl, rfl⟩ (fun l acc S3 ⟨h1, h2⟩ hl ha => ?_) (fun acc S3 ⟨h1, h2⟩ => ?_)
          · subst h1 h2
            simp at hl
            refine ⟨by simp [it_rng, hl], _, rfl, ?_⟩
            simp [hl, List.replicate_succ', bTrue, wipeE]
          · subst h1 h2
            refine ⟨by simp [it_rng], ?_⟩
            simp [List.range_succ, dI]
        · subst h1 h2
          refine ⟨by simp [it_rng], ?_⟩
          simp [dP, cst]
    · subst h1 h2
      refine ⟨by rw [hit]; simp, ?_⟩
      have hv : (0 : Int) ≤ v ∧ (v : Int) < t := by omega
      have := q S' (cst v m1) (cst v m2) (k2.trans (a.trans (a1.trans a2))) b2 (Pic.cst (by omega) hv) (Pic.cst (by omega) hv) (by simp [cst]; omega) (by simp [cst]; omega)
      simpa using this
  refine ws_let (fun d S' => ∃ (R : Nat) (xs : List (List Nat)), d = .obj R ∧ S'[R]? = some (.lst (xs.map dQ)) ∧ 1 ≤ xs.length ∧ xs.length ≤ 3125 ∧ (∀ x ∈ xs, Ord A.length x) ∧ Kp o S S' ∧ SrcAt S' o) ?_ ?_
  · simp
    refine ⟨_, rfl, ?_⟩
    refine f_orders s2 (m := A.length) (by omega) (by simp) (by omega) fun U R xs a b c d e f => ⟨R, rfl, xs, c, d, e, f, k2.trans a, b⟩
  rintro d S3 ⟨R, xs, rfl, hX, hx1, hx2, hxo, k3, s3⟩
  refine ws_let (fun d S' => ∃ M, d = dP M ∧ M.length ≤ 4 ∧ Pic t M ∧ Kp o S S' ∧ SrcAt S' o) ?_ ?_
  · simp
    refine ⟨_, seq_lst hX, ?_⟩
    have hRo : R ≠ o := by
      rintro rfl
      obtain ⟨c, cells, pos, mixed, wide, left, h1, hc, h2⟩ := s3
      rw [hX] at h1
      simp at h1
      cases xs with
      | nil => simp at hx1
      | cons x xs => simp [dQ_eq] at h1
    refine f_draw' s3 (by omega) (by simp; omega) (by simp; omega) fun U v a b c => ?_
    have hX2 := a.at hX hRo
    have hv : v < xs.length := by simpa using c
    refine ixW (i := v) (xs := xs.map dQ) (seq_lst hX2) (by simpa using hv) ?_
    simp only [List.getElem_map]
    have ho := hxo _ (List.getElem_mem hv)
    have hol := ho.len
    exact f_piece hT picA b (by omega) ho.low ho.nd (by omega) fun U2 M k4 s4 picM hM => ⟨M, rfl, by omega, picM, k3.trans (a.trans k4), s4⟩
  rintro d S4 ⟨M, rfl, hM, picM, k4, s4⟩
  simp only [List.set_cons_zero, List.set_cons_succ]
  rw [ws_seq]
  refine ws_skip (Pr := True) ?_ fun _ => ?_
  · simp [l2, l1]
    exact or_of (by omega) fun _ => q S4 A M k4 s4 picA picM (by omega) (by omega)
  rw [ws_seq]
  refine ws_skip (Pr := True) ?_ fun _ => ?_
  · simp [l2, l1, wp_opLtI]
    refine or_of (by omega) fun _ => ⟨_, rfl, ?_⟩
    simp
    refine or_of (by omega) fun hM3 => ⟨_, rfl, by simp; omega, ?_⟩
    refine wp_comp ((List.range M.length).map fun (j : Nat) => D.int j) (fun j acc S1 => ∃ r : List Int, acc = r.map D.int ∧ r.length = j ∧ (∀ x ∈ r, 0 ≤ x ∧ x < (t : Int)) ∧ Kp o S S1 ∧ SrcAt S1 o) (by simp [lim]; omega) ⟨[], rfl, rfl, by simp, k4, s4⟩ (fun j acc S1 ⟨r, e1, e2, e3, e5, e6⟩ hj ha => ?_) (fun acc S1 ⟨r, e1, e2, e3, e5, e6⟩ => ?_)
    · simp at hj
      refine ⟨by simp [it_rng, hj], _, rfl, ?_⟩
      simp [hj, bTrue, wipeE]
      refine f_draw' e6 (by omega) (by omega) (by omega) fun U v a b c => ⟨r ++ [(v : Int)], by simp [e1], by simp [e2], ?_, e5.trans a, b⟩
      intro x hx
      rcases List.mem_append.mp hx with hx | hx
      · exact e3 x hx
      · simp at hx; omega
    · simp at e2
      refine ⟨by simp [it_rng], ?_⟩
      refine opAdd_tup (xs := M.map dI) (by simp [lim]; omega) ?_
      have := q S1 A (M ++ [r]) e5 e6 picA (picM.app e2 (by omega) e3) (by omega) (by simp; omega)
      rw [e1]
      simpa [dP, dI] using this
  rw [ws_seq]
  refine ws_skip (Pr := True) ?_ fun _ => ?_
  · simp [l2, l1, wp_opLtI, wp_opII, wp_slTo]
    refine or_of (by omega) fun _ => ⟨_, rfl, ?_⟩
    by_cases hM0 : M.length = 0
    · refine .inl (by simpa using hM0)
    · refine .inr ⟨by simp; omega, ?_⟩
      rw [wp_vNegC]
      refine ⟨M.map dI, rfl, -1, rfl, ?_⟩
      rw [cut_to_neg]
      have := q S4 (M.take (M.length - 1)) A k4 s4 picM.tk picA (by simp; omega) (by omega)
      simpa [dP] using this
  rw [ws_seq]
  refine ws_skip (Pr := ¬ M.length < 2) ?_ fun hM2 => ?_
  · simp [l2, l1, wp_opLtI]
    refine ⟨_, rfl, ?_⟩
    by_cases h2 : M.length < 2
    · refine .inr ⟨by simp; omega, q S4 M A k4 s4 picM picA (by omega) (by omega)⟩
    · exact .inl ⟨by simp; omega, by omega⟩
  refine ws_let (fun d S' => ∃ j : Nat, d = .int j ∧ 1 ≤ j ∧ j < M.length ∧ Kp o S S' ∧ SrcAt S' o) ?_ ?_
  · simp
    refine ⟨_, rfl, ?_⟩
    refine f_draw' s4 (by omega) (by simp; omega) (by simp; omega) fun U v a b c => ?_
    rw [wp_opAddI]
    simp at c
    exact ⟨1 + v, by simp, by omega, by omega, k4.trans a, b⟩
  rintro d S5 ⟨j, rfl, hj1, hj2, k5, s5⟩
  refine ws_let (fun d S' => ∃ i : Nat, d = .int i ∧ i < j ∧ Kp o S S' ∧ SrcAt S' o) ?_ ?_
  · simp
    refine f_draw' s5 (by omega) (by omega) (by omega) fun U v a b c => ?_
    exact ⟨v, rfl, by omega, k5.trans a, b⟩
  rintro d S6 ⟨i, rfl, hi, k6, s6⟩
  have hrow := picM.row j hj2
  refine ws_let (fun d S' => ∃ r : List Int, d = dI r ∧ r.length = j ∧ (∀ x ∈ r, 0 ≤ x ∧ x < (t : Int)) ∧ Kp o S S' ∧ SrcAt S' o) ?_ ?_
  · simp [wp_slTo, wp_slFrom]
    refine ixW (i := j) (xs := M.map dI) rfl (by simpa using hj2) ?_
    refine ⟨M[j].map D.int, by simp [dI], ?_⟩
    rw [cut_to (by simp; omega)]
    refine f_draw' s6 (by omega) (by omega) (by omega) fun U v a b c => ?_
    refine ⟨by simp [lim], ?_⟩
    refine opAdd_tup (by simp [lim]; omega) ?_
    refine ixW (i := j) (xs := M.map dI) rfl (by simpa using hj2) ?_
    refine ⟨M[j].map D.int, by simp [dI], ?_⟩
    have ei : (i : Int) + 1 = ((i + 1 : Nat) : Int) := by omega
    rw [ei, cut_from (by simp; omega)]
    refine opAdd_tup (by simp [lim]; omega) ?_
    refine ⟨M[j].take i ++ [(v : Int)] ++ M[j].drop (i + 1), by simp [dI], ?_, ?_, k6.trans a, b⟩
    · rw [put_eq (by omega)]; simpa using hrow
    · rw [put_eq (by omega)]
      intro x hx
      rcases List.mem_or_eq_of_mem_set hx with hx | hx
      · exact picM.low _ (List.getElem_mem hj2) x hx
      · subst hx; omega
  rintro d S7 ⟨r, rfl, hr, hlow, k7, s7⟩
  simp [wp_slTo, wp_slFrom, l2, l1]
  refine ⟨M.map dI, rfl, ?_⟩
  rw [cut_to (by simp; omega)]
  refine opAdd_tup (by simp [lim]; omega) ?_
  refine ⟨M.map dI, rfl, ?_⟩
  have ei : (j : Int) + 1 = ((j + 1 : Nat) : Int) := by omega
  rw [ei, cut_from (by simp; omega)]
  refine opAdd_tup (by simp [lim]; omega) ?_
  have := q S7 A (M.take j ++ [r] ++ M.drop (j + 1)) k7 s7 picA (picM.put hj2 hr hlow) (by omega) (by rw [put_eq hj2]; simp; omega)
  simpa [dP] using this
end
end Mini
end

section
set_option Elab.async false
set_option linter.all false
set_option maxRecDepth 100000
set_option maxHeartbeats 4000000
namespace Mini
open PySem PySem.Spec PyProof.Rows L2
/-! k84: _law_bent, _law_odd_paper. -/
/-- finite data of that width and depth -/
def Fit (w : Nat) (o : Nat) (S : Sto) : Nat → D → Prop
  | _, .non => True
  | _, .bl _ => True
  | _, .int _ => True
  | _, .str x => PyData.strOk x = true
  | n + 1, .tup xs => xs.length ≤ w ∧ ∀ x ∈ xs, Fit w o S n x
  | n + 1, .obj j => j ≠ o ∧ ∃ xs, S[j]? = some (.lst xs) ∧ xs.length ≤ w ∧ ∀ x ∈ xs, Fit w o S n x
  | _, _ => False
theorem Fit.mono {w w' o : Nat} {S S' : Sto} (h : Kp o S S') (hw : w ≤ w') : ∀ {n m : Nat} {d : D}, n ≤ m → Fit w o S n d → Fit w' o S' m d
  | 0, 0, .non, _, _ => trivial
  | 0, 0, .bl _, _, _ => trivial
  | 0, 0, .int _, _, _ => trivial
  | 0, 0, .str _, _, p => p
  | 0, _ + 1, .non, _, _ => trivial
  | 0, _ + 1, .bl _, _, _ => trivial
  | 0, _ + 1, .int _, _, _ => trivial
  | 0, _ + 1, .str _, _, p => p
  | _ + 1, _ + 1, .non, _, _ => trivial
  | _ + 1, _ + 1, .bl _, _, _ => trivial
  | _ + 1, _ + 1, .int _, _, _ => trivial
  | _ + 1, _ + 1, .str _, _, p => p
  | n + 1, m + 1, .tup xs, e, p => ⟨Nat.le_trans p.1 hw, fun x hx => Fit.mono h hw (by omega) (p.2 x hx)⟩
  | n + 1, m + 1, .obj j, e, p => by
    obtain ⟨a, xs, b, c, d⟩ := p
    exact ⟨a, xs, h.at b a, Nat.le_trans c hw, fun x hx => Fit.mono h hw (by omega) (d x hx)⟩
  | 0, _, .tup _, _, p => p.elim
  | 0, _, .obj _, _, p => p.elim
theorem Fit.pap {o : Nat} {S : Sto} : ∀ {n : Nat} {d : D}, Fit 8 o S n d → Pap o S n d
  | 0, .non, _ => trivial
  | 0, .bl _, _ => trivial
  | 0, .int _, _ => trivial
  | 0, .str _, p => p
  | _ + 1, .non, _ => trivial
  | _ + 1, .bl _, _ => trivial
  | _ + 1, .int _, _ => trivial
  | _ + 1, .str _, p => p
  | n + 1, .tup xs, p => ⟨p.1, fun x hx => (p.2 x hx).pap⟩
  | n + 1, .obj j, p => by
    obtain ⟨a, xs, b, c, d⟩ := p
    exact ⟨a, xs, b, c, fun x hx => (d x hx).pap⟩
  | 0, .tup _, p => p.elim
  | 0, .obj _, p => p.elim
theorem Tr.fit {w o : Nat} {S : Sto} : ∀ {n : Nat} {d : D}, Tr w n d → Fit w o S n d
  | 0, .int _, _ => trivial
  | _ + 1, .int _, _ => trivial
  | n + 1, .tup xs, p => ⟨p.1, fun x hx => (p.2 x hx).fit⟩
  | 0, .tup _, p => p.elim
theorem Fit.typ {w o : Nat} {S : Sto} : ∀ {n : Nat} {d : D}, Fit w o S n d → Typ S d
  | 0, .non, _ => rfl
  | 0, .bl _, _ => rfl
  | 0, .int _, _ => rfl
  | 0, .str _, _ => rfl
  | _ + 1, .non, _ => rfl
  | _ + 1, .bl _, _ => rfl
  | _ + 1, .int _, _ => rfl
  | _ + 1, .str _, _ => rfl
  | n + 1, .tup xs, p => rfl
  | n + 1, .obj j, p => by
    obtain ⟨a, xs, b, c, d⟩ := p
    simp [Typ, tyOf, b]
  | 0, .tup _, p => p.elim
  | 0, .obj _, p => p.elim
structure MenuAt (S : Sto) (mo w n o : Nat) : Prop where
  ob : ∃ xs, S[mo]? = some (.lst xs) ∧ 1 ≤ xs.length ∧ xs.length ≤ 30 ∧ ∀ x ∈ xs, Fit w o S n x
  ne : mo ≠ o
theorem MenuAt.kp {S S' : Sto} {mo w n o : Nat} (h : MenuAt S mo w n o) (k : Kp o S S') : MenuAt S' mo w n o := by
  obtain ⟨xs, h1, h2, h3, h4⟩ := h.ob
  exact ⟨⟨xs, k.at h1 h.ne, h2, h3, fun x hx => (h4 x hx).mono k (Nat.le_refl _) (Nat.le_refl _)⟩, h.ne⟩
section
variable {G : Gl} {k : Nat} {S : Sto} {d x : D} {Q : D → Sto → Prop} {o L mo : Nat} {e : Env'}
theorem ws_skip2 {N : Env' → Sto → Prop} {R : D → Sto → Prop} {f : FS} {c : FB} (K : Sto → Prop) (hc : wp (c e S) fun b S' => (b = true → ws (f e S') N R) ∧ (b = false → K S')) (hN : ∀ S', K S' → N e S') : ws (sIf c f sNil e S) N R := by
  rw [ws_if]
  refine wp_imp hc fun b S' ⟨h2, h3⟩ => ?_
  exact ⟨h2, fun hb => hN _ (h3 hb)⟩
theorem ixAll {xs : List D} {i : Nat} (hi : i < xs.length) (h : ∀ x ∈ xs, Q x S) : wp (opIx (.tup xs) (.int i) S) Q := ixW (i := i) rfl hi (h _ (List.getElem_mem hi))
theorem fitT {w n : Nat} {U : Sto} {xs ys : List D} (hd : Fit w o S (n + 1) (.tup xs)) (k : Kp o S U) (hl : ys.length ≤ w + 1) (h : ∀ y ∈ ys, y ∈ xs ∨ y = .tup [] ∨ y = .tup xs) : Fit (w + 1) o U (n + 1 + 4) (.tup ys) := by
  refine ⟨hl, fun y hy => ?_⟩
  rcases h y hy with h | rfl | rfl
  · exact (hd.2 y h).mono k (by omega) (show n ≤ n + 1 + 3 by omega)
  · exact ⟨by simp, by simp⟩
  · exact hd.mono k (by omega) (show n + 1 ≤ n + 1 + 3 by omega)
theorem cList_W {xs : List D} {QL : List D → Sto → Prop} (q : QL xs S) : wp (cList [.tup xs] S) QL := q
theorem f_bent : ∀ (n L : Nat) (S : Sto) (w : Nat) (d : D) (Q : D → Sto → Prop), n + 2 ≤ L → SrcAt S o → MenuAt S mo 3 3 o → 3 ≤ w → w ≤ 8 → Fit w o S n d → (∀ U d', Kp o S U → SrcAt U o → Fit (w + 1) o U (n + 4) d' → Q d' U) → wp (cf G L 35 [.obj o, d, .obj mo] S) Q := by
  intro n
  induction n using Nat.strongRecOn with
  | ind n ih =>
    intro L S w d Q hL hs hm hw hw8 hd q
    obtain ⟨L, rfl⟩ : ∃ k, L = k + 1 := ⟨L - 1, by omega⟩
    refine wp_cf rfl [some (.obj o), some d, some (.obj mo), none, none, none] rfl rfl ?_
    unfold d_l_law_bent
    rw [ws_seq]
    refine ws_skip2 (fun S' => Kp o S S' ∧ SrcAt S' o) ?_ ?_
    · obtain ⟨t1, a1, b1⟩ := isi_tuple hd.typ
      cases hq : qTup d with
      | false => simp [a1, b1, hq]; exact ⟨Kp.refl _, hs⟩
      | true =>
        obtain ⟨xs, rfl⟩ : ∃ trees, d = .tup trees := by cases d <;> simp [qTup] at hq; exact ⟨_, rfl⟩
        obtain ⟨n, rfl⟩ : ∃ n', n = n' + 1 := by
          cases n with
          | zero => exact hd.elim
          | succ n => exact ⟨n, rfl⟩
        simp [wp_opII, wp_slTo, wp_slFrom]
        by_cases hx : xs = []
        · exact .inl ⟨hx, Kp.refl _, hs⟩
        have hx0 : 0 < xs.length := List.length_pos_iff.mpr hx
        have hxw := hd.1
        refine .inr ⟨hx0, ?_⟩
        refine f_draw' hs (by omega) (by omega) (by omega) fun U v k1 s1 hv => ?_
        rw [wp_opII]
        by_cases hv0 : 0 < (v : Int)
        · refine .inr ⟨by simpa using hv0, ?_⟩
          refine f_draw' s1 (by omega) (by omega) (by omega) fun U1 v1 k2 s2 hv1 => ?_
          have hvl : v1 < xs.length := by omega
          refine ⟨_, rfl, ?_⟩
          refine ixW (i := v1) (xs := xs) rfl hvl ?_
          have kk := k1.trans k2
          refine ih n (by omega) L U1 w _ _ (by omega) s2 (hm.kp kk) hw hw8 ((hd.2 _ (List.getElem_mem hvl)).mono kk (Nat.le_refl _) (Nat.le_refl _)) fun U2 d' k3 s3 hd' => ?_
          refine ⟨by simp [lim], ?_⟩
          rw [cut_to (by omega)]
          refine opAdd_tup (by simp [lim]; omega) ?_
          rw [wp_opAddI]
          refine ⟨_, rfl, ?_⟩
          have ei : (v1 : Int) + 1 = ((v1 + 1 : Nat) : Int) := by omega
          rw [ei, cut_from (by omega)]
          refine opAdd_tup (by simp [lim]; omega) ?_
          rw [put_eq hvl]
          refine q U2 _ (kk.trans k3) s3 ⟨by simp; omega, fun y hy => ?_⟩
          rcases List.mem_or_eq_of_mem_set hy with hy | hy
          · exact (hd.2 y hy).mono (kk.trans k3) (by omega) (show n ≤ n + 1 + 3 by omega)
          · subst hy
            exact hd'.mono (Kp.refl _) (Nat.le_refl _) (show n + 4 ≤ n + 1 + 3 by omega)
        · exact .inl ⟨by simpa using hv0, k1, s1⟩
    intro S1 ⟨k1, s1⟩
    refine ws_let (fun d S' => ∃ v : Nat, d = .int v ∧ v < 8 ∧ Kp o S S' ∧ SrcAt S' o) ?_ ?_
    · simp
      exact f_draw' s1 (by omega) (by omega) (by omega) fun U v a b c => ⟨v, rfl, by omega, k1.trans a, b⟩
    rintro d' S2 ⟨form, rfl, hf, k2, s2⟩
    simp only [List.set_cons_zero, List.set_cons_succ]
    have hd2 := hd.mono k2 (Nat.le_refl _) (Nat.le_refl _)
    rw [ws_seq]
    refine ws_skip (Pr := True) ?_ fun _ => ?_
    · obtain ⟨t1, a1, b1⟩ := isi_tuple hd2.typ
      cases hq : qTup d with
      | false => simp [a1, b1, hq]
      | true =>
        obtain ⟨xs, rfl⟩ : ∃ trees, d = .tup trees := by cases d <;> simp [qTup] at hq; exact ⟨_, rfl⟩
        obtain ⟨n, rfl⟩ : ∃ n', n = n' + 1 := by
          cases n with
          | zero => exact hd.elim
          | succ n => exact ⟨n, rfl⟩
        have hxw := hd.1
        simp [wp_opLtI, wp_slTo, wp_slFrom, l1, l0, l6]
        refine or_of (by omega) fun hf6 => ?_
        refine cList_W ?_
        refine opAdd_tup (by simp [lim]; omega) ?_
        rw [wp_vNegC]
        refine ⟨_, rfl, ?_⟩
        rw [wp_vNegC]
        refine ⟨_, rfl, ?_⟩
        rw [cut_from_neg, cut_to_neg, show ((1 : Int)) = ((1 : Nat) : Int) from rfl]
        refine opAdd_tup (by simp [lim]; omega) ?_
        have kn : Kp o S2 (S2 ++ [O.lst xs]) := Kp.of (List.prefix_append _ _)
        refine ixAll (i := form) (by simp; omega) ?_
        intro y hy
        refine q _ _ (k2.trans kn) s2.app ?_
        simp only [List.mem_cons, List.not_mem_nil, or_false] at hy
        rcases hy with rfl | rfl | rfl | rfl | rfl | rfl
        · have := s2.lt
          refine ⟨by omega, xs, by simp, by omega, fun y hy => ?_⟩
          exact (hd2.2 y hy).mono kn (by omega) (show n ≤ n + 1 + 3 by omega)
        · refine fitT hd2 kn (by simp; omega) fun y hy => ?_
          rcases List.mem_append.mp hy with h | h
          · exact .inl h
          · exact .inr (.inl (by simpa using h))
        · exact fitT hd2 kn (by simp; omega) fun y hy => .inl (List.mem_of_mem_take hy)
        · refine fitT hd2 kn (by simp; omega) fun y hy => ?_
          rcases List.mem_append.mp hy with h | h
          · exact .inl h
          · exact .inl (List.mem_of_mem_drop h)
        · by_cases hx0 : 1 ≤ xs.length
          · rw [cut_from hx0]
            exact fitT hd2 kn (by simp; omega) fun y hy => .inl (List.mem_of_mem_drop hy)
          · have : xs = [] := by cases xs with | nil => rfl | cons _ _ => simp at hx0
            subst this
            exact fitT hd2 kn (by simp [cutG]) fun y hy => by simp [cutG] at hy
        · exact fitT hd2 kn (by simp) fun y hy => .inr (.inr (by simpa using hy))
    rw [ws_seq]
    have hI : ∀ (S' : Sto) (i : Int), Fit (w + 1) o S' (n + 4) (.int i) := fun S' i => by trivial
    have hB : ∀ (S' : Sto) (i : Bool), Fit (w + 1) o S' (n + 4) (.bl i) := fun S' i => by trivial
    refine ws_skip (Pr := True) ?_ fun _ => ?_
    · obtain ⟨t1, a1, b1⟩ := isi_int hd2.typ
      obtain ⟨t2, a2, b2⟩ := isi_bool hd2.typ
      rw [a1] at a2
      cases a2
      by_cases hq : ∃ i, d = .int i
      · obtain ⟨i, rfl⟩ := hq
        simp [a1, b1, b2, qInt, qBl, wp_opLtI, l5]
        refine or_of (by omega) fun hf5 => ?_
        have hix : wp (opIx (D.tup [D.int (i + 1), D.int (i - 1), D.int (i + 1), D.int 0, D.int 1]) (D.int form) S2) Q := by
          refine ixAll (i := form) (by simp; omega) ?_
          intro y hy
          simp only [List.mem_cons, List.not_mem_nil, or_false] at hy
          rcases hy with rfl | rfl | rfl | rfl | rfl <;> exact q _ _ k2 s2 (hI _ _)
        by_cases h0 : form = 0
        · refine .inr ⟨h0, ?_⟩
          by_cases h2 : i < 2
          · refine .inr ⟨h2, ?_⟩
            by_cases h1 : i = 1
            · exact .inr ⟨h1, q _ _ k2 s2 (hB _ _)⟩
            · exact .inl ⟨h1, q _ _ k2 s2 (hB _ _)⟩
          · exact .inl ⟨by omega, hix⟩
        · exact .inl ⟨h0, hix⟩
      · simp [a1, b1, b2]
        cases hi : qInt d with
        | false => exact .inl rfl
        | true =>
          refine .inr ⟨rfl, .inr ?_⟩
          cases d with
          | int i => exact absurd ⟨i, rfl⟩ hq
          | bl b => rfl
          | _ => cases hi
    simp
    obtain ⟨xs, h1, h2, h3, h4⟩ := (hm.kp k2).ob
    refine ⟨xs, seq_lst h1, ?_⟩
    refine f_draw' s2 (by omega) (by omega) (by omega) fun U v k3 s3 hv => ?_
    have h1' := k3.at h1 hm.ne
    have hvl : v < xs.length := by omega
    refine ixW (i := v) (xs := xs) (seq_lst h1') hvl ?_
    exact q _ _ (k2.trans k3) s3 ((h4 _ (List.getElem_mem hvl)).mono k3 (by omega) (by omega))
end
end Mini
end

section
set_option Elab.async false
set_option linter.all false
set_option maxRecDepth 100000
set_option maxHeartbeats 4000000
namespace Mini
open PySem PySem.Spec PyProof.Rows L2
/-! k84: _law_odd_paper. -/
theorem Fit.two {w o R : Nat} {S S' : Sto} (h : Kp R S S') : ∀ {n : Nat} {d : D}, Fit w o S n d → Fit w R S n d → Fit w o S' n d ∧ Fit w R S' n d
  | 0, .non, _, _ => ⟨trivial, trivial⟩
  | 0, .bl _, _, _ => ⟨trivial, trivial⟩
  | 0, .int _, _, _ => ⟨trivial, trivial⟩
  | 0, .str _, p, q => ⟨p, q⟩
  | _ + 1, .non, _, _ => ⟨trivial, trivial⟩
  | _ + 1, .bl _, _, _ => ⟨trivial, trivial⟩
  | _ + 1, .int _, _, _ => ⟨trivial, trivial⟩
  | _ + 1, .str _, p, q => ⟨p, q⟩
  | n + 1, .tup xs, p, q => ⟨⟨p.1, fun x hx => (Fit.two h (p.2 x hx) (q.2 x hx)).1⟩, ⟨p.1, fun x hx => (Fit.two h (p.2 x hx) (q.2 x hx)).2⟩⟩
  | n + 1, .obj j, p, q => by
    obtain ⟨a, xs, b, c, d⟩ := p
    obtain ⟨a', xs', b', c', d'⟩ := q
    rw [b] at b'
    cases b'
    have hb := h.at b a'
    exact ⟨⟨a, xs, hb, c, fun x hx => (Fit.two h (d x hx) (d' x hx)).1⟩, ⟨a', xs, hb, c, fun x hx => (Fit.two h (d x hx) (d' x hx)).2⟩⟩
  | 0, .tup _, p, _ => p.elim
  | 0, .obj _, p, _ => p.elim
structure OddI (o R n : Nat) (S S' : Sto) : Prop where
  ob : ∃ xs, S'[R]? = some (.lst xs) ∧ xs.length = n ∧ ∀ x ∈ xs, Fit 3 o S' 5 x ∧ Fit 3 R S' 5 x
  kp : Kp o S S'
  sr : SrcAt S' o
section
variable {G : Gl} {k : Nat} {S : Sto} {d x : D} {Q : D → Sto → Prop} {o L mo : Nat} {e : Env'}
theorem ws_then {N : Env' → Sto → Prop} {R : D → Sto → Prop} {f g : FS} (N1 : Env' → Sto → Prop) (h : ws (f e S) N1 R) (h2 : ∀ e' S', N1 e' S' → ws (g e' S') N R) : ws (sSeq f g e S) N R := by
  rw [ws_seq]
  exact ws_imp h h2 fun _ _ p => p
theorem wp_ext {fo : FE} {la : FA} {R : Nat} (ho : wp (fo e S) fun d S1 => d = .obj R ∧ S1 = S) (hS : isLst S (.obj R) = true) (q : wp (la e S) fun zs S1 => ∃ xs, S1[R]? = some (.lst xs) ∧ xs.length + zs.length ≤ lim ∧ Q .non (S1.set R (.lst (xs ++ zs)))) : wp (fExt fo la e S) Q := by
  unfold fExt
  rw [wp_bnd]
  refine wp_imp ho fun d S1 q1 => ?_
  obtain ⟨rfl, rfl⟩ := q1
  simp only [hS, if_true]
  rw [wp_bnd]
  refine wp_imp q fun ds S2 q2 => ?_
  obtain ⟨xs, h1, h2, h3⟩ := q2
  simp only [h1, if_pos h2]; exact h3
theorem okA : PyData.strOk (Str.ofString "apart") = true := by decide +kernel
theorem okB : PyData.strOk (Str.ofString "alike") = true := by decide +kernel
theorem okC : PyData.strOk (Str.ofString "Alike") = true := by decide +kernel
theorem OddI.ext {R n m : Nat} {S0 S1 : Sto} (h : OddI o R n S0 S) (hR : S0.length ≤ R) (ho : o < R) (p : S <+: S1) {zs : List D} (hz : zs.length = m) (hf : ∀ x ∈ zs, Fit 3 o S1 5 x ∧ Fit 3 R S1 5 x) : ∃ xs, S1[R]? = some (.lst xs) ∧ xs.length = n ∧ OddI o R (n + m) S0 (S1.set R (.lst (xs ++ zs))) := by
  obtain ⟨xs, h1, h2, h3⟩ := h.ob
  have h1' := get_pre h1 p
  have hl := (List.getElem?_eq_some_iff.mp h1').1
  refine ⟨xs, h1', h2, ⟨⟨xs ++ zs, by simp [hl], by simp [h2, hz], fun x hx => ?_⟩, (h.kp.trans (Kp.of p)).put hR, (pre_src h.sr p).put ho⟩⟩
  have kR : Kp R S1 (S1.set R (.lst (xs ++ zs))) := Kp.set
  rcases List.mem_append.mp hx with hx | hx
  · obtain ⟨a, b⟩ := h3 x hx
    exact Fit.two kR (a.mono (Kp.of p) (Nat.le_refl _) (Nat.le_refl _)) (b.mono (Kp.of p) (Nat.le_refl _) (Nat.le_refl _))
  · obtain ⟨a, b⟩ := hf x hx
    exact Fit.two kR a b
theorem OddI.lst {R n : Nat} {S0 : Sto} (h : OddI o R n S0 S) : isLst S (.obj R) = true := by
  obtain ⟨xs, h1, h2, h3⟩ := h.ob
  simp [isLst, h1]
theorem l10 : (10 ≤ lim) = True := by simp [lim]
theorem l16 : (16 ≤ lim) = True := by simp [lim]
theorem f_odd (hs : SrcAt S o) {r : Int} (hL : 2 ≤ L) (q : ∀ U d', Kp o S U → SrcAt U o → Fit 3 o U 5 d' → Q d' U) : wp (cf G L 36 [.obj o, .int r] S) Q := by
  obtain ⟨L, rfl⟩ : ∃ k, L = k + 1 := ⟨L - 1, by omega⟩
  refine wp_cf rfl [some (.obj o), some (.int r), none] rfl rfl ?_
  have hlt := hs.lt
  unfold d_l_law_odd_paper
  refine ws_let (fun d S' => d = .obj (S.length + 1) ∧ OddI o (S.length + 1) 10 S S') ?_ ?_
  · simp [l1, l2, l3, l5, l10]
    refine ⟨⟨[D.non, D.int 0, D.str (Str.ofString "apart"), D.str (Str.ofString "alike"), D.tup [],
                  D.tup [D.str (Str.ofString "apart")], D.tup [D.str (Str.ofString "alike")],
                  D.tup [D.str (Str.ofString "apart"), D.tup []], D.tup [D.str (Str.ofString "alike"), D.tup []],
                  D.obj (List.length S)], by simp, by simp, ?_⟩, Kp.of (List.prefix_append _ _), hs.app⟩
    intro x hx
    simp only [List.mem_cons, List.not_mem_nil, or_false] at hx
    rcases hx with rfl | rfl | rfl | rfl | rfl | rfl | rfl | rfl | rfl | rfl
    all_goals simp [Fit, okA, okB]
    all_goals omega
  rintro d S1 ⟨rfl, h1⟩
  simp only [List.set_cons_zero, List.set_cons_succ]
  refine ws_then (fun e' S' => e' = [some (.obj o), some (.int r), some (.obj (S.length + 1))] ∧ OddI o (S.length + 1) 15 S S') ?_ ?_
  · rw [ws_drop]
    refine wp_ext (R := S.length + 1) (by simp) h1.lst ?_
    simp [l1, l2, l3, l5]
    have hl := h1.kp.len
    obtain ⟨xs, g1, g2, g3⟩ := h1.ext (m := 5) (S1 := S1 ++ [O.lst [D.tup [], D.tup []]]) (zs := [D.tup [D.str (Str.ofString "apart"), D.tup [], D.tup []],
                                D.tup [D.str (Str.ofString "alike"), D.tup [D.tup [], D.tup []]],
                                D.tup [D.str (Str.ofString "alike"), D.obj (List.length S1)],
                                D.tup [D.str (Str.ofString "apart"), D.tup [D.int 0, D.int 0, D.tup []]],
                                D.tup [D.str (Str.ofString "apart"), D.tup [D.int 1, D.int 0, D.tup []]]]) (by omega) (by omega) (List.prefix_append _ _) (by simp) (by
      intro x hx
      have hne : S1.length ≠ S.length + 1 := fun h => by
        obtain ⟨xs, a, _⟩ := h1.ob
        have := (List.getElem?_eq_some_iff.mp a).1
        omega
      simp only [List.mem_cons, List.not_mem_nil, or_false] at hx
      rcases hx with rfl | rfl | rfl | rfl | rfl
      all_goals simp [Fit, okA, okB, hne]
      all_goals omega)
    exact ⟨xs, g1, by simp [lim]; omega, g3⟩
  rintro e' S2 ⟨rfl, h2⟩
  refine ws_then (fun e' S' => e' = [some (.obj o), some (.int r), some (.obj (S.length + 1))] ∧ OddI o (S.length + 1) 20 S S') ?_ ?_
  · rw [ws_drop]
    refine wp_ext (R := S.length + 1) (by simp) h2.lst ?_
    simp [l1, l2, l3, l5]
    have hl := h2.kp.len
    obtain ⟨xs, g1, g2, g3⟩ := h2.ext (m := 5) (S1 := S2 ++ [O.lst [D.int 0, D.int 0, D.tup []]]) (zs := [D.tup [D.str (Str.ofString "apart"), D.obj (List.length S2)],
                                D.tup [D.str (Str.ofString "Alike"), D.tup []],
                                D.tup [D.bl true, D.tup []],
                                D.tup [D.str (Str.ofString "alike"), D.non],
                                D.tup [D.str (Str.ofString "alike"), D.tup [D.tup [D.tup [D.int 0, D.tup []]], D.tup [D.tup [D.int 0, D.tup []]]]]]) (by omega) (by omega) (List.prefix_append _ _) (by simp) (by
      intro x hx
      have hne : S2.length ≠ S.length + 1 := fun h => by
        obtain ⟨xs, a, _⟩ := h2.ob
        have := (List.getElem?_eq_some_iff.mp a).1
        omega
      simp only [List.mem_cons, List.not_mem_nil, or_false] at hx
      rcases hx with rfl | rfl | rfl | rfl | rfl
      all_goals simp [Fit, okA, okB, okC, hne]
      all_goals omega)
    exact ⟨xs, g1, by simp [lim]; omega, g3⟩
  rintro e' S3 ⟨rfl, h3⟩
  refine ws_then (fun e' S' => e' = [some (.obj o), some (.int r), some (.obj (S.length + 1))] ∧ OddI o (S.length + 1) 21 S S') ?_ ?_
  · rw [ws_drop]
    refine wp_app1 (R := S.length + 1) (by simp) h3.lst ?_
    simp [l1, l2, l3, l5]
    have hl := h3.kp.len
    obtain ⟨xs, g1, g2, g3⟩ := h3.ext (m := 1) (S1 := S3) (zs := [D.tup [D.str (Str.ofString "apart"), D.tup [D.int r, D.int 0, D.tup [D.tup []]]]]) (by omega) (by omega) (List.prefix_refl _) (by simp) (by
      intro x hx
      simp only [List.mem_cons, List.not_mem_nil, or_false] at hx
      subst hx
      simp [Fit, okA])
    exact ⟨xs, g1, by simp [lim]; omega, g3⟩
  rintro e' S4 ⟨rfl, h4⟩
  obtain ⟨xs, g1, g2, g3⟩ := h4.ob
  simp
  refine ⟨_, seq_lst g1, ?_⟩
  refine f_draw' h4.sr (by omega) (by omega) (by omega) fun U v k3 s3 hv => ?_
  have g1' := k3.at g1 (by omega)
  have hvl : v < xs.length := by omega
  refine ixW (i := v) (xs := xs) (seq_lst g1') hvl ?_
  exact q _ _ (h4.kp.trans k3) s3 ((g3 _ (List.getElem_mem hvl)).1.mono k3 (Nat.le_refl _) (Nat.le_refl _))
end
end Mini
end

section
set_option Elab.async false
set_option linter.all false
set_option maxRecDepth 100000
set_option maxHeartbeats 4000000
namespace Mini
open PySem PySem.Spec PyProof.Rows L2
/-! k84: the table's checks, cuts and flat forms. -/
section
variable {G : Gl} {k : Nat} {S : Sto} {d x : D} {Q : D → Sto → Prop} {T : List Int} {P A B : List (List Int)} {o L R : Nat} {e : Env'} {t : Int}
theorem flatDs_ints : ∀ pts : List Nat, flatDs (pts.map fun (p : Nat) => D.int p) = some (pts.map fun (p : Nat) => V.int p)
  | [] => rfl
  | p :: ps => by simp [flatDs, flatD, flatDs_ints ps]
theorem inV_ints {p : Nat} {pts : List Nat} : inV (.int p) (pts.map fun (p : Nat) => V.int p) = decide (p ∈ pts) := by
  rw [Bool.eq_iff_iff]
  simp [inV, List.any_eq_true, eqV]
  constructor
  · rintro ⟨x, h, e⟩
    obtain rfl : x = p := by omega
    exact h
  · intro h
    exact ⟨p, h, rfl⟩
theorem opNotIn_Q {p : Nat} {pts : List Nat} (q : Q (.bl (!decide (p ∈ pts))) S) : wp (opIn true (.int p) (dQ pts) S) Q := by
  unfold opIn
  simp only [seq_dQ, flatDs_ints, flatD, inV_ints]
  exact q
theorem wp_bTru_seq {f : FE} {QB : Bool → Sto → Prop} (hf : wp (f e S) fun d S1 => ∃ R xs, d = .obj R ∧ seqOf S1 d = some xs ∧ QB (!xs.isEmpty) S1) : wp (bTru f e S) QB := by
  unfold bTru
  rw [wp_bnd]
  refine wp_imp hf fun d S1 ⟨R, xs, h1, h2, h3⟩ => ?_
  subst h1
  simp only [h2]
  exact h3
theorem f_sequence' {L : Nat} (hL : 1 ≤ L) {xs : List D} (h : S[R]? = some (.lst xs)) (q : Q (.bl true) S) : wp (cf G L 3 [.obj R] S) Q := by
  obtain ⟨L, rfl⟩ : ∃ k, L = k + 1 := ⟨L - 1, by omega⟩
  exact f_is_sequence (seq_lst h) (by intro ns; simp) q
theorem f_below' {L : Nat} (hL : 2 ≤ L) (h : Typ S d) {n : Int} (q : Q (.bl (isBel n d)) S) : wp (cf G L 5 [d, .int n] S) Q := by
  obtain ⟨L, rfl⟩ : ∃ k, L = k + 2 := ⟨L - 2, by omega⟩
  exact f_is_below h q
theorem f_shape' {L : Nat} (hL : 4 ≤ L) (hp : Pic t P) (q : Q (.bl true) S) : wp (cf G L 8 [dP P, .int t] S) Q := by
  obtain ⟨L, rfl⟩ : ∃ k, L = k + 4 := ⟨L - 4, by omega⟩
  exact f_is_shape hp q
theorem f_check_turn (hL : 3 ≤ L) (hT : Turn t T) (h : S[R]? = some (.lst (T.map D.int))) (q : Q .non S) : wp (cf G L 6 [.obj R] S) Q := by
  obtain ⟨L, rfl⟩ : ∃ k, L = k + 1 := ⟨L - 1, by omega⟩
  refine wp_cf rfl [some (.obj R), none, none] rfl rfl ?_
  have h1 := hT.len
  have h2 := hT.few
  have h3 := hT.pos
  have hsq : seqOf S (.obj R) = some (T.map D.int) := seq_lst h
  unfold d_check_turn
  rw [ws_seq]
  refine ws_skip (Pr := True) ?_ fun _ => ?_
  · simp
    refine f_sequence' (by omega) h ?_
    refine .inr ⟨rfl, ?_⟩
    refine wp_bTru_seq ?_
    simp
    refine ⟨_, hsq, ?_⟩
    simp
    intro h0
    subst h0
    simp at h1; omega
  rw [ws_seq, ws_for]
  simp only [wp_enum1, wp_eVar]
  refine ⟨_, rfl, by simp [hsq], ?_⟩
  refine ws_loop ((List.range T.length).zip T |>.map fun p => .tup [.int p.1, .int p.2]) (fun i e S' => ∃ x y, e = [some (.obj R), x, y] ∧ S' = S) (by simp [lim]; omega) ⟨_, _, rfl, rfl⟩ (fun i e S' ⟨x, y, he, hS⟩ hi => ?_) (fun e S' ⟨x, y, he, hS⟩ => ?_)
  · subst he hS
    simp at hi
    refine ⟨by simp [itEnum, hsq, hi], ?_⟩
    simp [hi, gTupD, gAll, gVar]
    refine ⟨_, hsq, ?_⟩
    refine f_below' (by omega) typ_int ?_
    have := hT.low _ (List.getElem_mem hi)
    simp [isBel, h1, this]
  · subst he hS
    refine ⟨by simp [itEnum, hsq], ?_⟩
    rw [ws_seq, ws_for]
    simp only [wp_enum1, wp_eVar]
    refine ⟨_, rfl, by simp [hsq], ?_⟩
    refine ws_loop ((List.range T.length).zip T |>.map fun p => .tup [.int p.1, .int p.2]) (fun i e S2 => ∃ x y, e = [some (.obj R), x, y] ∧ S2 = S') (by simp [lim]; omega) ⟨_, _, rfl, rfl⟩ (fun i e S2 ⟨x, y, he, hS⟩ hi => ?_) (fun e S2 ⟨x, y, he, hS⟩ => ?_)
    · subst he hS
      simp at hi
      refine ⟨by simp [itEnum, hsq, hi], ?_⟩
      simp [hi, gTupD, gAll, gVar]
      have hl := hT.low _ (List.getElem_mem hi)
      have hv := hT.inv i hi
      have hc : T[i] = (T[i].toNat : Int) := by omega
      have ht : T[i].toNat < T.length := by omega
      rw [hc]
      refine ixW (i := T[i].toNat) (xs := T.map D.int) hsq (by simpa using ht) ?_
      rw [List.getElem?_eq_getElem ht] at hv
      simp at hv
      simp [hv]
    · subst he hS
      refine ⟨by simp [itEnum, hsq], ?_⟩
      exact q
theorem f_check_bars (hL : 5 ≤ L) {bs : List (List (List Int))} (hb : ∀ P ∈ bs, Pic t P ∧ P.length = 3) (hl : bs.length ≤ 16) (h : S[R]? = some (.lst (bs.map dP))) (q : Q .non S) : wp (cf G L 9 [.obj R, .int t] S) Q := by
  obtain ⟨L, rfl⟩ : ∃ k, L = k + 1 := ⟨L - 1, by omega⟩
  refine wp_cf rfl [some (.obj R), some (.int t), none, none] rfl rfl ?_
  have hsq : seqOf S (.obj R) = some (bs.map dP) := seq_lst h
  unfold d_check_bars
  rw [ws_seq]
  refine ws_skip (Pr := True) ?_ fun _ => ?_
  · simp
    refine f_sequence' (by omega) h ?_
    exact .inr ⟨rfl, rfl⟩
  rw [ws_seq, ws_for]
  simp only [wp_enum1, wp_eVar]
  refine ⟨_, rfl, by simp [hsq], ?_⟩
  refine ws_loop ((List.range bs.length).zip bs |>.map fun p => .tup [.int p.1, dP p.2]) (fun i e S' => ∃ x y, e = [some (.obj R), some (.int t), x, y] ∧ S' = S) (by simp [lim]; omega) ⟨_, _, rfl, rfl⟩ (fun i e S' ⟨x, y, he, hS⟩ hi => ?_) (fun e S' ⟨x, y, he, hS⟩ => ?_)
  · subst he hS
    simp at hi
    refine ⟨by simp [itEnum, hsq, hi], ?_⟩
    simp [hi, gTupD, gAll, gVar]
    obtain ⟨h1, h2⟩ := hb _ (List.getElem_mem hi)
    refine f_shape' (by omega) h1 ?_
    refine .inr ⟨rfl, _, rfl, by simp [lim], ?_⟩
    rw [List.length_map, h2]
    have hh : opIn true (.int (3 : Nat)) (.tup [.int 3, .int 4]) S' = some (.val (.bl false) S') := by rfl
    refine wp_at hh ?_
    simp
  · subst he hS
    refine ⟨by simp [itEnum, hsq], ?_⟩
    exact q
theorem f_by_size {P : List (List Int)} (hL : 1 ≤ L) : cf G L 12 [dP P] S = some (.val (.tup [.int P.length, dP P]) S) := by
  have : wp (cf G L 12 [dP P] S) fun d S' => d = .tup [.int P.length, dP P] ∧ S' = S := by
    obtain ⟨L, rfl⟩ : ∃ k, L = k + 1 := ⟨L - 1, by omega⟩
    refine wp_cf rfl [some (dP P)] rfl rfl ?_
    simp [d_by_size, l2]
    exact ⟨_, rfl, by simp⟩
  obtain ⟨a, S', h1, h2, h3⟩ := wp_ex this
  rw [h1, h2, h3]
end
end Mini
end

section
set_option Elab.async false
set_option linter.all false
set_option maxRecDepth 100000
set_option maxHeartbeats 4000000
namespace Mini
open PySem PySem.Spec PyProof.Rows L2
/-! k84: least_shape. -/
def cellF (T : List Int) (P : List (List Int)) (b a : Nat) : D := if a = b then .non else .int (tieV T P a b)
def FullAt (S : Sto) (F : Nat) (T : List Int) (P : List (List Int)) (base : Nat) : Prop := base ≤ F ∧ ∃ as : List Nat, as.length = P.length ∧ S[F]? = some (.lst (as.map D.obj)) ∧ ∀ b (hb : b < as.length), base ≤ as[b] ∧ S[as[b]]? = some (.lst ((List.range P.length).map (cellF T P b)))
theorem FullAt.kp {S S' : Sto} {F o base : Nat} {T : List Int} {P : List (List Int)} (h : FullAt S F T P base) (k : Kp o S S') (ho : o < base) : FullAt S' F T P base := by
  obtain ⟨h0, as, h1, h2, h3⟩ := h
  exact ⟨h0, as, h1, k.at h2 (by omega), fun b hb => ⟨(h3 b hb).1, k.at (h3 b hb).2 (by have := (h3 b hb).1; omega)⟩⟩
structure Ws (n i : Nat) (w : List Nat) : Prop where
  len : w.length = i
  low : ∀ x ∈ w, x < n
  nd : w.Nodup
theorem pigeon : ∀ (n : Nat) (w : List Nat), (∀ p < n, p ∈ w) → n ≤ w.length
  | 0, _, _ => Nat.zero_le _
  | n + 1, w, h => by
    have hm := h n (by omega)
    have := pigeon n (w.erase n) fun p hp => (List.mem_erase_of_ne (by omega)).mpr (h p (by omega))
    rw [List.length_erase_of_mem hm] at this
    have := List.length_pos_of_mem hm
    omega
theorem Ws.free {n i : Nat} {w : List Nat} (h : Ws n i w) (hi : i < n) (all : ∀ p < n, p ∈ w) : False := by
  have := pigeon n w all
  have := h.len
  omega
theorem Ws.add {n i : Nat} {w : List Nat} (h : Ws n i w) {p : Nat} (hp : p < n) (hn : p ∉ w) : Ws n (i + 1) (w ++ [p]) := by
  refine ⟨by simp [h.len], fun x hx => ?_, ?_⟩
  · rcases List.mem_append.mp hx with hx | hx
    · exact h.low x hx
    · simp at hx; omega
  · rw [List.nodup_append]
    refine ⟨h.nd, by simp, fun a ha b hb => ?_⟩
    simp at hb
    subst hb
    intro e
    subst e
    exact hn ha
/-- the best row so far with what is kept for it -/
def BestI (t : Int) (i : Nat) (bd : D) (kept : List (List Nat)) : Prop := ∃ br : List Int, bd = dI br ∧ br.length = i ∧ (∀ x ∈ br, 0 ≤ x ∧ x < t) ∧ kept ≠ []
section
variable {G : Gl} {k : Nat} {S : Sto} {d x : D} {Q : D → Sto → Prop} {T : List Int} {P A B : List (List Int)} {o L R : Nat} {e : Env'} {t : Int}
theorem wp_opLtT {a b : List Int} : wp (opLt (dI a) (dI b) S) Q ↔ Q (.bl (HT.lexLt a b)) S := by
  unfold opLt dI
  simp only [asInts_map]
  exact Iff.rfl
theorem eq_dI {a b : List Int} (ha : a.length ≤ 30) (hb : b.length ≤ 30) : eqD S (dI a) (dI b) = some (decide (a = b)) := by
  obtain ⟨c, h1, h2⟩ := eqD_shp (S := S) (n := 0) (by omega) ⟨a, rfl, ha⟩ ⟨b, rfl, hb⟩
  rw [h1]
  congr 1
  rw [Bool.eq_iff_iff, h2, dI_inj]
  simp
theorem tie' (hL : 1 ≤ L) (hT : Turn t T) (hP : Pic t P) {i j : Nat} (hi : i < P.length) (hj : j < P.length) (hne : i ≠ j) (q : Q (.int (tieV T P i j)) S) : wp (cf G L 10 [dI T, dP P, .int i, .int j] S) Q := by
  obtain ⟨L, rfl⟩ : ∃ k, L = k + 1 := ⟨L - 1, by omega⟩
  exact (tie_W hT hP hi hj hne q).1
/-- a row of a full table -/
theorem f_least (hL : 2 ≤ L) (hs : SrcAt S o) (hT : Turn t T) (hP : Pic t P) (hn : P.length ≤ 4) (q : ∀ U M, Kp o S U → SrcAt U o → Pic t M → M.length = P.length → Q (dP M) U) : wp (cf G L 11 [dI T, dP P] S) Q := by
  obtain ⟨L, rfl⟩ : ∃ k, L = k + 1 := ⟨L - 1, by omega⟩
  obtain ⟨pd, hpd⟩ : ∃ pd, pd = dP P := ⟨_, rfl⟩
  rw [← hpd]
  refine wp_cf rfl [some (dI T), some pd, none, none, none, none, none, none, none, none, none, none, none, none, none] rfl rfl ?_
  have hlt := hs.lt
  generalize hN : P.length = n at *
  unfold d_least_shape
  refine ws_let (fun d S' => d = .rng 0 n ∧ S' = S) ?_ ?_
  · simp [hpd]
    exact ⟨_, rfl, by simp [hN]⟩
  rintro rg S1 ⟨hrg, rfl⟩
  refine ws_let (fun d S' => ∃ F, d = .obj F ∧ FullAt S' F T P S1.length ∧ S1 <+: S') ?_ ?_
  · simp
    refine ⟨by rw [hrg]; simp; omega, ?_⟩
    refine wp_comp ((List.range n).map fun (i : Nat) => D.int i) (fun i acc S' => S1 <+: S' ∧ ∃ as : List Nat, acc = as.map D.obj ∧ as.length = i ∧ ∀ b (hb : b < as.length), S1.length ≤ as[b] ∧ S'[as[b]]? = some (.lst ((List.range n).map (cellF T P b)))) (by simp [lim]; omega) ⟨List.prefix_refl _, [], rfl, rfl, by simp⟩ (fun i acc S' ⟨h1, as, e1, e2, h2⟩ hi ha => ?_) (fun acc S' ⟨h1, as, e1, e2, h2⟩ => ?_)
    · subst e1
      simp at hi
      refine ⟨by simp [hrg, it_rng, hi], _, rfl, ?_⟩
      simp [hi, bTrue, wipeE]
      refine ⟨by rw [hrg]; simp; omega, ?_⟩
      refine wp_comp ((List.range n).map fun (i : Nat) => D.int i) (fun j acc S2 => S2 = S' ∧ acc = (List.range j).map (cellF T P i)) (by simp [lim]; omega) ⟨rfl, rfl⟩ (fun j acc S2 ⟨g1, g2⟩ hj ha => ?_) (fun acc S2 ⟨g1, g2⟩ => ?_)
      · subst g1 g2
        simp at hj
        refine ⟨by simp [hrg, it_rng, hj], _, rfl, ?_⟩
        simp [hj, bTrue, wipeE]
        by_cases hji : j = i
        · refine .inr ⟨by omega, ?_⟩
          simp [List.range_succ, cellF, hji]
        · refine .inl ⟨by omega, ?_⟩
          rw [hpd]
          refine tie' (by omega) hT hP (by omega) (by omega) hji ?_
          refine ⟨rfl, ?_⟩
          simp [List.range_succ, cellF, hji]
      · subst g1 g2
        refine ⟨by simp [hrg, it_rng], ?_⟩
        refine ⟨h1.trans (List.prefix_append _ _), as ++ [S2.length], by simp, by simp [e2], ?_⟩
        intro b hb
        by_cases hbl : b < as.length
        · rw [List.getElem_append_left hbl]
          exact ⟨(h2 b hbl).1, get_pre (h2 b hbl).2 (List.prefix_append _ _)⟩
        · simp at hb
          have : b = as.length := by omega
          subst this
          refine ⟨by simp; exact h1.length_le, ?_⟩
          simp [e2]
    · subst e1
      simp at e2
      refine ⟨by simp [hrg, it_rng], ?_⟩
      refine ⟨⟨h1.length_le, as, by omega, by simp, fun b hb => ⟨(h2 b hb).1, ?_⟩⟩, h1.trans (List.prefix_append _ _)⟩
      rw [hN]
      exact get_pre (h2 b hb).2 (List.prefix_append _ _)
  rintro d S2 ⟨F, rfl, hF, p2⟩
  have s2 := pre_src hs p2
  have hl2 := p2.length_le
  refine ws_let (fun d S' => d = .obj S2.length ∧ S' = S2 ++ [.lst [dQ []]]) ?_ ?_
  · simp [l1, dQ_eq]
  rintro d S3 ⟨rfl, hS3⟩
  refine ws_let (fun d S' => d = .obj S3.length ∧ S' = S3 ++ [.lst []]) ?_ ?_
  · simp [l1]
  rintro d S4 ⟨rfl, hS4⟩
  simp only [List.set_cons_zero, List.set_cons_succ]
  have k4 : Kp o S2 S4 := by
    rw [hS4, hS3]; exact (Kp.of (List.prefix_append _ _)).trans (Kp.of (List.prefix_append _ _))
  have s4 : SrcAt S4 o := by
    rw [hS4, hS3]; exact s2.app.app
  have g4 : S4[S2.length]? = some (.lst ([[]].map dQ)) := by rw [hS4, hS3]; simp
  have r4 : S4[S3.length]? = some (.lst (([] : List (List Int)).map dI)) := by rw [hS4, hS3]; simp
  have hRr : S3.length = S2.length + 1 := by rw [hS3]; simp
  clear hS4 hS3
  generalize S3.length = Rr at *
  rw [ws_seq, ws_for]
  simp only [wp_fVal, wp_eVar]
  refine ⟨rg, rfl, by rw [hrg]; simp; omega, ?_⟩
  refine ws_loop ((List.range n).map fun (i : Nat) => D.int i) (fun i e S' => ∃ (st : Nat) (wl : List (List Nat)) (M : List (List Int)) (y6 y7 y8 y9 y11 y13 : Option D), e = [some (dI T), some pd, some rg, some (.obj F), some (.obj st), some (.obj Rr), y6, y7, y8, y9, none, y11, none, y13, none] ∧ S'[st]? = some (.lst (wl.map dQ)) ∧ S2.length ≤ st ∧ st ≠ Rr ∧ wl ≠ [] ∧ wl.length ≤ 5 ^ i ∧ (∀ w ∈ wl, Ws n i w) ∧ S'[Rr]? = some (.lst (M.map dI)) ∧ M.length = i ∧ Pic t M ∧ Kp o S2 S' ∧ SrcAt S' o) (by simp [lim]; omega)
    ⟨S2.length, [[]], [], none, none, none, none, none, none, rfl, g4, Nat.le_refl _, by omega, by simp, by simp, by simp; exact ⟨rfl, by simp, by simp⟩, r4, rfl, ⟨by simp, by simp, by simp⟩, k4, s4⟩
    (fun i e S' ⟨st, wl, M, y6, y7, y8, y9, y11, y13, he, gst, hst, hsR, hne, hwl, hws, gR, hM, picM, kp, sr⟩ hi => ?_) (fun e S' ⟨st, wl, M, y6, y7, y8, y9, y11, y13, he, gst, hst, hsR, hne, hwl, hws, gR, hM, picM, kp, sr⟩ => ?_)
  · subst he
    simp at hi
    have h55 := pow5_le (i := i) (by omega)
    have h56 : 5 ^ (i + 1) = 5 ^ i * 5 := Nat.pow_succ ..
    refine ⟨by simp [hrg, it_rng, hi], _, rfl, ?_⟩
    simp only [List.getElem_map, List.getElem_range, List.set_cons_zero, List.set_cons_succ]
    refine ws_let (fun d S6 => d = .non ∧ S6 = S') (by simp) ?_
    rintro d S6 ⟨rfl, rfl⟩
    refine ws_let (fun d S7 => d = .obj S6.length ∧ S7 = S6 ++ [.lst []]) (by simp) ?_
    rintro d S7 ⟨rfl, hS7⟩
    simp only [List.set_cons_zero, List.set_cons_succ]
    have lst6 := (List.getElem?_eq_some_iff.mp gst).1
    have lR6 := (List.getElem?_eq_some_iff.mp gR).1
    have g7 : S7[S6.length]? = some (.lst (([] : List (List Nat)).map dQ)) := by rw [hS7]; simp
    have p7 : S6 <+: S7 := by rw [hS7]; exact List.prefix_append _ _
    rw [ws_seq, ws_for]
    simp only [wp_fVal, wp_eVar]
    refine ⟨.obj st, rfl, by simp [okIt, seq_lst (get_pre gst p7)], ?_⟩
    refine ws_loop (wl.map dQ) (fun m e S8 => ∃ (bd : D) (kp : Nat) (kept : List (List Nat)) (y9 y11 y13 : Option D), e = [some (dI T), some pd, some rg, some (.obj F), some (.obj st), some (.obj Rr), some (.int i), some bd, some (.obj kp), y9, none, y11, none, y13, none] ∧ S8[kp]? = some (.lst (kept.map dQ)) ∧ S6.length ≤ kp ∧ S8[st]? = some (.lst (wl.map dQ)) ∧ S8[Rr]? = some (.lst (M.map dI)) ∧ Kp o S2 S8 ∧ SrcAt S8 o ∧ kept.length ≤ m * n ∧ (∀ w ∈ kept, Ws n (i + 1) w) ∧ ((bd = .non ∧ kept = [] ∧ m = 0) ∨ BestI t i bd kept)) (by simp [lim]; omega)
      ⟨.non, S6.length, [], y9, y11, y13, rfl, g7, Nat.le_refl _, get_pre gst p7, get_pre gR p7, kp.trans (Kp.of p7), pre_src sr p7, by simp, by simp, .inl ⟨rfl, rfl, rfl⟩⟩
      (fun m e S8 ⟨bd, kp8, kept, y9, y11, y13, he, gk, hkp, gst8, gR8, k8, sr8, hkl, hkw, hb⟩ hm => ?_) (fun e S8 ⟨bd, kp8, kept, y9, y11, y13, he, gk, hkp, gst8, gR8, k8, sr8, hkl, hkw, hb⟩ => ?_)
    · subst he
      simp at hm
      have hw := hws wl[m] (List.getElem_mem hm)
      refine ⟨by simp [itVal, seq_lst gst8, hm], _, rfl, ?_⟩
      simp only [List.getElem_map, List.set_cons_zero, List.set_cons_succ]
      generalize wl[m] = w at hw
      have hm5 : m * n + n ≤ 3125 * 4 := by
        have a1 : (m + 1) * n ≤ 3125 * 4 := Nat.mul_le_mul (by omega) (by omega)
        rw [Nat.add_mul] at a1
        omega
      rw [ws_seq, ws_for]
      simp only [wp_fVal, wp_eVar]
      refine ⟨rg, rfl, by rw [hrg]; simp; omega, ?_⟩
      refine ws_loop ((List.range n).map fun (i : Nat) => D.int i) (fun j e S9 => ∃ (bd : D) (kp : Nat) (kept : List (List Nat)) (y11 y13 : Option D), e = [some (dI T), some pd, some rg, some (.obj F), some (.obj st), some (.obj Rr), some (.int i), some bd, some (.obj kp), some (dQ w), none, y11, none, y13, none] ∧ S9[kp]? = some (.lst (kept.map dQ)) ∧ S6.length ≤ kp ∧ S9[st]? = some (.lst (wl.map dQ)) ∧ S9[Rr]? = some (.lst (M.map dI)) ∧ Kp o S2 S9 ∧ SrcAt S9 o ∧ kept.length ≤ m * n + j ∧ (∀ w ∈ kept, Ws n (i + 1) w) ∧ ((bd = .non ∧ kept = [] ∧ m = 0 ∧ ∀ p < j, p ∈ w) ∨ BestI t i bd kept)) (by simp [lim]; omega)
        ⟨bd, kp8, kept, y11, y13, rfl, gk, hkp, gst8, gR8, k8, sr8, by omega, hkw, by
          rcases hb with ⟨a, b, c⟩ | hb
          · exact .inl ⟨a, b, c, by simp⟩
          · exact .inr hb⟩
        (fun j e S9 ⟨bd, kp9, kept, y11, y13, he, gk, hkp, gst9, gR9, k9, sr9, hkl, hkw, hb⟩ hj => ?_) (fun e S9 ⟨bd, kp9, kept, y11, y13, he, gk, hkp, gst9, gR9, k9, sr9, hkl, hkw, hb⟩ => ?_)
      · subst he
        simp at hj
        refine ⟨by simp [hrg, it_rng, hj], _, rfl, ?_⟩
        simp only [List.getElem_map, List.getElem_range, List.set_cons_zero, List.set_cons_succ]
        rw [ws_seq, ws_if]
        simp only [wp_bVal, wp_op2, wp_eVar]
        refine ⟨_, rfl, _, rfl, opNotIn_Q ⟨_, rfl, ?_, ?_⟩⟩
        · intro hnot
          have hnw : j ∉ w := by simpa using hnot
          refine ws_let (fun d S10 => d = dI (w.map fun a => tieV T P a j) ∧ S10 = S9) ?_ ?_
          · obtain ⟨_, as, ha1, ha2, ha3⟩ := hF.kp k9 (by omega)
            simp
            refine ⟨by rw [dQ_eq]; rfl, ?_⟩
            refine wp_comp (w.map fun (p : Nat) => D.int p) (fun l acc S10 => S10 = S9 ∧ acc = (w.take l).map fun a => D.int (tieV T P a j)) (by simp [lim, hw.len]; omega) ⟨rfl, rfl⟩ (fun l acc S10 ⟨g1, g2⟩ hl ha => ?_) (fun acc S10 ⟨g1, g2⟩ => ?_)
            · subst g1 g2
              simp at hl
              have hwl := hw.low _ (List.getElem_mem hl)
              refine ⟨by rw [dQ_eq]; simp [itVal, hl], _, rfl, ?_⟩
              simp [bTrue, wipeE]
              refine ixW (i := j) (xs := as.map D.obj) (seq_lst ha2) (by simp; omega) ?_
              obtain ⟨b1, b2⟩ := ha3 j (by omega)
              simp only [List.getElem_map]
              refine ixW (i := w[l]) (xs := (List.range P.length).map (cellF T P j)) (seq_lst b2) (by simp; omega) ?_
              have hne : w[l] ≠ j := fun h => hnw (h ▸ List.getElem_mem hl)
              refine ⟨rfl, ?_⟩
              rw [List.take_succ_eq_append_getElem (by simpa using hl)]
              simp [cellF, hne]
            · subst g1 g2
              refine ⟨by rw [dQ_eq]; simp [itVal], ?_⟩
              simp [dI]
          rintro d S10 ⟨rfl, rfl⟩
          simp only [List.set_cons_zero, List.set_cons_succ]
          have hrl : (w.map fun a => tieV T P a j).length = i := by simp [hw.len]
          have hrlow : ∀ x ∈ (w.map fun a => tieV T P a j), 0 ≤ x ∧ x < t := by
            intro x hx
            obtain ⟨a, ha, rfl⟩ := List.mem_map.mp hx
            have := hw.low a ha
            exact tie_core hT hP (by omega) (by omega) (fun h => hnw (h ▸ ha))
          generalize (w.map fun a => tieV T P a j) = row at hrl hrlow
          have hi4 : i ≤ 30 := by omega
          refine ws_then (fun e' S11 => ∃ (bd : D) (kp : Nat) (kept : List (List Nat)), e' = [some (dI T), some pd, some rg, some (.obj F), some (.obj st), some (.obj Rr), some (.int i), some bd, some (.obj kp), some (dQ w), none, some (.int j), none, some (dI row), none] ∧ S11[kp]? = some (.lst (kept.map dQ)) ∧ S6.length ≤ kp ∧ S11[st]? = some (.lst (wl.map dQ)) ∧ S11[Rr]? = some (.lst (M.map dI)) ∧ Kp o S2 S11 ∧ SrcAt S11 o ∧ kept.length ≤ m * n + j ∧ (∀ w ∈ kept, Ws n (i + 1) w) ∧ (bd = dI row ∨ (BestI t i bd kept))) ?_ ?_
          · have hnew : ∀ N' R', (∃ (bd : D) (kp : Nat) (kept : List (List Nat)), ([some (dI T), some pd, some rg, some (.obj F), some (.obj st), some (.obj Rr), some (.int i), some (dI row), some (.obj S10.length), some (dQ w), none, some (.int j), none, some (dI row), none] : Env') = [some (dI T), some pd, some rg, some (.obj F), some (.obj st), some (.obj Rr), some (.int i), some bd, some (.obj kp), some (dQ w), none, some (.int j), none, some (dI row), none] ∧ (S10 ++ [O.lst []])[kp]? = some (.lst (kept.map dQ)) ∧ S6.length ≤ kp ∧ (S10 ++ [O.lst []])[st]? = some (.lst (wl.map dQ)) ∧ (S10 ++ [O.lst []])[Rr]? = some (.lst (M.map dI)) ∧ Kp o S2 (S10 ++ [O.lst []]) ∧ SrcAt (S10 ++ [O.lst []]) o ∧ kept.length ≤ m * n + j ∧ (∀ w ∈ kept, Ws n (i + 1) w) ∧ (bd = dI row ∨ (BestI t i bd kept))) = (N' ∨ R') → True := fun _ _ _ => trivial
            have hl10 := (List.getElem?_eq_some_iff.mp gk).1
            have new : ∃ (bd : D) (kp : Nat) (kept : List (List Nat)), ([some (dI T), some pd, some rg, some (.obj F), some (.obj st), some (.obj Rr), some (.int i), some (dI row), some (.obj S10.length), some (dQ w), none, some (.int j), none, some (dI row), none] : Env') = [some (dI T), some pd, some rg, some (.obj F), some (.obj st), some (.obj Rr), some (.int i), some bd, some (.obj kp), some (dQ w), none, some (.int j), none, some (dI row), none] ∧ (S10 ++ [O.lst []])[kp]? = some (.lst (kept.map dQ)) ∧ S6.length ≤ kp ∧ (S10 ++ [O.lst []])[st]? = some (.lst (wl.map dQ)) ∧ (S10 ++ [O.lst []])[Rr]? = some (.lst (M.map dI)) ∧ Kp o S2 (S10 ++ [O.lst []]) ∧ SrcAt (S10 ++ [O.lst []]) o ∧ kept.length ≤ m * n + j ∧ (∀ w ∈ kept, Ws n (i + 1) w) ∧ (bd = dI row ∨ (BestI t i bd kept)) :=
              ⟨dI row, S10.length, [], rfl, by simp, by omega, get_pre gst9 (List.prefix_append _ _), get_pre gR9 (List.prefix_append _ _), k9.trans (Kp.of (List.prefix_append _ _)), sr9.app, by simp, by simp, .inl rfl⟩
            clear hnew
            rw [ws_if]
            simp only [wp_bOr, wp_bVal, wp_op2, wp_eVar, wp_c]
            refine ⟨bd, rfl, ?_⟩
            have his : opIs false bd .non S10 = some (.val (.bl (isNone bd)) S10) := by cases bd <;> rfl
            refine wp_at his ⟨_, rfl, ?_, ?_⟩
            · intro _
              refine ⟨fun _ => ?_, by simp⟩
              simp only [ws_seq, ws_asgV, ws_nil, wp_eVar, wp_new, wp_lst, wp_nil, List.set_cons_zero, List.set_cons_succ]
              exact ⟨_, rfl, by simp, new⟩
            · intro hnn
              rcases hb with ⟨rfl, _⟩ | ⟨br, rfl, hbl, hblow, hkn⟩
              · cases hnn
              refine ⟨_, rfl, _, rfl, wp_opLtT.mpr ⟨_, rfl, ?_, ?_⟩⟩
              · intro _
                simp only [ws_seq, ws_asgV, ws_nil, wp_eVar, wp_new, wp_lst, wp_nil, List.set_cons_zero, List.set_cons_succ]
                exact ⟨_, rfl, by simp, new⟩
              · intro _
                exact ⟨dI br, kp9, kept, rfl, gk, hkp, gst9, gR9, k9, sr9, hkl, hkw, .inr ⟨br, rfl, hbl, hblow, hkn⟩⟩
          · rintro e' S11 ⟨bd', kp11, kept', rfl, gk', hkp', gst', gR', k', sr', hkl', hkw', hb'⟩
            have hadd := fun x hx => (show x ∈ kept' ++ [w ++ [j]] → Ws n (i + 1) x from fun hx => by
              rcases List.mem_append.mp hx with hx | hx
              · exact hkw' x hx
              · simp only [List.mem_singleton] at hx
                subst hx
                exact hw.add hj hnw) hx
            have hl11 := (List.getElem?_eq_some_iff.mp gk').1
            rw [ws_seq, ws_if]
            simp only [wp_bVal, wp_op2, wp_eVar, wp_opEq]
            refine ⟨_, rfl, _, rfl, ?_⟩
            have app : BestI t i bd' (kept' ++ [w ++ [j]]) → ws ((sSeq (sDrop (fApp (eVar 8) (aCons (fOp2 opAdd (eVar 9) (fTup (aCons (eVar 11) aNil))) aNil))) sNil) [some (dI T), some pd, some rg, some (.obj F), some (.obj st), some (.obj Rr), some (.int i), some bd', some (.obj kp11), some (dQ w), none, some (.int j), none, some (dI row), none] S11) (fun e' S' => ws (sNil e' S') (fun e S9 => ∃ (bd : D) (kp : Nat) (kept : List (List Nat)) (y11 y13 : Option D), e = [some (dI T), some pd, some rg, some (.obj F), some (.obj st), some (.obj Rr), some (.int i), some bd, some (.obj kp), some (dQ w), none, y11, none, y13, none] ∧ S9[kp]? = some (.lst (kept.map dQ)) ∧ S6.length ≤ kp ∧ S9[st]? = some (.lst (wl.map dQ)) ∧ S9[Rr]? = some (.lst (M.map dI)) ∧ Kp o S2 S9 ∧ SrcAt S9 o ∧ kept.length ≤ m * n + (j + 1) ∧ (∀ w ∈ kept, Ws n (i + 1) w) ∧ ((bd = .non ∧ kept = [] ∧ m = 0 ∧ ∀ p < (j + 1), p ∈ w) ∨ BestI t i bd kept)) Q) Q := by
              intro hbest
              rw [ws_seq, ws_drop]
              refine wp_app1 (R := kp11) (by simp) (by simp [isLst, gk']) ?_
              simp only [wp_op2, wp_eVar, wp_tup, wp_cons, wp_nil]
              refine ⟨_, rfl, _, rfl, by simp [lim], opAdd_dQ (by simp [lim, hw.len]; omega) ?_⟩
              refine ⟨_, gk', by simp [lim]; omega, ?_⟩
              simp only [ws_nil]
              refine ⟨bd', kp11, kept' ++ [w ++ [j]], _, _, rfl, by simp [hl11], hkp', by rw [List.getElem?_set_ne (by omega)]; exact gst', by rw [List.getElem?_set_ne (by omega)]; exact gR', k'.put (by have := k'.len; omega), sr'.put (by omega), by simp; omega, hadd, .inr hbest⟩
            rcases hb' with rfl | ⟨br, rfl, hbl, hblow, hkn⟩
            · rw [eq_dI (by omega) (by omega)]
              refine ⟨_, rfl, _, rfl, fun _ => ?_, fun h => by simp at h⟩
              exact app ⟨row, rfl, hrl, hrlow, by simp⟩
            · rw [eq_dI (by omega) (by omega)]
              refine ⟨_, rfl, _, rfl, fun _ => ?_, fun _ => ?_⟩
              · exact app ⟨br, rfl, hbl, hblow, by simp⟩
              · simp only [ws_nil]
                exact ⟨dI br, kp11, kept', _, _, rfl, gk', hkp', gst', gR', k', sr', by omega, hkw', .inr ⟨br, rfl, hbl, hblow, hkn⟩⟩
        · intro hin
          have hinw : j ∈ w := by simpa using hin
          simp only [ws_nil]
          refine ⟨bd, kp9, kept, _, _, rfl, gk, hkp, gst9, gR9, k9, sr9, by omega, hkw, ?_⟩
          rcases hb with ⟨a, b, c, d⟩ | hb
          · refine .inl ⟨a, b, c, fun p hp => ?_⟩
            by_cases hpj : p = j
            · subst hpj; exact hinw
            · exact d p (by omega)
          · exact .inr hb
      · subst he
        simp only [List.length_map, List.length_range] at hkl hb
        refine ⟨by simp [hrg, it_rng], ?_⟩
        simp only [ws_nil]
        refine ⟨bd, kp9, kept, _, _, _, rfl, gk, hkp, gst9, gR9, k9, sr9, by rw [Nat.add_mul]; omega, hkw, ?_⟩
        rcases hb with ⟨a, b, c, d⟩ | hb
        · exact (hw.free hi d).elim
        · exact .inr hb
    · subst he
      simp only [List.length_map] at hkl hb
      refine ⟨by simp [itVal, seq_lst gst8], ?_⟩
      have hw0 : wl.length ≠ 0 := by
        intro h
        exact hne (List.length_eq_zero_iff.mp h)
      rcases hb with ⟨a, b, c⟩ | ⟨br, rfl, hbl, hblow, hkn⟩
      · omega
      have hl8 := (List.getElem?_eq_some_iff.mp gR8).1
      refine ws_let (fun d S9 => d = .obj kp8 ∧ S9 = S8) (by simp) ?_
      rintro d S9 ⟨rfl, rfl⟩
      simp only [List.set_cons_zero, List.set_cons_succ]
      rw [ws_seq, ws_drop]
      refine wp_app1 (R := Rr) (by simp) (by simp [isLst, gR8]) ?_
      simp only [wp_eVar]
      refine ⟨_, rfl, _, gR8, by simp [lim]; omega, ?_⟩
      simp only [ws_nil]
      refine ⟨kp8, kept, M ++ [br], _, _, _, _, _, _, rfl, by rw [List.getElem?_set_ne (by omega)]; exact gk, by omega, by omega, hkn, ?_, hkw, by simp [hl8], by simp [hM], picM.app (by omega) (by omega) hblow, k8.put (by omega), sr8.put (by omega)⟩
      rw [h56]
      exact Nat.le_trans hkl (Nat.mul_le_mul hwl (by omega))
  · subst he
    simp at hM
    refine ⟨by simp [hrg, it_rng], ?_⟩
    simp
    refine cTup_W gR ?_
    exact q S' M ((Kp.of p2).trans kp) sr picM hM
end
end Mini
end

section
set_option Elab.async false
set_option linter.all false
set_option maxRecDepth 100000
set_option maxHeartbeats 4000000
namespace Mini
open PySem PySem.Spec PyProof.Rows L2
/-! k84: row_to, cut, flat, barred_orders. -/
section
variable {G : Gl} {k : Nat} {S : Sto} {d x : D} {Q : D → Sto → Prop} {T : List Int} {P A B : List (List Int)} {o L R : Nat} {e : Env'} {t : Int}
theorem f_row_to (hL : 2 ≤ L) (hT : Turn t T) (hP : Pic t P) {w : List Nat} {p : Nat} (hw : ∀ x ∈ w, x < P.length) (hp : p < P.length) (hn : p ∉ w) (hl : w.length ≤ 16) (q : ∀ r : List Int, r.length = w.length → Q (dI r) S) : wp (cf G L 14 [dI T, dP P, dQ w, .int p] S) Q := by
  obtain ⟨L, rfl⟩ : ∃ k, L = k + 1 := ⟨L - 1, by omega⟩
  obtain ⟨pd, hpd⟩ : ∃ pd, pd = dP P := ⟨_, rfl⟩
  rw [← hpd]
  refine wp_cf rfl [some (dI T), some pd, some (dQ w), some (.int p), none] rfl rfl ?_
  simp [d_row_to]
  refine ⟨by rw [dQ_eq]; rfl, ?_⟩
  refine wp_comp (w.map fun (p : Nat) => D.int p) (fun l acc S1 => S1 = S ∧ acc = ((w.take l).map fun a => tieV T P a p).map D.int) (by simp [lim]; omega) ⟨rfl, rfl⟩ (fun l acc S1 ⟨g1, g2⟩ hl ha => ?_) (fun acc S1 ⟨g1, g2⟩ => ?_)
  · subst g1 g2
    simp at hl
    refine ⟨by rw [dQ_eq]; simp [itVal, hl], _, rfl, ?_⟩
    simp [bTrue, wipeE, hpd]
    have hne : w[l] ≠ p := fun h => hn (h ▸ List.getElem_mem hl)
    refine tie' (by omega) hT hP (hw _ (List.getElem_mem hl)) hp hne ?_
    refine ⟨rfl, ?_⟩
    rw [List.take_succ_eq_append_getElem (by simpa using hl)]
    simp
  · subst g1 g2
    refine ⟨by rw [dQ_eq]; simp [itVal], ?_⟩
    have := q (w.map fun a => tieV T P a p) (by simp)
    simpa [dI] using this
theorem f_cut (hL : 3 ≤ L) (hT : Turn t T) (hP : Pic t P) {w : List Nat} (hw : ∀ x ∈ w, x < P.length) (hd : w.Nodup) (hl : w.length ≤ 16) (q : ∀ M : List (List Int), M.length = w.length → (∀ r ∈ M, r.length ≤ w.length) → Q (dP M) S) : wp (cf G L 15 [dI T, dP P, dQ w] S) Q := by
  obtain ⟨L, rfl⟩ : ∃ k, L = k + 1 := ⟨L - 1, by omega⟩
  obtain ⟨pd, hpd⟩ : ∃ pd, pd = dP P := ⟨_, rfl⟩
  rw [← hpd]
  refine wp_cf rfl [some (dI T), some pd, some (dQ w), none, none] rfl rfl ?_
  simp [d_cut]
  refine wp_comp ((List.range w.length).zip w |>.map fun p => .tup [.int p.1, .int p.2]) (fun l acc S1 => S1 = S ∧ ∃ M : List (List Int), acc = M.map dI ∧ M.length = l ∧ ∀ r ∈ M, r.length ≤ w.length) (by simp [lim]; omega) ⟨rfl, [], rfl, rfl, by simp⟩ (fun l acc S1 ⟨g1, M, g2, g3, g4⟩ hl ha => ?_) (fun acc S1 ⟨g1, M, g2, g3, g4⟩ => ?_)
  · subst g1 g2
    simp at hl
    refine ⟨by simp [itEnum, hl], ?_⟩
    simp [bTrue, wipeE, hpd, gTupD, gAll, gVar, wp_slTo]
    refine ⟨w.map fun (p : Nat) => D.int p, dQ_eq, ?_⟩
    rw [cut_to (by simp; omega)]
    have e1 : D.tup (List.take l (w.map fun (p : Nat) => D.int p)) = dQ (w.take l) := by rw [dQ_eq]; simp
    rw [e1]
    refine f_row_to (by omega) hT hP (fun x hx => hw x (List.mem_of_mem_take hx)) (hw _ (List.getElem_mem hl)) ?_ (by simp; omega) fun r hr => ⟨rfl, M ++ [r], by simp, by simp [g3], ?_⟩
    · intro hm
      obtain ⟨i, hi, e⟩ := List.mem_iff_getElem.mp hm
      rw [List.getElem_take] at e
      have := (List.getElem_inj hd).mp e
      simp at hi
      omega
    · intro r' hr'
      rcases List.mem_append.mp hr' with h | h
      · exact g4 r' h
      · simp at h
        subst h
        rw [hr]; simp; omega
  · subst g1 g2
    simp at g3
    refine ⟨by simp [itEnum], ?_⟩
    exact q M g3 g4
/-! a comprehension of two levels -/
theorem inn_ok {it : ItF} {gg : FG} {ft : FB} {fe : FE} {e0 : Env'} {acc0 : List D} (xs : List D) (I : Nat → List D → Prop) (hl : xs.length ≤ lim) (h0 : I 0 acc0)
    (step : ∀ i acc, I i acc → ∀ (h : i < xs.length), it i S = some (some xs[i]) ∧ ∃ e1, gg xs[i] e0 = some e1 ∧ ft e1 S = some (.val true S) ∧ ∃ y, fe e1 S = some (.val y S) ∧ acc.length < lim ∧ I (i + 1) (acc ++ [y]))
    (stop : it xs.length S = some none) : ∃ acc', innN it gg ft fe e0 (lim + 1) 0 acc0 S = some (acc', S) ∧ I xs.length acc' := by
  suffices h : ∀ n i acc, I i acc → i ≤ xs.length → xs.length < n + i → ∃ acc', innN it gg ft fe e0 n i acc S = some (acc', S) ∧ I xs.length acc' from h _ _ _ h0 (Nat.zero_le _) (by omega)
  intro n
  induction n with
  | zero => intro i acc _ h1 h2; omega
  | succ n ih =>
    intro i acc hI h1 h2
    unfold innN
    by_cases h : i < xs.length
    · obtain ⟨a, e1, b, c, y, d, f, g⟩ := step i acc hI h
      simp only [a, b, c, d]
      rw [if_pos f]
      exact ih _ _ g (by omega) (by omega)
    · have hi : i = xs.length := by omega
      subst hi
      rw [stop]
      exact ⟨acc, rfl, hI⟩
theorem wp_comp2 {it : ItF} {gg : FG} {ft : FB} {fi1 : FI} {g1 : FG} {ft1 : FB} {fe : FE} {vs1 : List Nat} {e0 : Env'} {QL : List D → Sto → Prop} (xs : List D) (I : Nat → List D → Prop) (hl : xs.length ≤ lim) (h0 : I 0 [])
    (step : ∀ i acc, I i acc → ∀ (h : i < xs.length), it i S = some (some xs[i]) ∧ ∃ e1, gg xs[i] e0 = some e1 ∧ ft e1 S = some (.val true S) ∧ ∃ it1, fi1 e1 S = some (.val it1 S) ∧ ∃ acc', innN it1 g1 ft1 fe (wipeE e1 vs1) (lim + 1) 0 acc S = some (acc', S) ∧ I (i + 1) acc')
    (stop : ∀ acc, I xs.length acc → it xs.length S = some none ∧ QL acc S) : wp (comp2N it gg ft fi1 g1 ft1 fe vs1 e0 (lim + 1) 0 [] S) QL := by
  suffices h : ∀ n i acc, I i acc → i ≤ xs.length → xs.length < n + i → wp (comp2N it gg ft fi1 g1 ft1 fe vs1 e0 n i acc S) QL from h _ _ _ h0 (Nat.zero_le _) (by omega)
  intro n
  induction n with
  | zero => intro i acc _ h1 h2; omega
  | succ n ih =>
    intro i acc hI h1 h2
    unfold comp2N
    by_cases h : i < xs.length
    · obtain ⟨a, e1, b, c, it1, d, acc', f, g⟩ := step i acc hI h
      simp only [a, b, c, d, f]
      exact ih _ _ g (by omega) (by omega)
    · have hi : i = xs.length := by omega
      subst hi
      obtain ⟨a, b⟩ := stop acc hI
      rw [a]; exact b
theorem f_flat (hL : 1 ≤ L) {M : List (List Int)} (h1 : M.length ≤ 4) (h2 : ∀ r ∈ M, r.length ≤ 4) (q : ∀ r : List Int, r.length ≤ 16 → Q (dI r) S) : wp (cf G L 13 [dP M] S) Q := by
  obtain ⟨L, rfl⟩ : ∃ k, L = k + 1 := ⟨L - 1, by omega⟩
  obtain ⟨pd, hpd⟩ : ∃ pd, pd = dP M := ⟨_, rfl⟩
  have hsq : seqOf S pd = some (M.map dI) := by rw [hpd]; rfl
  have hit : ∀ i, itVal pd i S = some (M.map dI)[i]? := fun i => by rw [hpd]; rfl
  rw [← hpd]
  refine wp_cf rfl [some pd, none, none] rfl rfl ?_
  simp [d_flat, fComp2]
  refine ⟨by rw [hpd]; rfl, ?_⟩
  refine wp_comp2 (M.map dI) (fun i acc => ∃ r : List Int, acc = r.map D.int ∧ r.length ≤ i * 4) (by simp [lim]; omega) ⟨[], rfl, by simp⟩ (fun i acc ⟨r, e1, e2⟩ hi => ?_) (fun acc ⟨r, e1, e2⟩ => ?_)
  · subst e1
    simp at hi
    have hr := h2 _ (List.getElem_mem hi)
    refine ⟨by rw [hit]; simp [hi], _, rfl, rfl, itVal (dI M[i]), by simp [fVal, eVar, wipeE, bnd, dI], ?_⟩
    simp only [List.getElem_map]
    generalize M[i] = row at hr
    obtain ⟨acc', g1, r', g2, g3⟩ := inn_ok (S := S) (it := itVal (dI row)) (gg := gVar 2) (ft := bTrue) (fe := eVar 2) (e0 := wipeE ([some pd, some (dI row), none]) [2]) (acc0 := r.map D.int) (row.map D.int) (fun j acc => ∃ r' : List Int, acc = r'.map D.int ∧ r'.length ≤ i * 4 + j) (by simp [lim]; omega) ⟨r, rfl, by omega⟩
      (fun j acc ⟨r', f1, f2⟩ hj => by
        subst f1
        simp at hj
        refine ⟨by simp [itVal, dI, hj], _, rfl, rfl, .int row[j], by simp [wipeE, eVar], by simp [lim]; omega, r' ++ [row[j]], by simp, by simp; omega⟩) (by simp [itVal, dI])
    refine ⟨acc', ?_, r', g2, by simp at g3; omega⟩
    exact g1
  · subst e1
    simp at e2
    refine ⟨by rw [hit]; simp, ?_⟩
    exact q r (by omega)
theorem wp_fPerm {la : FA} {QI : ItF → Sto → Prop} (h : wp (la e S) fun ds S1 => ds = [.rng 0 3] ∧ QI itPerm3 S1) : wp (fPerm la e S) QI := by
  unfold fPerm
  rw [wp_bnd]
  refine wp_imp h fun ds S1 ⟨e, q⟩ => ?_
  subst e
  exact q
theorem perm_at {i : Nat} (h : i < 6) : ∃ w : List Nat, D.tup ((PermK.perm3 i).map D.int) = dQ w ∧ w.Nodup ∧ (∀ x ∈ w, x < 3) ∧ w.length = 3 := by
  have : i = 0 ∨ i = 1 ∨ i = 2 ∨ i = 3 ∨ i = 4 ∨ i = 5 := by omega
  rcases this with rfl | rfl | rfl | rfl | rfl | rfl
  · exact ⟨[0, 1, 2], by rw [dQ_eq]; rfl, by decide, by decide, rfl⟩
  · exact ⟨[0, 2, 1], by rw [dQ_eq]; rfl, by decide, by decide, rfl⟩
  · exact ⟨[1, 0, 2], by rw [dQ_eq]; rfl, by decide, by decide, rfl⟩
  · exact ⟨[1, 2, 0], by rw [dQ_eq]; rfl, by decide, by decide, rfl⟩
  · exact ⟨[2, 0, 1], by rw [dQ_eq]; rfl, by decide, by decide, rfl⟩
  · exact ⟨[2, 1, 0], by rw [dQ_eq]; rfl, by decide, by decide, rfl⟩
theorem putDct_le {kvs : List (D × D)} {k : NestedKey} {d y : D} : (putDct kvs k d y).length ≤ kvs.length + 1 := by
  unfold putDct
  split <;> simp
theorem f_barred (hL : 4 ≤ L) (hs : SrcAt S o) (hT : Turn t T) {bs : List (List (List Int))} (hb : ∀ P ∈ bs, Pic t P ∧ P.length = 3) (hl : bs.length ≤ 16) (q : ∀ U R, Kp o S U → SrcAt U o → Q (.obj R) U) : wp (cf G L 16 [dI T, .tup (bs.map dP)] S) Q := by
  obtain ⟨L, rfl⟩ : ∃ k, L = k + 1 := ⟨L - 1, by omega⟩
  obtain ⟨bd, hbd⟩ : ∃ bd, bd = D.tup (bs.map dP) := ⟨_, rfl⟩
  have hit : ∀ i S, itVal bd i S = some (bs.map dP)[i]? := fun i S => by rw [hbd]; rfl
  rw [← hbd]
  refine wp_cf rfl [some (dI T), some bd, none, none, none] rfl rfl ?_
  have hlt := hs.lt
  unfold d_barred_orders
  refine ws_let (fun d S' => d = .obj S.length ∧ S' = S ++ [.dct []]) (by simp) ?_
  rintro d S1 ⟨rfl, hS1⟩
  simp only [List.set_cons_zero, List.set_cons_succ]
  have k1 : Kp o S S1 := by rw [hS1]; exact Kp.of (List.prefix_append _ _)
  have s1 : SrcAt S1 o := by rw [hS1]; exact hs.app
  have g1 : S1[S.length]? = some (.dct []) := by rw [hS1]; simp
  rw [ws_seq, ws_for]
  simp only [wp_fVal, wp_eVar]
  refine ⟨_, rfl, by rw [hbd]; rfl, ?_⟩
  refine ws_loop (bs.map dP) (fun i e S' => ∃ (kvs : List (D × D)) (y z : Option D), e = [some (dI T), some bd, some (.obj S.length), y, z] ∧ S'[S.length]? = some (.dct kvs) ∧ kvs.length ≤ i * 6 ∧ Kp o S S' ∧ SrcAt S' o) (by simp [lim]; omega) ⟨[], none, none, rfl, g1, by simp, k1, s1⟩ (fun i e S' ⟨kvs, y, z, he, g, hk, kp, sr⟩ hi => ?_) (fun e S' ⟨kvs, y, z, he, g, hk, kp, sr⟩ => ?_)
  · subst he
    simp at hi
    obtain ⟨hP, hP3⟩ := hb _ (List.getElem_mem hi)
    refine ⟨by rw [hit]; simp [hi], _, rfl, ?_⟩
    simp only [List.getElem_map, List.set_cons_zero, List.set_cons_succ]
    generalize bs[i] = P at hP hP3
    obtain ⟨pd, hpd⟩ : ∃ pd, pd = dP P := ⟨_, rfl⟩
    rw [← hpd]
    rw [ws_seq, ws_for]
    refine wp_fPerm ?_
    simp only [wp_cons, wp_nil, wp_call, wp_eVar]
    refine ⟨_, rfl, ?_⟩
    rw [wp_cLen]
    refine ⟨P.map dI, by rw [hpd]; rfl, ?_⟩
    rw [wp_cRange1]
    refine ⟨by simp [hP3], ?_⟩
    refine ws_loop ((List.range 6).map fun i => D.tup ((PermK.perm3 i).map D.int)) (fun j e S2 => ∃ (kvs : List (D × D)) (z : Option D), e = [some (dI T), some bd, some (.obj S.length), some pd, z] ∧ S2[S.length]? = some (.dct kvs) ∧ kvs.length ≤ i * 6 + j ∧ Kp o S S2 ∧ SrcAt S2 o) (by simp [lim]) ⟨kvs, z, rfl, g, by omega, kp, sr⟩ (fun j e S2 ⟨kvs, z, he, g, hk, kp, sr⟩ hj => ?_) (fun e S2 ⟨kvs, z, he, g, hk, kp, sr⟩ => ?_)
    · subst he
      simp at hj
      obtain ⟨w, hw, hnd, hw3, hwl⟩ := perm_at hj
      refine ⟨by simp [itPerm3, hj], _, rfl, ?_⟩
      simp only [List.getElem_map, List.getElem_range, List.set_cons_zero, List.set_cons_succ, hw]
      simp
      rw [hpd]
      refine f_cut (by omega) hT hP (fun x hx => by have := hw3 x hx; omega) hnd (by omega) fun M hM1 hM2 => ?_
      refine f_flat (by omega) (by omega) (fun r hr => by have := hM2 r hr; omega) fun r hr => ?_
      obtain ⟨kk, e1, e2⟩ := Shp.key (n := 0) ⟨r, rfl, by omega⟩
      unfold wDct
      simp only [dI, g]
      have e1' : toKey (.tup (r.map D.int)) = some kk := e1
      have hlS := (List.getElem?_eq_some_iff.mp g).1
      have hpl := putDct_le (kvs := kvs) (k := kk) (d := .tup (r.map D.int)) (y := .bl true)
      rw [e1']
      refine ⟨_, if_pos ⟨by omega, by simp [lim]; omega⟩, ?_⟩
      exact ⟨_, by simp [hlS]; rfl, by omega, kp.put (Nat.le_refl _), sr.put hlt⟩
    · subst he
      simp at hk
      refine ⟨by simp [itPerm3], ?_⟩
      simp only [ws_nil]
      exact ⟨kvs, _, _, rfl, g, by omega, kp, sr⟩
  · subst he
    refine ⟨by rw [hit]; simp, ?_⟩
    simp
    exact q S' _ kp sr
end
end Mini
end

section
set_option Elab.async false
set_option linter.all false
set_option maxRecDepth 100000
set_option maxHeartbeats 4000000
namespace Mini
open PySem PySem.Spec PyProof.Rows L2 PySem.W
/-! k84: Table.__init__. -/
theorem look_put {f : Str} {v : D} : ∀ {fs : List (Str × D)}, (putD f v fs).lookup f = some v
  | [] => by simp [putD]
  | (g, x) :: r => by
    unfold putD
    by_cases h : g = f
    · simp [h]
    · rw [if_neg h]
      have h' : (f == g) = false := by simp; exact fun e => h e.symm
      simp only [List.lookup, h']
      exact look_put
theorem look_ne {f g : Str} {v : D} (hn : g ≠ f) : ∀ {fs : List (Str × D)}, (putD f v fs).lookup g = fs.lookup g
  | [] => by
    have h' : (g == f) = false := by simpa using hn
    simp [putD, List.lookup, h']
  | (h, x) :: r => by
    unfold putD
    by_cases e : h = f
    · subst e
      have h' : (g == h) = false := by simpa using hn
      simp [List.lookup, h']
    · rw [if_neg e]
      simp only [List.lookup]
      split
      · rfl
      · exact look_ne hn
theorem put_len {f : Str} {v : D} : ∀ {fs : List (Str × D)}, (putD f v fs).length ≤ fs.length + 1
  | [] => by simp [putD]
  | (g, x) :: r => by
    unfold putD
    have := put_len (f := f) (v := v) (fs := r)
    split <;> simp <;> omega
theorem ex_map {α : Type} {f : α → D} {Rr : α → Prop} : ∀ {xs : List D}, (∀ x ∈ xs, ∃ a, x = f a ∧ Rr a) → ∃ as : List α, xs = as.map f ∧ ∀ a ∈ as, Rr a
  | [], _ => ⟨[], rfl, by simp⟩
  | x :: xs, h => by
    obtain ⟨a, rfl, ha⟩ := h x (by simp)
    obtain ⟨as, rfl, has⟩ := ex_map (xs := xs) fun y hy => h y (by simp [hy])
    refine ⟨a :: as, rfl, fun b hb => ?_⟩
    rcases List.mem_cons.mp hb with rfl | hb
    · exact ha
    · exact has b hb
theorem mem_sortBy {ks xs : List D} {x : D} (h : x ∈ sortBy ks xs) : x ∈ xs := by
  unfold sortBy at h
  obtain ⟨p, hp, rfl⟩ := List.mem_map.mp h
  have := (List.mergeSort_perm _ _).mem_iff.mp hp
  exact (List.of_mem_zip this).2
theorem sortBy_le {ks xs : List D} : (sortBy ks xs).length ≤ xs.length := by
  unfold sortBy
  rw [List.length_map, (List.mergeSort_perm _ _).length_eq, List.length_zip]
  omega
/-- what the table knows of itself -/
structure SelfI (S : Sto) (N : Nat) (c : Nat) (K : List (Str × D)) : Prop where
  ob : ∃ fs, S[N]? = some (.ins ("Table" : Str) fs) ∧ fs.length ≤ c ∧ ∀ p ∈ K, fs.lookup p.1 = some p.2
section
variable {G : Gl} {k : Nat} {S : Sto} {d x : D} {Q : D → Sto → Prop} {T : List Int} {P A B : List (List Int)} {o L R N : Nat} {e : Env'} {t : Int}
theorem SelfI.kp {S' : Sto} {c : Nat} {K : List (Str × D)} (h : SelfI S N c K) (k : Kp o S S') (hN : N ≠ o) : SelfI S' N c K := by
  obtain ⟨fs, h1, h2, h3⟩ := h.ob
  exact ⟨fs, k.at h1 hN, h2, h3⟩
theorem SelfI.put {c : Nat} {K : List (Str × D)} {fs : List (Str × D)} {f : Str} {v : D} (h : S[N]? = some (.ins ("Table" : Str) fs)) (h2 : fs.length ≤ c) (h3 : ∀ p ∈ K, fs.lookup p.1 = some p.2) (hn : ∀ p ∈ K, p.1 ≠ f) : SelfI (S.set N (.ins ("Table" : Str) (putD f v fs))) N (c + 1) (K ++ [(f, v)]) := by
  have hl := (List.getElem?_eq_some_iff.mp h).1
  refine ⟨_, by simp [hl]; rfl, by have := put_len (f := f) (v := v) (fs := fs); omega, fun p hp => ?_⟩
  rcases List.mem_append.mp hp with hp | hp
  · rw [look_ne (hn p hp)]; exact h3 p hp
  · simp at hp; subst hp; exact look_put
/-- self.f = .. -/
theorem ws_self {fo f : FE} {nm : Str} {Nn : Env' → Sto → Prop} {Rt : D → Sto → Prop} {c : Nat} {K : List (Str × D)} (Q1 : D → Sto → Prop) (hv : wp (f e S) Q1) (ho : ∀ S1, wp (fo e S1) fun d S2 => d = .obj N ∧ S2 = S1) (hS : ∀ d S1, Q1 d S1 → SelfI S1 N c K) (hc : c < 999) (hn : ∀ p ∈ K, p.1 ≠ nm) (ha : G.att ("Table" : Str) nm = true)
    (h : ∀ d S1 o', Q1 d S1 → SelfI (S1.set N o') N (c + 1) (K ++ [(nm, d)]) → Nn e (S1.set N o')) : ws (sFldD G fo f nm e S) Nn Rt := by
  rw [ws_fld]
  refine wp_imp hv fun d S1 q => wp_imp (ho S1) fun od S2 ⟨e1, e2⟩ => ?_
  subst e1 e2
  obtain ⟨fs, h1, h2, h3⟩ := (hS d _ q).ob
  exact ⟨N, _, fs, rfl, h1, ⟨ha, by omega⟩, h d _ _ q (SelfI.put h1 h2 h3 hn)⟩
theorem SelfI.fld {c : Nat} {K : List (Str × D)} {nm : Str} {v : D} {fe : FE} (h : SelfI S N c K) (hK : (nm, v) ∈ K) (ha : G.att ("Table" : Str) nm = true) (hf : wp (fe e S) fun d S1 => d = .obj N ∧ S1 = S) (q : Q v S) : wp (fFld G nm fe e S) Q := by
  obtain ⟨fs, h1, h2, h3⟩ := h.ob
  exact wp_fld h1 ha (h3 _ hK) hf q
theorem keys_ok {ks : List (List (List Int))} {S : Sto} (hL : 1 ≤ L) : ∀ (acc : List D), keysN (cf G L 12) (ks.map dP) acc S = some (acc ++ ks.map (fun P => .tup [.int P.length, dP P]), S) := by
  induction ks with
  | nil => intro acc; simp [keysN]
  | cons P ks ih =>
    intro acc
    simp only [List.map_cons, keysN, f_by_size hL]
    rw [ih]
    simp
theorem Pic.shp (h : Pic t P) : Shp 1 (dP P) := by
  have hm := h.many
  refine ⟨P.map dI, rfl, by simp; omega, fun x hx => ?_⟩
  obtain ⟨r, hr, rfl⟩ := List.mem_map.mp hx
  obtain ⟨j, hj, rfl⟩ := List.mem_iff_getElem.mp hr
  exact ⟨_, rfl, by rw [h.row j hj]; omega⟩
theorem okKeys_P {ks : List (List (List Int))} (h : ∀ P ∈ ks, Pic t P ∧ P.length = 3) (hl : ks.length ≤ 16) : okKeys (ks.map fun P => .tup [.int P.length, dP P]) = true := by
  have hs : ∀ P ∈ ks, Shp 1 (dP P) := fun P hP => (h P hP).1.shp
  simp only [okKeys, Bool.and_eq_true, Bool.or_eq_true, List.all_eq_true, decide_eq_true_eq]
  refine ⟨⟨⟨by simp; omega, fun d hd => ?_⟩, .inl fun d hd => ?_⟩, fun d hd d' hd' => ?_⟩
  · obtain ⟨P, hP, rfl⟩ := List.mem_map.mp hd
    have := (hs P hP).dep
    exact ⟨by simp [ntD, ntDs, (hs P hP).nt], by simp [encD, encDs, PyData.depth, PyData.depthAll]; omega⟩
  · obtain ⟨P, hP, rfl⟩ := List.mem_map.mp hd
    rfl
  · obtain ⟨P, hP, rfl⟩ := List.mem_map.mp hd
    obtain ⟨P', hP', rfl⟩ := List.mem_map.mp hd'
    simp [encD, encDs, alike, alikeAll, (hs P hP).alk (hs P' hP')]
theorem wp_compD {fi : FI} {gg : FG} {ft : FB} {fk fv : FE} {vs : List Nat} (xs : List D) (I : Nat → List (D × D) → Sto → Prop) (hl : xs.length ≤ lim)
    (hi : wp (fi e S) fun it S1 => I 0 [] S1 ∧ (∀ i acc S, I i acc S → ∀ (h : i < xs.length), it i S = some (some xs[i]) ∧ ∃ e1, gg xs[i] (wipeE e vs) = some e1 ∧ ft e1 S = some (.val true S) ∧
      wp (fk e1 S) fun kd S2 => ∃ ds, kd = .tup ds ∧ wp (fv e1 S2) fun y S3 => ∃ k, toKey (.tup ds) = some k ∧ k.depth ≤ 8 ∧ acc.length < lim ∧ I (i + 1) (putDct acc k (.tup ds) y) S3) ∧
      ∀ acc S, I xs.length acc S → it xs.length S = some none ∧ Q (.obj S.length) (S ++ [.dct acc])) : wp (fCompD fi gg ft fk fv vs e S) Q := by
  unfold fCompD
  rw [wp_bnd]
  refine wp_imp hi fun it S1 ⟨h0, step, stop⟩ => ?_
  suffices h : ∀ n i acc S, I i acc S → i ≤ xs.length → xs.length < n + i → ∃ acc' S', compDN it gg ft fk fv (wipeE e vs) n i acc S = some (.val acc' S') ∧ Q (.obj S'.length) (S' ++ [.dct acc']) by
    obtain ⟨acc', S', a, b⟩ := h (lim + 1) 0 [] S1 h0 (Nat.zero_le _) (by omega)
    rw [a]; exact b
  intro n
  induction n with
  | zero => intro i acc S _ h1 h2; omega
  | succ n ih =>
    intro i acc S hI h1 h2
    unfold compDN
    by_cases h : i < xs.length
    · obtain ⟨a, e1, b, c, d⟩ := step i acc S hI h
      obtain ⟨kd, S2, f1, ds, rfl, f2⟩ := wp_ex d
      obtain ⟨y, S3, g1, k, g2, g3, g4, g5⟩ := wp_ex f2
      simp only [a, b, c, f1, g1, g2]
      rw [if_pos ⟨g3, g4⟩]
      exact ih _ _ _ g5 (by omega) (by omega)
    · have hi : i = xs.length := by omega
      subst hi
      obtain ⟨a, b⟩ := stop acc S hI
      rw [a]; exact ⟨_, _, rfl, b⟩
theorem putDct_keys {kvs : List (D × D)} {k : NestedKey} {d y : D} {p : D × D} (h : p ∈ putDct kvs k d y) : (∃ p' ∈ kvs, p'.1 = p.1) ∨ p.1 = d := by
  unfold putDct at h
  split at h
  · obtain ⟨p', h1, h2⟩ := List.mem_map.mp h
    split at h2
    · exact .inl ⟨p', h1, by rw [← h2]⟩
    · exact .inl ⟨p', h1, by rw [h2]⟩
  · rcases List.mem_append.mp h with h | h
    · exact .inl ⟨p, h, rfl⟩
    · simp at h; exact .inr (by rw [h])
theorem n1 : ("turn" : Str) ≠ ("ties" : Str) := by decide +kernel
theorem n2 : ("turn" : Str) ≠ ("bars" : Str) := by decide +kernel
theorem n3 : ("ties" : Str) ≠ ("bars" : Str) := by decide +kernel
theorem n4 : ("turn" : Str) ≠ ("widest" : Str) := by decide +kernel
theorem n5 : ("ties" : Str) ≠ ("widest" : Str) := by decide +kernel
theorem n6 : ("bars" : Str) ≠ ("widest" : Str) := by decide +kernel
theorem n7 : ("turn" : Str) ≠ ("barred" : Str) := by decide +kernel
theorem n8 : ("ties" : Str) ≠ ("barred" : Str) := by decide +kernel
theorem n9 : ("turn" : Str) ≠ ("notes" : Str) := by decide +kernel
theorem n10 : ("ties" : Str) ≠ ("notes" : Str) := by decide +kernel
theorem n11 : ("bars" : Str) ≠ ("barred" : Str) := by decide +kernel
theorem n12 : ("bars" : Str) ≠ ("notes" : Str) := by decide +kernel
theorem SelfI.sub {c : Nat} {K K' : List (Str × D)} (h : SelfI S N c K) (hk : ∀ p ∈ K', p ∈ K) : SelfI S N c K' := by
  obtain ⟨fs, h1, h2, h3⟩ := h.ob
  exact ⟨fs, h1, h2, fun p hp => h3 p (hk p hp)⟩
theorem f_init (hG : G.att = attB) (hL : 6 ≤ L) (hs : SrcAt S o) (hT : Turn t T) {bs : List (List (List Int))} (hb : ∀ P ∈ bs, Pic t P ∧ P.length = 3) (hl : bs.length ≤ 16) {R1 R2 : Nat} (h1 : S[R1]? = some (.lst (T.map D.int))) (h2 : S[R2]? = some (.lst (bs.map dP))) (hN : S[N]? = some (.ins ("Table" : Str) [])) (hNo : o < N) (hR1 : R1 < N) (hR2 : R2 < N) (ho1 : R1 ≠ o) (ho2 : R2 ≠ o) {S0 : Sto} (hS0 : S0.length ≤ N) (k0 : Kp o S0 S)
    (q : ∀ U, Kp o S0 U → SrcAt U o → TableAt U N t T → Q .non U) : wp (cc G L 0 [.obj N, .obj R1, .obj R2] S) Q := by
  obtain ⟨L, rfl⟩ : ∃ k, L = k + 1 := ⟨L - 1, by omega⟩
  refine wp_cc rfl [some (.obj N), some (.obj R1), some (.obj R2), none, none] rfl rfl ?_
  have hat : ∀ nm, attB ("Table" : Str) nm = true → G.att ("Table" : Str) nm = true := fun nm h => by rw [hG]; exact h
  have tlen := hT.len
  have tfew := hT.few
  unfold d_Table___init
  rw [ws_seq, ws_drop]
  simp only [wp_callU, wp_cons, wp_nil, wp_eVar]
  refine ⟨_, rfl, rfl, f_check_turn (by omega) hT h1 ?_⟩
  rw [ws_seq, ws_drop]
  simp only [wp_callU, wp_cons, wp_nil, wp_eVar, wp_call, wp_cLen]
  refine ⟨_, rfl, _, rfl, _, seq_lst h1, rfl, ?_⟩
  rw [List.length_map, tlen]
  refine f_check_bars (by omega) hb hl h2 ?_
  rw [ws_seq]
  refine ws_self (N := N) (c := 0) (K := []) (fun d S' => d = dI T ∧ S' = S) ?_ (fun S1 => by simp) (fun d S1 ⟨_, e⟩ => by rw [e]; exact ⟨[], hN, by simp, by simp⟩) (by omega) (by simp) (hat _ (by rfl)) ?_
  · simp
    exact cTup_W h1 ⟨rfl, rfl⟩
  rintro d S1 o' ⟨rfl, rfl⟩ hI
  have k1 := k0.put (n := N) (x := o') hS0
  have s1 := hs.put (n := N) (x := o') hNo
  have b1 : (S1.set N o')[R2]? = some (.lst (bs.map dP)) := by rw [List.getElem?_set_ne (by omega)]; exact h2
  generalize S1.set N o' = S2 at *
  rw [ws_seq]
  refine ws_self (N := N) (c := 1) (K := [(("turn" : Str), dI T)]) (fun d S' => d = .int t ∧ S' = S2) ?_ (fun S1 => by simp) (fun d S1 ⟨_, e⟩ => by rw [e]; exact hI) (by omega) (by simp; exact n1) (hat _ (by rfl)) ?_
  · simp
    refine hI.fld (v := dI T) (by simp) (hat _ (by rfl)) (by simp) ?_
    exact ⟨_, rfl, by simp [tlen]⟩
  rintro d S3 o' ⟨rfl, rfl⟩ hI2
  have k2 := k1.put (n := N) (x := o') hS0
  have s2 := s1.put (n := N) (x := o') hNo
  have b2 : (S3.set N o')[R2]? = some (.lst (bs.map dP)) := by rw [List.getElem?_set_ne (by omega)]; exact b1
  generalize S3.set N o' = S4 at *
  clear hI
  have hI2 : SelfI S4 N 2 [(("turn" : Str), dI T), (("ties" : Str), D.int t)] := hI2
  refine ws_let (fun d S' => ∃ Rd kvs, d = .obj Rd ∧ S'[Rd]? = some (.dct kvs) ∧ kvs.length ≤ 16 ∧ (∀ p ∈ kvs, ∃ M, p.1 = dP M ∧ Pic t M ∧ M.length = 3) ∧ Kp o S4 S' ∧ SrcAt S' o) ?_ ?_
  · refine wp_compD (bs.map dP) (fun i acc S' => acc.length ≤ i ∧ (∀ p ∈ acc, ∃ M, p.1 = dP M ∧ Pic t M ∧ M.length = 3) ∧ Kp o S4 S' ∧ SrcAt S' o) (by simp [lim]; omega) ?_
    simp only [wp_fVal, wp_eVar]
    refine ⟨_, rfl, by simp [okIt, seq_lst b2], ⟨by simp, by simp, Kp.refl _, s2⟩, ?_, ?_⟩
    · rintro i acc S5 ⟨c1, c2, c3, c4⟩ hi
      simp at hi
      have b3 := c3.at b2 ho2
      have hI3 := hI2.kp c3 (by omega)
      refine ⟨by simp [itVal, seq_lst b3, hi], _, rfl, rfl, ?_⟩
      obtain ⟨hP, hP3⟩ := hb _ (List.getElem_mem hi)
      simp [wipeE, hi]
      refine hI3.fld (v := dI T) (by simp) (hat _ (by rfl)) (by simp) ?_
      refine f_least (by omega) c4 hT hP (by omega) fun U M ku su picM hM => ?_
      obtain ⟨kk, e1, e2⟩ := picM.shp.key
      refine ⟨M.map dI, rfl, kk, e1, by omega, by simp [lim]; omega, by have := putDct_le (kvs := acc) (k := kk) (d := .tup (M.map dI)) (y := .bl true); omega, ?_, c3.trans ku, su⟩
      intro p y hp
      rcases putDct_keys hp with ⟨p', h1, h2⟩ | h1
      · obtain ⟨M', e, r⟩ := c2 p' h1
        exact ⟨M', by rw [← e]; exact h2.symm, r⟩
      · exact ⟨M, h1, picM, by omega⟩
    · rintro acc S5 ⟨c1, c2, c3, c4⟩
      have b3 := c3.at b2 ho2
      simp at c1
      refine ⟨by simp [itVal, seq_lst b3], S5.length, acc, rfl, by simp, by omega, c2, c3.trans (Kp.of (List.prefix_append _ _)), c4.app⟩
  rintro d S5 ⟨Rd, kvs, rfl, hd, hkl, hkv, c3, c4⟩
  simp only [List.set_cons_zero, List.set_cons_succ]
  have hI3 := hI2.kp c3 (by omega)
  have k3 := k2.trans c3
  obtain ⟨Ms, hMs, hMp⟩ := ex_map (xs := kvs.map (·.1)) (f := dP) (Rr := fun M => Pic t M ∧ M.length = 3) fun x hx => by
    obtain ⟨p, hp, rfl⟩ := List.mem_map.mp hx
    exact hkv p hp
  have hMl : Ms.length ≤ 16 := by
    have := congrArg List.length hMs
    simp at this; omega
  rw [ws_seq]
  refine ws_self (N := N) (c := 2) (K := [(("turn" : Str), dI T), (("ties" : Str), D.int t)]) (fun d S' => (∃ Bs : List (List (List Int)), d = .tup (Bs.map dP) ∧ Bs.length ≤ 16 ∧ ∀ P ∈ Bs, Pic t P ∧ P.length = 3) ∧ S' = S5) ?_ (fun S1 => by simp) (fun d S1 ⟨_, e⟩ => by rw [e]; exact hI3) (by omega) (by simp; exact ⟨n2, n3⟩) (hat _ (by rfl)) ?_
  · rw [wp_call]
    unfold fSortKey
    rw [wp_bnd, wp_call]
    simp only [wp_cons, wp_nil, wp_eVar]
    refine ⟨_, rfl, ?_⟩
    unfold cListDct
    simp only [hd]
    rw [if_pos (by omega), wp_some, hMs, keys_ok (by omega)]
    simp only [List.nil_append]
    rw [if_pos ⟨okKeys_P hMp hMl, by simp; omega⟩, wp_some, wp_cTupN]
    obtain ⟨Bs, e1, e2⟩ := ex_map (xs := sortBy (Ms.map fun P => .tup [.int P.length, dP P]) (Ms.map dP)) (f := dP) (Rr := fun M => Pic t M ∧ M.length = 3) fun x hx => by
      obtain ⟨M, hM, rfl⟩ := List.mem_map.mp (mem_sortBy hx)
      exact ⟨M, rfl, hMp M hM⟩
    refine ⟨⟨Bs, by rw [e1], ?_, e2⟩, rfl⟩
    have h3 := congrArg List.length e1
    have h4 := sortBy_le (ks := Ms.map fun P => .tup [.int P.length, dP P]) (xs := Ms.map dP)
    simp at h3 h4
    omega
  rintro d S6 o' ⟨⟨Bs, hBs, hBl, hBp⟩, rfl⟩ hI4
  have k4 := k3.put (n := N) (x := o') hS0
  have s4 := c4.put (n := N) (x := o') hNo
  generalize S6.set N o' = S7 at *
  clear hI3
  rw [ws_seq]
  refine ws_self (N := N) (c := 3) (K := [(("turn" : Str), dI T), (("ties" : Str), D.int t), (("bars" : Str), d)]) (fun d' S' => d' = .int 3 ∧ S' = S7) (by simp) (fun S1 => by simp) (fun d S1 ⟨_, e⟩ => by rw [e]; exact hI4) (by omega) (by simp; exact ⟨n4, n5, n6⟩) (hat _ (by rfl)) ?_
  rintro d' S8 o' ⟨rfl, rfl⟩ hI5
  have k5 := k4.put (n := N) (x := o') hS0
  have s5 := s4.put (n := N) (x := o') hNo
  generalize S8.set N o' = S9 at *
  clear hI4
  rw [ws_seq, ws_for, wp_fVal]
  refine hI5.fld (v := d) (by simp) (hat _ (by rfl)) (by simp) ?_
  refine ⟨by rw [hBs]; rfl, ?_⟩
  have hit : ∀ i S, itVal d i S = some (Bs.map dP)[i]? := fun i S => by rw [hBs]; rfl
  refine ws_loop (Bs.map dP) (fun i e S' => ∃ (wd : Int) (c : Nat) (y : Option D), e = [some (.obj N), some (.obj R1), some (.obj R2), some (.obj Rd), y] ∧ c ≤ 4 + i ∧ SelfI S' N c [(("turn" : Str), dI T), (("ties" : Str), D.int t), (("bars" : Str), d), (("widest" : Str), .int wd)] ∧ Kp o S0 S' ∧ SrcAt S' o) (by simp [lim]; omega) ⟨3, 4, none, rfl, by omega, hI5, k5, s5⟩ (fun i e S' ⟨wd, c, y, he, hc, hI6, k6, s6⟩ hi => ?_) (fun e S' ⟨wd, c, y, he, hc, hI6, k6, s6⟩ => ?_)
  · subst he
    simp at hi
    refine ⟨by rw [hit]; simp [hi], _, rfl, ?_⟩
    simp only [List.getElem_map, List.set_cons_zero, List.set_cons_succ]
    rw [ws_seq, ws_fld]
    simp only [wp_call, wp_cons, wp_nil, wp_eVar, wp_cLen]
    refine hI6.fld (v := .int wd) (by simp) (hat _ (by rfl)) (by simp) ?_
    refine ⟨_, rfl, _, rfl, ?_⟩
    simp only [cMax2]
    rw [wp_ret]
    generalize (if (((Bs[i]).map dI).length : Int) > wd then (((Bs[i]).map dI).length : Int) else wd) = wd2
    refine ⟨_, rfl, ?_⟩
    obtain ⟨fs, g1, g2, g3⟩ := hI6.ob
    have hl := (List.getElem?_eq_some_iff.mp g1).1
    refine ⟨N, _, fs, rfl, g1, ⟨hat _ (by rfl), by omega⟩, ?_⟩
    simp only [ws_nil]
    refine ⟨wd2, c + 1, _, rfl, by omega, ⟨_, by simp [hl]; rfl, Nat.le_trans put_len (by omega), ?_⟩, k6.put hS0, s6.put hNo⟩
    intro p hp
    simp only [List.mem_cons, List.not_mem_nil, or_false] at hp
    rcases hp with rfl | rfl | rfl | rfl
    · exact (look_ne n4).trans (g3 (("turn" : Str), dI T) (by simp))
    · exact (look_ne n5).trans (g3 (("ties" : Str), D.int t) (by simp))
    · exact (look_ne n6).trans (g3 (("bars" : Str), d) (by simp))
    · exact look_put
  · subst he
    refine ⟨by rw [hit]; simp, ?_⟩
    simp at hc
    have hI7 : SelfI S' N c [(("turn" : Str), dI T), (("ties" : Str), D.int t), (("bars" : Str), d)] := hI6.sub (by simp)
    rw [ws_seq]
    refine ws_self (N := N) (c := c) (K := [(("turn" : Str), dI T), (("ties" : Str), D.int t), (("bars" : Str), d)]) (fun d S2 => Kp o S' S2 ∧ SrcAt S2 o) ?_ (fun S1 => by simp) (fun d S1 ⟨k, _⟩ => hI7.kp k (by omega)) (by omega) (by simp; exact ⟨n7, n8, n11⟩) (hat _ (by rfl)) ?_
    · simp only [wp_callU, wp_cons, wp_nil]
      refine hI7.fld (v := dI T) (by simp) (hat _ (by rfl)) (by simp) ?_
      refine hI7.fld (v := d) (by simp) (hat _ (by rfl)) (by simp) ?_
      refine ⟨rfl, ?_⟩
      rw [hBs]
      exact f_barred (by omega) s6 hT hBp hBl fun U R a b => ⟨a, b⟩
    rintro d2 S10 o' ⟨k7, s7⟩ hI8
    have k8 := (k6.trans k7).put (n := N) (x := o') hS0
    have s8 := s7.put (n := N) (x := o') hNo
    generalize S10.set N o' = S11 at *
    have hI9 : SelfI S11 N (c + 1) [(("turn" : Str), dI T), (("ties" : Str), D.int t)] := hI8.sub (by simp)
    rw [ws_seq]
    refine ws_self (N := N) (c := c + 1) (K := [(("turn" : Str), dI T), (("ties" : Str), D.int t)]) (fun d S2 => Kp o S11 S2 ∧ SrcAt S2 o) ?_ (fun S1 => by simp) (fun d S1 ⟨k, _⟩ => hI9.kp k (by omega)) (by omega) (by simp; exact ⟨n9, n10⟩) (hat _ (by rfl)) ?_
    · rw [wp_dct0]
      exact ⟨Kp.of (List.prefix_append _ _), s8.app⟩
    rintro d3 S12 o' ⟨k9, s9⟩ hI10
    simp only [ws_nil]
    obtain ⟨fs, g1, g2, g3⟩ := hI10.ob
    exact q _ ((k8.trans k9).put hS0) (s9.put hNo) ⟨fs, g1, g3 (("ties" : Str), D.int t) (by simp), g3 (("turn" : Str), dI T) (by simp)⟩
end
end Mini
end

section
set_option Elab.async false
set_option linter.all false
set_option maxRecDepth 100000
set_option maxHeartbeats 4000000
namespace Mini
open PySem PySem.Spec PyProof.Rows L2
/-! k84: the law. -/
section
variable {G : Gl} {k : Nat} {S : Sto} {d x : D} {Q : D → Sto → Prop} {T : List Int} {P A B : List (List Int)} {o L R N : Nat} {e : Env'} {t : Int}
theorem f_paper' (V : Envi G t T A B) {tb m r : Nat} (h : TableAt S tb t T) (hL : 13 ≤ L) (hr : r ≤ 3) (hm : m ≤ 19) (hd : Pap o S m d) (q : ∀ U, S <+: U → Q (.bl (gpT T A B r d)) U) : wp (cf G L 34 [.obj tb, dP A, dP B, .int r, d] S) Q := by
  obtain ⟨k, rfl⟩ : ∃ k, L = k + 2 * r + 7 := ⟨L - 2 * r - 7, by omega⟩
  exact f_paper V h (by omega) hm hd q
theorem f_lis_paper' (V : Envi G t T A B) {n r : Nat} (hL : 9 ≤ L) (hr : r ≤ 3) (hd : Pap o S n d) (q : ∀ U, S <+: U → Q (.bl (gpT T A B r d)) U) : wp (cf G L 40 [dI T, dP A, dP B, .int r, d] S) Q := by
  obtain ⟨k, rfl⟩ : ∃ k, L = k + r + 6 := ⟨L - r - 6, by omega⟩
  exact f_lis_paper V hr hd q
theorem f_same' {a b : Bool} (hL : 1 ≤ L) (q : Q (.bl (a == b)) S) : wp (cf G L 41 [.bl a, .bl b] S) Q := by
  obtain ⟨L, rfl⟩ : ∃ k, L = k + 1 := ⟨L - 1, by omega⟩
  exact f_same q
theorem f_source' {ns : List Int} (hL : 1 ≤ L) (hl : ns.length ≤ 63) (q : ∀ U, S <+: U → SrcAt U (S.length + 3) → Q (.obj (S.length + 3)) U) : wp (cf G L 0 [.rol ns] S) Q := by
  obtain ⟨L, rfl⟩ : ∃ k, L = k + 1 := ⟨L - 1, by omega⟩
  exact f_source hl q
theorem TableAt.kp {S' : Sto} {tb : Nat} (h : TableAt S tb t T) (k : Kp o S S') (hn : tb ≠ o) : TableAt S' tb t T := by
  obtain ⟨fs, h1, h2, h3⟩ := h.ob
  exact ⟨fs, k.at h1 hn, h2, h3⟩
/-- the two checks agree -/
theorem agree {Q : Env' → Sto → Prop} {Rt : D → Sto → Prop} {la : FA} {r m tb : Nat} (V : Envi G t T A B) (ht : TableAt S tb t T) (hL : 13 ≤ L) (hr : r ≤ 3) (hm : m ≤ 19) (hd : Pap o S m d) (he : ∀ S, wp (la e S) fun ds S' => ds = [.obj tb, dP A, dP B, .int r, d] ∧ S' = S)
    (hdue : e[15]? = some (some (.bl (gpT T A B r d)))) (q : ∀ U, S <+: U → Q e U) : ws (sIf (bNot (bVal (fCallU 2 (cf G L 41) (aCons (fCallU 5 (cf G L 34) la) (aCons (eVar 15) aNil))))) (sSeq (sRet (eC (.bl false))) sNil) sNil e S) Q Rt := by
  rw [ws_if]
  simp only [wp_bNot, wp_bVal, wp_callU, wp_cons, wp_nil, wp_eVar]
  refine wp_imp (he S) fun ds S' ⟨e1, e2⟩ => ?_
  subst e1 e2
  refine ⟨rfl, f_paper' V ht hL hr hm hd fun U hU => ?_⟩
  refine ⟨_, hdue, rfl, f_same' (by omega) ?_⟩
  refine ⟨_, rfl, fun h => by simp at h, fun _ => ?_⟩
  exact q U hU
theorem Pic.envi (hG : G.att = attB) (hT : Turn t T) (hA : Pic t A) (hB : Pic t B) : Envi G t T A B := ⟨hG, hT, hA, hB⟩
theorem paper_fit {s : String} {tr : D} {r : Nat} (hr : r ≤ 3) (hs : s = "apart" ∨ s = "alike") (h : Tr 5 (3 * r + 1) tr) : Fit 5 o S 11 (.tup [.str s, tr]) := by
  refine ⟨by simp, fun y hy => ?_⟩
  simp at hy
  rcases hy with rfl | rfl
  · rcases hs with rfl | rfl
    · exact okA
    · exact okB
  · exact (h.up (show 3 * r + 1 ≤ 10 by omega)).fit
theorem rounds_at {i : Nat} (hi : i < 6) (q : ∀ r : Nat, r ≤ 3 → Q (.int r) S) : wp (opIx (.tup [.int 0, .int 1, .int 1, .int 2, .int 2, .int 3]) (.int i) S) Q := by
  refine ixAll (by simpa using hi) fun y hy => ?_
  simp only [List.mem_cons, List.not_mem_nil, or_false] at hy
  rcases hy with rfl | rfl | rfl | rfl | rfl | rfl
  · exact q 0 (by omega)
  · exact q 1 (by omega)
  · exact q 1 (by omega)
  · exact q 2 (by omega)
  · exact q 2 (by omega)
  · exact q 3 (by omega)
theorem near_at {i r : Nat} (hi : i < 2) (hr : r ≤ 3) (q : ∀ n : Nat, n ≤ 3 → Q (.int n) S) : wp (opIx (.tup [.int (if (r : Int) - 1 > 0 then (r : Int) - 1 else 0), .int (if (r : Int) + 1 < 3 then (r : Int) + 1 else 3)]) (.int i) S) Q := by
  refine ixAll (by simpa using hi) fun y hy => ?_
  simp only [List.mem_cons, List.not_mem_nil, or_false] at hy
  have nat : ∀ z : Int, 0 ≤ z → z ≤ 3 → Q (.int z) S := fun z h1 h2 => by
    obtain ⟨n, rfl⟩ : ∃ n : Nat, z = n := ⟨z.toNat, by omega⟩
    exact q n (by omega)
  rcases hy with rfl | rfl
  · refine nat _ ?_ ?_ <;> split <;> omega
  · refine nat _ ?_ ?_ <;> split <;> omega
end
end Mini
end

section
set_option Elab.async false
set_option linter.all false
set_option maxRecDepth 100000
set_option maxHeartbeats 4000000
namespace Mini
open PySem PySem.Spec PyProof.Rows L2
/-! k84: the law. -/
section
variable {G : Gl} {S : Sto} {Q : D → Sto → Prop}
theorem f_law (hG : G.att = attB) {ns : List Int} (hl : ns.length ≤ 63) : wp (cf G 24 42 [.rol ns] []) fun d _ => d = .bl true := by
  obtain ⟨sc, hsc⟩ : ∃ sc, sc = D.rol ns := ⟨_, rfl⟩
  rw [← hsc]
  refine wp_cf (k := 23) rfl [some sc, none, none, none, none, none, none, none, none, none, none, none, none, none, none, none, none] rfl rfl ?_
  unfold d_law
  obtain ⟨o, ho⟩ : ∃ o : Nat, o = 3 := ⟨_, rfl⟩
  refine ws_let (fun d S' => d = .obj o ∧ SrcAt S' o) ?_ ?_
  · simp [hsc, ho]
    exact f_source' (S := []) (by omega) hl fun U _ h => ⟨rfl, h⟩
  rintro d S1 ⟨rfl, s1⟩
  refine ws_let (fun d S' => ∃ t : Nat, d = .int t ∧ 1 ≤ t ∧ t ≤ 4 ∧ SrcAt S' o) ?_ ?_
  · simp
    refine f_draw' s1 (by omega) (by omega) (by omega) fun U v a b c => ?_
    rw [wp_opAddI]
    exact ⟨1 + v, by simp, by omega, by omega, b⟩
  rintro d S2 ⟨t, rfl, ht1, ht2, s2⟩
  refine ws_let (fun d S' => ∃ T, d = dI T ∧ Turn t T ∧ SrcAt S' o) ?_ ?_
  · simp
    exact f_lturn s2 (by omega) rfl ht1 (by omega) fun U T a b c => ⟨T, rfl, c, b⟩
  rintro d S3 ⟨T, rfl, hT, s3⟩
  simp only [List.set_cons_zero, List.set_cons_succ]
  refine ws_let (fun d S' => ∃ tb, d = .obj tb ∧ tb ≠ o ∧ TableAt S' tb t T ∧ SrcAt S' o) ?_ ?_
  · refine wp_make ?_
    simp only [wp_cons, wp_nil, wp_new, wp_call, wp_eVar]
    refine ⟨_, rfl, cList_W ?_⟩
    have hlt3 := s3.lt
    have kA : Kp o S3 (S3 ++ [O.lst (T.map D.int)]) := Kp.of (List.prefix_append _ _)
    have sA : SrcAt (S3 ++ [O.lst (T.map D.int)]) o := s3.app
    have gA : (S3 ++ [O.lst (T.map D.int)])[S3.length]? = some (.lst (T.map D.int)) := by simp
    generalize S3 ++ [O.lst (T.map D.int)] = SA at *
    simp
    refine f_draw' sA (by omega) (by omega) (by omega) fun U v ku su hv => ?_
    simp
    refine ⟨by omega, ?_⟩
    refine wp_comp ((List.range v).map fun (i : Nat) => D.int i) (fun i acc S' => ∃ bs : List (List (List Int)), acc = bs.map dP ∧ bs.length = i ∧ (∀ P ∈ bs, Pic t P ∧ P.length = 3) ∧ Kp o S3 S' ∧ SrcAt S' o ∧ S'[S3.length]? = some (.lst (T.map D.int))) (by simp [lim]; omega) ⟨[], rfl, rfl, by simp, kA.trans ku, su, ku.at gA (by omega)⟩ (fun i acc S' ⟨bs, e1, e2, e3, e4, e5, e6⟩ hi ha => ?_) (fun acc S' ⟨bs, e1, e2, e3, e4, e5, e6⟩ => ?_)
    · subst e1
      simp at hi
      refine ⟨by simp [it_rng, hi], _, rfl, ?_⟩
      simp [hi, bTrue, wipeE]
      refine f_picture' e5 (p := 3) (by omega) rfl rfl ht1 (by omega) (by omega) fun U2 P k2 s2 hP hP3 => ⟨bs ++ [P], by simp, by simp [e2], ?_, e4.trans k2, s2, k2.at e6 (by omega)⟩
      intro P' hP'
      rcases List.mem_append.mp hP' with h | h
      · exact e3 P' h
      · simp at h; subst h; exact ⟨hP, hP3⟩
    · subst e1
      simp at e2
      refine ⟨by simp [it_rng], ?_⟩
      have hl6 := (List.getElem?_eq_some_iff.mp e6).1
      have hlo := e5.lt
      refine f_init (N := S'.length + 1) (S0 := S3) hG (by omega) (S := S' ++ [O.lst (bs.map dP), O.ins ("Table" : Str) []]) e5.app hT e3 (by omega) (R1 := S3.length) (R2 := S'.length) (by rw [List.getElem?_append_left hl6]; exact e6) (by simp) (by simp) (by omega) (by omega) (by omega) (by omega) (by omega) (by omega) (e4.trans (Kp.of (List.prefix_append _ _))) fun U5 k5 s5 t5 => ?_
      exact ⟨rfl, by omega, t5, s5⟩
  rintro d S4 ⟨tb, rfl, htb, tab4, s4⟩
  simp only [List.set_cons_zero, List.set_cons_succ]
  rw [ws_seq, ws_asg]
  simp only [wp_callU, wp_cons, wp_nil, wp_eVar]
  refine ⟨_, rfl, _, rfl, _, rfl, rfl, ?_⟩
  refine f_shown s4 (by omega) rfl hT fun S5 A B k5 s5 hA hB hA5 hB5 => ?_
  refine ⟨_, rfl, ?_⟩
  simp only [List.set_cons_zero, List.set_cons_succ]
  have tab5 := tab4.kp k5 htb
  refine ws_let (fun d S' => ∃ r : Nat, d = .int r ∧ r ≤ 3 ∧ Kp o S5 S' ∧ SrcAt S' o) ?_ ?_
  · simp only [wp_op2, wp_tup, wp_cons, wp_nil, wp_c, wp_callU, wp_eVar]
    refine ⟨by simp [lim], _, rfl, rfl, ?_⟩
    refine f_draw' s5 (by omega) (by omega) (by omega) fun U v a b c => ?_
    exact rounds_at (by omega) fun r hr => ⟨r, rfl, hr, a, b⟩
  rintro d S6 ⟨r, rfl, hr, k6, s6⟩
  simp only [List.set_cons_zero, List.set_cons_succ]
  have tab6 := tab5.kp k6 htb
  have V := Pic.envi hG hT hA hB
  have V' := Pic.envi hG hT hB hA
  refine ws_let (fun d S' => Fit 5 o S' 11 d ∧ gpT T A B r d = true ∧ Kp o S6 S' ∧ SrcAt S' o) ?_ ?_
  · simp only [wp_callU, wp_cons, wp_nil, wp_eVar]
    refine ⟨_, rfl, _, rfl, _, rfl, _, rfl, _, rfl, rfl, ?_⟩
    exact f_lpaper V hA5 hB5 (by omega) hr s6 fun U s tr a b c d e => ⟨paper_fit hr c d, e, a, b⟩
  rintro rt S7 ⟨fit7, right7, k7, s7⟩
  simp only [List.set_cons_zero, List.set_cons_succ]
  have tab7 := tab6.kp k7 htb
  refine ws_then (fun e' S' => e' = [some sc, some (.obj o), some (.int t), some (dI T), some (.obj tb), some (.int r), some rt, none, none, none, none, none, some (dP A), some (dP B), none, none, none] ∧ Kp o S7 S' ∧ SrcAt S' o) ?_ ?_
  · rw [ws_if]
    simp only [wp_bVal, wp_op2, wp_callU, wp_cons, wp_nil, wp_eVar, wp_c]
    refine ⟨_, rfl, _, rfl, _, rfl, _, rfl, _, rfl, rfl, ?_⟩
    refine f_paper' V tab7 (by omega) hr (by omega) ((fit7.mono (Kp.refl _) (by omega) (Nat.le_refl _)).pap) fun U hU => ?_
    rw [right7]
    refine wp_at (a := .bl false) rfl ⟨_, rfl, fun h => by simp at h, fun _ => ?_⟩
    exact ⟨rfl, Kp.of hU, pre_src s7 hU⟩
  rintro e' S8 ⟨rfl, k8, s8⟩
  have tab8 := tab7.kp k8 htb
  have fit8 := fit7.mono k8 (Nat.le_refl _) (Nat.le_refl _)
  refine ws_let (fun d S' => ∃ mo, d = .obj mo ∧ MenuAt S' mo 3 3 o ∧ Kp o S8 S' ∧ SrcAt S' o) ?_ ?_
  · have hlt8 := s8.lt
    simp [l1, l2, l3, l16]
    refine ⟨⟨⟨_, by simp; rfl, by simp, by simp, ?_⟩, by omega⟩, Kp.of (List.prefix_append _ _), s8.app⟩
    intro x hx
    simp only [List.mem_cons, List.not_mem_nil, or_false] at hx
    rcases hx with rfl | rfl | rfl | rfl | rfl | rfl | rfl | rfl | rfl | rfl | rfl | rfl | rfl | rfl | rfl | rfl
    all_goals simp [Fit, okA, okB]
    all_goals omega
  rintro d S9 ⟨mo, rfl, menu9, k9, s9⟩
  simp only [List.set_cons_zero, List.set_cons_succ]
  have tab9 := tab8.kp k9 htb
  have fit9 := fit8.mono k9 (Nat.le_refl _) (Nat.le_refl _)
  obtain ⟨rg, hrg⟩ : ∃ rg, rg = D.rng 0 ((8 : Nat) : Int) := ⟨_, rfl⟩
  rw [ws_seq, ws_for]
  simp only [wp_fVal, wp_call, wp_cons, wp_nil, wp_c]
  refine (wp_cRange1 (Q := _)).mpr ⟨by simp, ?_⟩
  refine ws_loop ((List.range 8).map fun (i : Nat) => D.int i) (fun i e S' => ∃ (y8 y14 y15 y16 : Option D), e = [some sc, some (.obj o), some (.int t), some (dI T), some (.obj tb), some (.int r), some rt, some (.obj mo), y8, none, none, none, some (dP A), some (dP B), y14, y15, y16] ∧ Kp o S9 S' ∧ SrcAt S' o) (by simp [lim]) ⟨none, none, none, none, rfl, Kp.refl _, s9⟩
    (fun i e S' ⟨y8, y14, y15, y16, he, kp, sr⟩ hi => ?_) (fun e S' ⟨y8, y14, y15, y16, he, kp, sr⟩ => ?_)
  · subst he
    simp at hi
    refine ⟨by simp [itVal]; omega, _, rfl, ?_⟩
    simp only [List.getElem_map, List.getElem_range, List.set_cons_zero, List.set_cons_succ]
    have tabA := tab9.kp kp htb
    have fitA := fit9.mono kp (Nat.le_refl _) (Nat.le_refl _)
    have menuA := menu9.kp kp
    refine ws_let (fun d SB => Fit 6 o SB 15 d ∧ Kp o S' SB ∧ SrcAt SB o) ?_ ?_
    · simp only [wp_callU, wp_cons, wp_nil, wp_eVar]
      refine ⟨_, rfl, _, rfl, _, rfl, rfl, ?_⟩
      exact f_bent 11 _ _ 5 _ _ (by omega) sr menuA (by omega) (by omega) fitA fun U d' a b c => ⟨c, a, b⟩
    rintro v1 SB ⟨fitB, kB, sB⟩
    simp only [List.set_cons_zero, List.set_cons_succ]
    refine ws_then (fun e' SC => ∃ v2, e' = [some sc, some (.obj o), some (.int t), some (dI T), some (.obj tb), some (.int r), some rt, some (.obj mo), some (.int i), none, none, none, some (dP A), some (dP B), some v2, y15, y16] ∧ Fit 7 o SC 19 v2 ∧ Kp o S' SC ∧ SrcAt SC o) ?_ ?_
    · rw [ws_if]
      simp only [wp_bVal, wp_op2, wp_callU, wp_cons, wp_nil, wp_eVar, wp_c]
      refine ⟨_, rfl, rfl, ?_⟩
      refine f_draw' sB (by omega) (by omega) (by omega) fun U v a b c => ?_
      rw [wp_opEq]
      refine ⟨_, eqD_int, _, rfl, fun _ => ?_, fun _ => ?_⟩
      · rw [ws_seq, ws_asgV]
        simp only [wp_callU, wp_cons, wp_nil, wp_eVar]
        refine ⟨_, rfl, _, rfl, _, rfl, rfl, ?_⟩
        refine f_bent 15 _ _ 6 _ _ (by omega) b (menuA.kp (kB.trans a)) (by omega) (by omega) (fitB.mono a (Nat.le_refl _) (Nat.le_refl _)) fun U2 d' a2 b2 c2 => ?_
        simp only [ws_nil, List.set_cons_zero, List.set_cons_succ]
        exact ⟨d', rfl, c2, (kB.trans a).trans a2, b2⟩
      · simp only [ws_nil]
        exact ⟨v1, rfl, fitB.mono a (by omega) (by omega), kB.trans a, b⟩
    rintro e' SC ⟨v2, rfl, fitC, kC, sC⟩
    refine ws_then (fun e' SD => ∃ v3, e' = [some sc, some (.obj o), some (.int t), some (dI T), some (.obj tb), some (.int r), some rt, some (.obj mo), some (.int i), none, none, none, some (dP A), some (dP B), some v3, y15, y16] ∧ Fit 7 o SD 19 v3 ∧ Kp o S' SD ∧ SrcAt SD o) ?_ ?_
    · rw [ws_if]
      simp only [wp_bVal, wp_op2, wp_eVar, wp_c, wp_opEq]
      refine ⟨_, rfl, _, eqD_int, _, rfl, fun _ => ?_, fun _ => ?_⟩
      · rw [ws_seq, ws_asgV]
        simp only [wp_callU, wp_cons, wp_nil, wp_eVar]
        refine ⟨_, rfl, _, rfl, rfl, ?_⟩
        refine f_odd sC (by omega) fun U2 d' a2 b2 c2 => ?_
        simp only [ws_nil, List.set_cons_zero, List.set_cons_succ]
        exact ⟨d', rfl, c2.mono (Kp.refl _) (by omega) (by omega), kC.trans a2, b2⟩
      · simp only [ws_nil]
        exact ⟨v2, rfl, fitC, kC, sC⟩
    rintro e' SD ⟨v3, rfl, fitD, kD, sD⟩
    have papD : Pap o SD 19 v3 := (fitD.mono (Kp.refl _) (by omega) (Nat.le_refl _)).pap
    refine ws_let (fun d SE => d = .bl (gpT T A B r v3) ∧ SD <+: SE) ?_ ?_
    · simp only [wp_callU, wp_cons, wp_nil, wp_eVar]
      refine ⟨_, rfl, _, rfl, _, rfl, _, rfl, _, rfl, rfl, ?_⟩
      exact f_lis_paper' V (by omega) hr papD fun U hU => ⟨rfl, hU⟩
    rintro d SE ⟨rfl, pE⟩
    simp only [List.set_cons_zero, List.set_cons_succ]
    have tabE := (tabA.kp kD htb).kp (Kp.of (o := o) pE) htb
    rw [ws_seq]
    refine agree V tabE (by omega) hr (by omega) (papD.kp (Kp.of pE)) (fun S => by simp) rfl fun SF pF => ?_
    have sF := pre_src (pre_src sD pE) pF
    have tabF := tabE.kp (Kp.of (o := o) pF) htb
    have papF := (papD.kp (Kp.of (o := o) pE)).kp (Kp.of (o := o) pF)
    have kF : Kp o S' SF := (kD.trans (Kp.of pE)).trans (Kp.of pF)
    refine ws_let (fun d SG => ∃ n : Nat, d = .int n ∧ n ≤ 3 ∧ Kp o SF SG ∧ SrcAt SG o) ?_ ?_
    · simp only [wp_op2, wp_tup, wp_cons, wp_nil, wp_c, wp_callU, wp_call, wp_eVar, wp_opSub, wp_opAddI]
      refine ⟨_, rfl, ?_⟩
      simp only [cMax2, cMin2, wp_ret]
      refine ⟨_, rfl, by simp [lim], _, rfl, rfl, ?_⟩
      refine f_draw' sF (by omega) (by omega) (by omega) fun U v a b c => ?_
      exact near_at (by omega) hr fun n hn => ⟨n, rfl, hn, a, b⟩
    rintro d SG ⟨n, rfl, hn, kG, sG⟩
    simp only [List.set_cons_zero, List.set_cons_succ]
    have papG := papF.kp kG
    have tabG := tabF.kp kG htb
    refine ws_let (fun d SE => d = .bl (gpT T B A n v3) ∧ SG <+: SE) ?_ ?_
    · simp only [wp_callU, wp_cons, wp_nil, wp_eVar]
      refine ⟨_, rfl, _, rfl, _, rfl, _, rfl, _, rfl, rfl, ?_⟩
      exact f_lis_paper' V' (by omega) hn papG fun U hU => ⟨rfl, hU⟩
    rintro d SH ⟨rfl, pH⟩
    simp only [List.set_cons_zero, List.set_cons_succ]
    rw [ws_seq, ws_if]
    simp only [wp_bNot, wp_bVal, wp_callU, wp_cons, wp_nil, wp_eVar]
    unfold fCallK
    rw [wp_bnd]
    simp only [wp_cons, wp_nil, wp_eVar]
    refine ⟨_, rfl, _, rfl, _, rfl, _, rfl, _, rfl, ?_⟩
    rw [if_pos ⟨rfl, rfl, by decide⟩]
    show wp (cf G 23 34 [.obj tb, dP B, dP A, .int n, v3] SH) _
    refine f_paper' V' (tabG.kp (Kp.of (o := o) pH) htb) (by omega) hn (by omega) (papG.kp (Kp.of pH)) fun SI pI => ?_
    refine ⟨_, rfl, rfl, f_same' (by omega) ?_⟩
    refine ⟨_, rfl, fun h => by simp at h, fun _ => ?_⟩
    simp only [ws_nil]
    exact ⟨_, _, _, _, rfl, kp.trans (((kF.trans kG).trans (Kp.of pH)).trans (Kp.of pI)), pre_src (pre_src sG pH) pI⟩
  · subst he
    refine ⟨by simp [itVal], ?_⟩
    have tabA := tab9.kp kp htb
    refine ws_let (fun d SB => ∃ A2 B2, d = .tup [dP A2, dP B2] ∧ Pic t A2 ∧ Pic t B2 ∧ A2.length ≤ 5 ∧ B2.length ≤ 5 ∧ Kp o S' SB ∧ SrcAt SB o) ?_ ?_
    · simp only [wp_callU, wp_cons, wp_nil, wp_eVar]
      refine ⟨_, rfl, _, rfl, _, rfl, rfl, ?_⟩
      exact f_shown sr (by omega) rfl hT fun U A2 B2 a b c d e f => ⟨A2, B2, rfl, c, d, e, f, a, b⟩
    rintro ag SB ⟨A2, B2, hag, pA2, pB2, lA2, lB2, kB, sB⟩
    simp only [List.set_cons_zero, List.set_cons_succ]
    have tabB := tabA.kp kB htb
    have ag0 : ∀ {S : Sto} {Q : D → Sto → Prop}, Q (dP A2) S → wp (opIx ag (.int 0) S) Q := fun q => by
      rw [hag]; exact ixW (i := 0) (xs := [dP A2, dP B2]) rfl (by simp) q
    have ag1 : ∀ {S : Sto} {Q : D → Sto → Prop}, Q (dP B2) S → wp (opIx ag (.int 1) S) Q := fun q => by
      rw [hag]; exact ixW (i := 1) (xs := [dP A2, dP B2]) rfl (by simp) q
    clear hag
    refine ws_let (fun d SC => Fit 5 o SC 11 d ∧ gpT T A2 B2 r d = true ∧ Kp o SB SC ∧ SrcAt SC o) ?_ ?_
    · simp only [wp_callU, wp_cons, wp_nil, wp_eVar, wp_op2, wp_c]
      refine ⟨_, rfl, _, rfl, _, rfl, ag0 ⟨_, rfl, ag1 ⟨_, rfl, rfl, ?_⟩⟩⟩
      exact f_lpaper (Pic.envi hG hT pA2 pB2) lA2 lB2 (by omega) hr sB fun U s tr a b c d e => ⟨paper_fit hr c d, e, a, b⟩
    rintro pp SC ⟨fitC, rightC, kC, sC⟩
    simp only [List.set_cons_zero, List.set_cons_succ]
    have tabC := tabB.kp kC htb
    have papC : Pap o SC 19 pp := (fitC.mono (Kp.refl _) (by omega) (by omega)).pap
    rw [ws_seq, ws_for]
    simp only [wp_fVal, wp_tup, wp_cons, wp_nil, wp_eVar, wp_op2, wp_c]
    refine ⟨_, rfl, _, rfl, ag0 ⟨by simp [lim], _, rfl, ag1 ⟨_, rfl, by simp [lim], _, rfl, _, rfl, by simp [lim], _, rfl, ag1 ⟨_, rfl, ag0 ⟨by simp [lim], by simp [lim], rfl, ?_⟩⟩⟩⟩⟩
    have hit : ∀ i S, itVal (D.tup [D.tup [dP A, dP A2], D.tup [dP B2, dP B], D.tup [dP A, dP B], D.tup [dP B2, dP A2]]) i S = some ([(A, A2), (B2, B), (A, B), (B2, A2)].map fun p => D.tup [dP p.1, dP p.2])[i]? := fun i S => rfl
    generalize D.tup [D.tup [dP A, dP A2], D.tup [dP B2, dP B], D.tup [dP A, dP B], D.tup [dP B2, dP A2]] = prs at *
    have hpr : ∀ p ∈ [(A, A2), (B2, B), (A, B), (B2, A2)], Pic t p.1 ∧ Pic t p.2 := by
      intro p hp
      simp only [List.mem_cons, List.not_mem_nil, or_false] at hp
      rcases hp with rfl | rfl | rfl | rfl
      · exact ⟨hA, pA2⟩
      · exact ⟨pB2, hB⟩
      · exact ⟨hA, hB⟩
      · exact ⟨pB2, pA2⟩
    have hpl : [(A, A2), (B2, B), (A, B), (B2, A2)].length = 4 := rfl
    generalize [(A, A2), (B2, B), (A, B), (B2, A2)] = prl at *
    refine ws_loop (prl.map fun p => D.tup [dP p.1, dP p.2]) (fun i e SD => ∃ (z8 z11 z14 z15 z16 : Option D), e = [some sc, some (.obj o), some (.int t), some (dI T), some (.obj tb), some (.int r), some rt, some (.obj mo), z8, some ag, some pp, z11, some (dP A), some (dP B), z14, z15, z16] ∧ SC <+: SD) (by simp [lim, hpl]) ⟨_, _, _, _, _, rfl, List.prefix_refl _⟩
      (fun i e SD ⟨z8, z11, z14, z15, z16, he, pD⟩ hi => ?_) (fun e SD ⟨z8, z11, z14, z15, z16, he, pD⟩ => ?_)
    · subst he
      simp at hi
      obtain ⟨hX, hY⟩ := hpr _ (List.getElem_mem hi)
      refine ⟨by rw [hit]; simp [hi], _, rfl, ?_⟩
      simp only [List.getElem_map, List.set_cons_zero, List.set_cons_succ]
      generalize prl[i].1 = X at hX
      generalize prl[i].2 = Y at hY
      obtain ⟨pr, hpr2⟩ : ∃ pr, pr = D.tup [dP X, dP Y] := ⟨_, rfl⟩
      rw [← hpr2]
      have pr0 : ∀ {S : Sto} {Q : D → Sto → Prop}, Q (dP X) S → wp (opIx pr (.int 0) S) Q := fun q => by
        rw [hpr2]; exact ixW (i := 0) (xs := [dP X, dP Y]) rfl (by simp) q
      have pr1 : ∀ {S : Sto} {Q : D → Sto → Prop}, Q (dP Y) S → wp (opIx pr (.int 1) S) Q := fun q => by
        rw [hpr2]; exact ixW (i := 1) (xs := [dP X, dP Y]) rfl (by simp) q
      have VX := Pic.envi hG hT hX hY
      have papD := papC.kp (Kp.of (o := o) pD)
      refine ws_let (fun d SE => d = .bl (gpT T X Y r pp) ∧ SD <+: SE) ?_ ?_
      · simp only [wp_callU, wp_cons, wp_nil, wp_eVar, wp_op2, wp_c]
        refine ⟨_, rfl, _, rfl, pr0 ⟨_, rfl, pr1 ⟨_, rfl, _, rfl, rfl, ?_⟩⟩⟩
        exact f_lis_paper' VX (by omega) hr papD fun U hU => ⟨rfl, hU⟩
      rintro d SE ⟨rfl, pE⟩
      simp only [List.set_cons_zero, List.set_cons_succ]
      have tabE := (tabC.kp (Kp.of (o := o) pD) htb).kp (Kp.of (o := o) pE) htb
      rw [ws_seq]
      refine agree VX tabE (by omega) hr (by omega) (papD.kp (Kp.of (o := o) pE)) (fun S => ?_) rfl fun SF pF => ?_
      · simp only [wp_callU, wp_cons, wp_nil, wp_eVar, wp_op2, wp_c]
        exact ⟨_, rfl, _, rfl, pr0 ⟨_, rfl, pr1 ⟨_, rfl, _, rfl, rfl, rfl⟩⟩⟩
      · simp only [ws_nil]
        exact ⟨_, _, _, _, _, rfl, (pD.trans pE).trans pF⟩
    · subst he
      refine ⟨by rw [hit]; simp, ?_⟩
      rw [ws_seq, ws_ret]
      simp only [wp_op2, wp_callU, wp_cons, wp_nil, wp_eVar, wp_c]
      refine ⟨_, rfl, _, rfl, ag0 ⟨_, rfl, ag1 ⟨_, rfl, _, rfl, rfl, ?_⟩⟩⟩
      refine f_paper' (Pic.envi hG hT pA2 pB2) (tabC.kp (Kp.of (o := o) pD) htb) (by omega) hr (by omega) (papC.kp (Kp.of (o := o) pD)) fun U hU => ?_
      rw [rightC]
      exact wp_at (a := .bl true) rfl rfl
end
end Mini
end

section
set_option Elab.async false
set_option linter.all false
set_option maxRecDepth 100000
namespace Mini
open PySem PySem.Spec PyProof.Rows L2
theorem says : Says 24 := by
  intro G hG ns hl
  have h := f_law hG hl
  rw [cf_eq] at h
  obtain ⟨a, S', h1, h2⟩ := wp_ex h
  subst h2
  exact ⟨S', h1⟩
end Mini
theorem PySem.Challenge.cw_patchrealm_k84_game_papers_bent_holds : PySem.Challenge.rw_patchrealm_k84_game_papers_bent.Holds := by
  exact Mini.holds_of 24 (by decide) Mini.says
end
