import PyProof.Rows.All
import HandS.ForMost
import HandS.ForExc
import HandS.ForSpec
import HandS.Lambda
import HandS.TupAny
import HandS.TupMul
import HandS.Style
import HandS.Deep
import HandS.Codes
import HandS.More
import HandS.IsInst
import HandS.Conv
import HandS.RaiseMore
import HandS.EndBits
import KE.DataMinKey
import KE.DataMinMax
import HandS.SortKw
import HandS.EndTab
import KE.KNestM
import KE.KUnpackStar
import HandS.ExcValue
import KE.GoesMore
import KE.GoesEnumKw
import HandS.Zip
import PyProof.DictUpdate
import HandS.CallLocal
import HandS.TupSets
import HandS.SetTxt0
import KE.SortData
import HandS.Call
import HandS.Text
import PyProof.ReprLen
import PySem.Challenge.RW_rankloop_k64_scripts_written_and_read
set_option Elab.async false
set_option linter.all false
set_option maxRecDepth 100000
set_option maxHeartbeats 400000
/-! Rk: values, a store, and pure functions that a def's body computes; how they stand for the layer's readings. -/
namespace Rk
open PySem L2

/-- a value: tuples as they are, lists and dicts that nobody changes any more as they are (lst, dct; rol: one that is read alone), those that may change by their number in the store (ref), a def of the text (fn), a built-in class (ty); kd: a dict of the written part -/
inductive D where
  | non | bl (b : Bool) | int (i : Int) | str (x : Str)
  | tup (xs : List D) | lst (xs : List D) | rol (xs : List D) | dct (kvs : List (Key × D))
  | kd (kvs : List (Key × D)) | ref (n : Nat) | fn (g : Nat) | ty (n : String)
  deriving Inhabited
/-- what stands in the store -/
inductive C where
  | lst (xs : List D) | dct (kvs : List (Key × D)) | ins (c : Nat) (fs : List (Str × D))
abbrev Store := List C
abbrev Env := List (Option D)
inductive R (α : Type) where
  | ok (a : α) (S : Store) | bad
def R.bind {α β : Type} : R α → (α → Store → R β) → R β
  | .ok a S, f => f a S
  | .bad, _ => .bad
@[simp] theorem R.bind_ok {α β : Type} (a : α) (S : Store) (f : α → Store → R β) : (R.ok a S).bind f = f a S := rfl
@[simp] theorem R.bind_bad {α β : Type} (f : α → Store → R β) : (R.bad : R α).bind f = .bad := rfl
theorem R.bind_inv {α β : Type} {r : R α} {f : α → Store → R β} {b : β} {S' : Store} (h : r.bind f = .ok b S') : ∃ a S, r = .ok a S ∧ f a S = .ok b S' := by
  cases r with
  | ok a S => exact ⟨a, S, rfl, h⟩
  | bad => cases h

/-- where the store's things stand; and what else is being built just now -/
structure Bt where
  c : List Addr
  z : List Addr
/-- what is neither -/
def Bt.out (β : Bt) (a : Addr) : Prop := a ∉ β.c ∧ a ∉ β.z
/-- one cell more -/
def Bt.snoc (β : Bt) (p : Addr) : Bt := ⟨β.c ++ [p], β.z⟩
/-- the written part, and where the defs stand -/
structure Gm where
  K : PySem.W.Frag
  fa : Nat → Addr
  P : Params
  T : List (Addr × Str)
  ca : Nat → Addr

/-- a list of the written part -/
def KL (K : PySem.W.Frag) (a : Addr) (xs : List V) : Prop :=
  ∃ (o : Obj) (its : Array Value) (n : Nat), K.lookup a = some o ∧ o.cls = .type "list" ∧ o.dict = none ∧ o.data = .seq its n ∧ its.size ≤ sizeLine ∧ Vals xs its.toList
/-- the entries of a dict with texts as keys -/
def EntsAre (P : Params) : List DictEntry → List (Key × V) → Prop
  | [], [] => True
  | e :: es, (k, v) :: r => (∃ x t, k = .inr x ∧ e.key = .str x t ∧ e.hash = PyData.keyHash P x ∧ RelV v e.val) ∧ EntsAre P es r
  | _, _ => False
/-- a dict of the written part -/
def KDs (K : PySem.W.Frag) (P : Params) (a : Addr) (kvs : List (Key × V)) : Prop := ∃ es n, K.lookup a = some ⟨.type "dict", none, .dict es n, #[]⟩ ∧ (a == sysModules) = false ∧ EntsAre P es.toList kvs
mutual
/-- v stands for d; β: where the store's things stand -/
inductive RV (Γ : Gm) (β : Bt) (H : Hp) : V → D → Prop
  | non : RV Γ β H .non .non
  | bl (b : Bool) : RV Γ β H (.bl b) (.bl b)
  | int (i : Int) : RV Γ β H (.int i) (.int i)
  | str (x : Str) : RV Γ β H (.str x) (.str x)
  | tup {a : Addr} {vs : List V} {ds : List D} : SqT Γ.K H a vs → RVs Γ β H vs ds → RV Γ β H (.ref a) (.tup ds)
  | lst {a : Addr} {vs : List V} {ds : List D} : β.out a → H a = some (.lst vs) → RVs Γ β H vs ds → RV Γ β H (.ref a) (.lst ds)
  | rol {a : Addr} {vs : List V} {ds : List D} : β.out a → Rd H a (.lst vs) → RVs Γ β H vs ds → RV Γ β H (.ref a) (.rol ds)
  | rolK {a : Addr} {vs : List V} {ds : List D} : KL Γ.K a vs → RVs Γ β H vs ds → RV Γ β H (.ref a) (.rol ds)
  | dct {a : Addr} {kvs : List (Key × V)} {ds : List (Key × D)} : β.out a → Rd H a (.dK kvs) → RKs Γ β H kvs ds → RV Γ β H (.ref a) (.dct ds)
  | kd {a : Addr} {kvs : List (Key × V)} {ds : List (Key × D)} : KDs Γ.K Γ.P a kvs → RKs Γ β H kvs ds → RV Γ β H (.ref a) (.kd ds)
  | ref {n : Nat} {a : Addr} : β.c[n]? = some a → RV Γ β H (.ref a) (.ref n)
  | fn (g : Nat) : RV Γ β H (.ref (Γ.fa g)) (.fn g)
  | ty (n : String) : RV Γ β H (.ty n) (.ty n)
inductive RVs (Γ : Gm) (β : Bt) (H : Hp) : List V → List D → Prop
  | nil : RVs Γ β H [] []
  | cons {v : V} {vs : List V} {d : D} {ds : List D} : RV Γ β H v d → RVs Γ β H vs ds → RVs Γ β H (v :: vs) (d :: ds)
inductive RKs (Γ : Gm) (β : Bt) (H : Hp) : List (Key × V) → List (Key × D) → Prop
  | nil : RKs Γ β H [] []
  | cons {k : Key} {v : V} {vs : List (Key × V)} {d : D} {ds : List (Key × D)} : RV Γ β H v d → RKs Γ β H vs ds → RKs Γ β H ((k, v) :: vs) ((k, d) :: ds)
end

/-- from one heap to a later one: what is no cell of the store stays as it was -/
structure Grow (β : Bt) (H : Hp) (β' : Bt) (H' : Hp) : Prop where
  pre : ∃ l, β'.c = β.c ++ l
  ze : β'.z = β.z
  zk : ∀ a ∈ β.z, H' a = H a
  tup : ∀ a xs, Rd H a (.tup xs) → Rd H' a (.tup xs)
  frz : ∀ a o, (∀ ps, o ≠ HO.tbl ps) → β.out a → Rd H a o → Rd H' a o ∧ β'.out a
  lst : ∀ a xs, β.out a → H a = some (.lst xs) → H' a = some (.lst xs)
  fz : ∀ a o u, H a = some (.frz o u) → H' a = some (.frz o u)
  ow : ∀ a x, H a = some (.own x) → H' a = some (.own x)
  co : ∀ a q, H a = some (LamX.CodeO a q) → H' a = some (LamX.CodeO a q)
theorem code_ne {o : HO} {c : Addr} {q : Str} (h : (∃ xs, o = .lst xs) ∨ ∃ xs, o = .dK xs) : o ≠ LamX.CodeO c q := by
  unfold LamX.CodeO
  rcases h with ⟨_, rfl⟩ | ⟨_, rfl⟩ <;> exact fun z => nomatch z
theorem ntl {xs : List V} (ps : Array Value) : HO.lst xs ≠ .tbl ps := fun z => nomatch z
theorem ntd {xs : List (Key × V)} (ps : Array Value) : HO.dK xs ≠ .tbl ps := fun z => nomatch z

section
variable {Γ : Gm} {β β' β'' : Bt} {H H' H'' : Hp}
theorem Grow.refl (β : Bt) (H : Hp) : Grow β H β H := ⟨⟨[], by simp⟩, rfl, fun _ _ => rfl, fun _ _ h => h, fun _ _ _ n h => ⟨h, n⟩, fun _ _ _ h => h, fun _ _ _ h => h, fun _ _ h => h, fun _ _ h => h⟩
theorem Grow.trans (g : Grow β H β' H') (g' : Grow β' H' β'' H'') : Grow β H β'' H'' := by
  refine ⟨?_, g'.ze.trans g.ze, fun a ha => (g'.zk a (by rw [g.ze]; exact ha)).trans (g.zk a ha), fun a xs h => g'.tup a xs (g.tup a xs h), fun a o t n h => g'.frz a o t (g.frz a o t n h).2 (g.frz a o t n h).1, fun a xs n h => g'.lst a xs (g.frz a _ ntl n (.inl h)).2 (g.lst a xs n h), fun a o u h => g'.fz a o u (g.fz a o u h), fun a x h => g'.ow a x (g.ow a x h), fun a q h => g'.co a q (g.co a q h)⟩
  obtain ⟨l, e⟩ := g.pre
  obtain ⟨l', e'⟩ := g'.pre
  exact ⟨l ++ l', by rw [e', e, List.append_assoc]⟩
theorem Grow.get (g : Grow β H β' H') {n : Nat} {a : Addr} (h : β.c[n]? = some a) : β'.c[n]? = some a := by
  obtain ⟨l, e⟩ := g.pre
  rw [e, List.getElem?_append_left (List.getElem?_eq_some_iff.mp h).1]
  exact h
theorem Grow.le (g : Grow β H β' H') : β.c.length ≤ β'.c.length := by
  obtain ⟨l, e⟩ := g.pre
  rw [e]
  simp
theorem Grow.sqT (g : Grow β H β' H') {a : Addr} {vs : List V} (h : SqT Γ.K H a vs) : SqT Γ.K H' a vs := by
  rcases h with h | h
  · exact .inl (g.tup _ _ h)
  · exact .inr h
/-- what RV leans on -/
structure Mon (β : Bt) (H : Hp) (β' : Bt) (H' : Hp) : Prop where
  get : ∀ (n : Nat) (a : Addr), β.c[n]? = some a → β'.c[n]? = some a
  tup : ∀ a xs, Rd H a (.tup xs) → Rd H' a (.tup xs)
  frz : ∀ a o, (∀ ps, o ≠ HO.tbl ps) → β.out a → Rd H a o → Rd H' a o ∧ β'.out a
  lst : ∀ a xs, β.out a → H a = some (.lst xs) → H' a = some (.lst xs)
  fz : ∀ a o u, H a = some (.frz o u) → H' a = some (.frz o u)
  ow : ∀ a x, H a = some (.own x) → H' a = some (.own x)
theorem Grow.mon (g : Grow β H β' H') : Mon β H β' H' := ⟨fun _ _ h => g.get h, g.tup, g.frz, g.lst, g.fz, g.ow⟩
theorem Mon.sqT (g : Mon β H β' H') {a : Addr} {vs : List V} (h : SqT Γ.K H a vs) : SqT Γ.K H' a vs := by
  rcases h with h | h
  · exact .inl (g.tup _ _ h)
  · exact .inr h
mutual
theorem RV.mon (g : Mon β H β' H') : ∀ {v : V} {d : D}, RV Γ β H v d → RV Γ β' H' v d
  | _, _, .non => .non
  | _, _, .bl b => .bl b
  | _, _, .int i => .int i
  | _, _, .str x => .str x
  | _, _, .tup h r => .tup (g.sqT h) (RVs.mon g r)
  | _, _, .lst n h r => .lst (g.frz _ _ ntl n (.inl h)).2 (g.lst _ _ n h) (RVs.mon g r)
  | _, _, .rol n h r => .rol (g.frz _ _ ntl n h).2 (g.frz _ _ ntl n h).1 (RVs.mon g r)
  | _, _, .rolK h r => .rolK h (RVs.mon g r)
  | _, _, .dct n h r => .dct (g.frz _ _ ntd n h).2 (g.frz _ _ ntd n h).1 (RKs.mon g r)
  | _, _, .kd h r => .kd h (RKs.mon g r)
  | _, _, .ref h => .ref (g.get _ _ h)
  | _, _, .fn k => .fn k
  | _, _, .ty n => .ty n
theorem RVs.mon (g : Mon β H β' H') : ∀ {vs : List V} {ds : List D}, RVs Γ β H vs ds → RVs Γ β' H' vs ds
  | _, _, .nil => .nil
  | _, _, .cons h r => .cons (RV.mon g h) (RVs.mon g r)
theorem RKs.mon (g : Mon β H β' H') : ∀ {vs : List (Key × V)} {ds : List (Key × D)}, RKs Γ β H vs ds → RKs Γ β' H' vs ds
  | _, _, .nil => .nil
  | _, _, .cons h r => .cons (RV.mon g h) (RKs.mon g r)
end
theorem RV.mono (g : Grow β H β' H') {v : V} {d : D} (h : RV Γ β H v d) : RV Γ β' H' v d := h.mon g.mon
theorem RVs.mono (g : Grow β H β' H') {v : List V} {d : List D} (h : RVs Γ β H v d) : RVs Γ β' H' v d := h.mon g.mon
theorem RKs.mono (g : Grow β H β' H') {v : List (Key × V)} {d : List (Key × D)} (h : RKs Γ β H v d) : RKs Γ β' H' v d := h.mon g.mon
/-- a cell of the store, at a -/
def CellAt (Γ : Gm) (β : Bt) (H : Hp) (a : Addr) : C → Prop
  | .lst xs => ∃ vs, H a = some (.lst vs) ∧ RVs Γ β H vs xs
  | .dct xs => ∃ vs, H a = some (.dK vs) ∧ RKs Γ β H vs xs
  | .ins c fs => ∃ (dx : Addr) (vs : List (Str × V)), H a = some (.ins (Γ.ca c) dx vs) ∧ H dx = some (.own a) ∧ vs.map (·.1) = fs.map (·.1) ∧ RVs Γ β H (vs.map (·.2)) (fs.map (·.2))
structure RepSt (Γ : Gm) (β : Bt) (S : Store) (H : Hp) : Prop where
  len : S.length = β.c.length
  nd : β.c.Nodup
  at' : ∀ (n : Nat) (a : Addr) (c : C), β.c[n]? = some a → S[n]? = some c → CellAt Γ β H a c
  zt : ∀ a ∈ β.z, (∃ xs, H a = some (.lst xs)) ∧ a ∉ β.c
  tb : LamX.Tabs Γ.T H
theorem RVs.length : ∀ {vs : List V} {ds : List D}, RVs Γ β H vs ds → vs.length = ds.length
  | _, _, .nil => rfl
  | _, _, .cons _ r => by simp [RVs.length r]
theorem RKs.length : ∀ {vs : List (Key × V)} {ds : List (Key × D)}, RKs Γ β H vs ds → vs.length = ds.length
  | _, _, .nil => rfl
  | _, _, .cons _ r => by simp [RKs.length r]
/-- names' values -/
structure RepEnv (Γ : Gm) (β : Bt) (H : Hp) (σ : L2.St) (ds : Env) : Prop where
  len : ds.length = σ.length
  val : ∀ (i : Nat) (d : D), ds[i]? = some (some d) → ∃ v, σ[i]? = some (some v) ∧ RV Γ β H v d
theorem RepEnv.mon (g : Mon β H β' H') {σ : L2.St} {ds : Env} (h : RepEnv Γ β H σ ds) : RepEnv Γ β' H' σ ds :=
  ⟨h.len, fun i d e => let ⟨v, e', r⟩ := h.val i d e; ⟨v, e', r.mon g⟩⟩
theorem CellAt.mon (g : Mon β H β' H') {a : Addr} {c : C} (h : CellAt Γ β H a c) (e : H' a = H a) : CellAt Γ β' H' a c := by
  cases c with
  | lst xs => obtain ⟨vs, h1, h2⟩ := h; exact ⟨vs, e.trans h1, h2.mon g⟩
  | dct xs => obtain ⟨vs, h1, h2⟩ := h; exact ⟨vs, e.trans h1, h2.mon g⟩
  | ins c fs => obtain ⟨dx, vs, h1, h2, h3, h4⟩ := h; exact ⟨dx, vs, e.trans h1, g.ow _ _ h2, h3, h4.mon g⟩
theorem RepEnv.mono (g : Grow β H β' H') {σ : L2.St} {ds : Env} (h : RepEnv Γ β H σ ds) : RepEnv Γ β' H' σ ds :=
  ⟨h.len, fun i d e => let ⟨v, e', r⟩ := h.val i d e; ⟨v, e', r.mono g⟩⟩
theorem RepEnv.set {σ : L2.St} {ds : Env} (h : RepEnv Γ β H σ ds) {v : V} {d : D} (r : RV Γ β H v d) (i : Nat) : RepEnv Γ β H (σ.set i (some v)) (ds.set i (some d)) := by
  refine ⟨by simp [h.len], fun j e q => ?_⟩
  by_cases hj : i = j
  · subst hj
    by_cases hl : i < ds.length
    · rw [List.getElem?_set_self hl] at q
      have q' : d = e := Option.some.inj (Option.some.inj q)
      subst q'
      exact ⟨v, List.getElem?_set_self (by rw [← h.len]; exact hl), r⟩
    · rw [List.getElem?_eq_none (by simpa using hl)] at q
      cases q
  · rw [List.getElem?_set_ne hj] at q ⊢
    exact h.val j e q
theorem RepEnv.wipe1 {σ : L2.St} {ds : Env} (h : RepEnv Γ β H σ ds) (i : Nat) : RepEnv Γ β H (σ.set i none) (ds.set i none) := by
  refine ⟨by simp [h.len], fun j e q => ?_⟩
  by_cases hj : i = j
  · subst hj
    by_cases hl : i < ds.length
    · rw [List.getElem?_set_self hl] at q
      cases q
    · rw [List.getElem?_eq_none (by simpa using hl)] at q
      cases q
  · rw [List.getElem?_set_ne hj] at q ⊢
    exact h.val j e q
structure Rep (Γ : Gm) (β : Bt) (ds : Env) (S : Store) (σ : L2.St) (H : Hp) : Prop where
  st : RepSt Γ β S H
  env : RepEnv Γ β H σ ds
theorem Rep.go {ds : Env} {S S' : Store} {σ : L2.St} (r : Rep Γ β ds S σ H) (g : Grow β H β' H') (s : RepSt Γ β' S' H') : Rep Γ β' ds S' σ H' := ⟨s, r.env.mono g⟩

/-! ### what a rule's answer does to the heap -/
theorem upd_rd {p a : Addr} {o u : HO} (h : Rd H a u) (n : a ≠ p) : Rd (upd H p o) a u := by
  rcases h with h | ⟨w, h⟩
  · exact .inl (by rw [upd_ne n]; exact h)
  · exact .inr ⟨w, by rw [upd_ne n]; exact h⟩
theorem rd_ne {p a : Addr} {u : HO} (h : Rd H a u) (n : H p = none) : a ≠ p := by
  rintro rfl
  rcases h with h | ⟨w, h⟩
  · rw [h] at n; cases n
  · rw [h] at n; cases n
/-- what a cell may be -/
def CellO (o : HO) : Prop := (∃ xs, o = .lst xs) ∨ (∃ kvs, o = .dK kvs) ∨ ∃ C dx fs, o = .ins C dx fs
theorem RepSt.there {S : Store} (r : RepSt Γ β S H) {a : Addr} (h : a ∈ β.c) : ∃ o, H a = some o ∧ CellO o := by
  obtain ⟨n, hn⟩ := List.getElem?_of_mem h
  have hl : n < S.length := by rw [r.len]; exact (List.getElem?_eq_some_iff.mp hn).1
  have q := r.at' n a S[n] hn (List.getElem?_eq_getElem hl)
  cases e : S[n] with
  | lst xs =>
    rw [e] at q
    obtain ⟨vs, h1, _⟩ := q
    exact ⟨_, h1, .inl ⟨_, rfl⟩⟩
  | dct xs =>
    rw [e] at q
    obtain ⟨vs, h1, _⟩ := q
    exact ⟨_, h1, .inr (.inl ⟨_, rfl⟩)⟩
  | ins c fs =>
    rw [e] at q
    obtain ⟨dx, vs, h1, _⟩ := q
    exact ⟨_, h1, .inr (.inr ⟨_, _, _, rfl⟩)⟩
theorem CellO.tup {o : HO} (h : CellO o) (xs : List V) : o ≠ .tup xs := by rcases h with ⟨_, rfl⟩ | ⟨_, rfl⟩ | ⟨_, _, _, rfl⟩ <;> exact fun z => nomatch z
theorem CellO.frz {o : HO} (h : CellO o) (w : Obj) (u : HO) : o ≠ .frz w u := by rcases h with ⟨_, rfl⟩ | ⟨_, rfl⟩ | ⟨_, _, _, rfl⟩ <;> exact fun z => nomatch z
theorem CellO.own {o : HO} (h : CellO o) (x : Addr) : o ≠ .own x := by rcases h with ⟨_, rfl⟩ | ⟨_, rfl⟩ | ⟨_, _, _, rfl⟩ <;> exact fun z => nomatch z
theorem CellO.tbl {o : HO} (h : CellO o) (ps : Array Value) : o ≠ .tbl ps := by rcases h with ⟨_, rfl⟩ | ⟨_, rfl⟩ | ⟨_, _, _, rfl⟩ <;> exact fun z => nomatch z
theorem CellO.code {o : HO} (h : CellO o) (c : Addr) (q : Str) : o ≠ LamX.CodeO c q := by
  unfold LamX.CodeO
  rcases h with ⟨_, rfl⟩ | ⟨_, rfl⟩ | ⟨_, _, _, rfl⟩ <;> exact fun z => nomatch z
/-- tables stay where an object that is none of them changes -/
theorem tabs_upd {p : Addr} {o : HO} {T : List (Addr × Str)} (h : ∀ u, H p = some u → (∀ ps, u ≠ .tbl ps) ∧ ∀ c q, u ≠ LamX.CodeO c q) (t : LamX.Tabs T H) : LamX.Tabs T (upd H p o) := fun x hx => by
  obtain ⟨ps, h1, h2, h3⟩ := t x hx
  have n1 : x.1 ≠ p := fun z => (h _ (by rw [← z]; exact h1)).1 ps rfl
  refine ⟨ps, by rw [upd_ne n1]; exact h1, h2, fun pos cv hc => ?_⟩
  obtain ⟨c, e1, e2⟩ := h3 pos cv hc
  have n2 : c ≠ p := fun z => (h _ (by rw [← z]; exact e2)).2 _ _ rfl
  exact ⟨c, e1, by rw [upd_ne n2]; exact e2⟩
theorem tabs_cell {p : Addr} {o u : HO} {T : List (Addr × Str)} (h : H p = some u) (c : CellO u) (t : LamX.Tabs T H) : LamX.Tabs T (upd H p o) := tabs_upd (fun v e => by rw [h] at e; cases e; exact ⟨c.tbl, c.code⟩) t
theorem cellO_lst {xs : List V} : CellO (.lst xs) := .inl ⟨_, rfl⟩
theorem cellO_dK {xs : List (Key × V)} : CellO (.dK xs) := .inr (.inl ⟨_, rfl⟩)
theorem tabs_new {p : Addr} {o : HO} {T : List (Addr × Str)} (h : H p = none) (t : LamX.Tabs T H) : LamX.Tabs T (upd H p o) := tabs_upd (fun u e => by rw [h] at e; cases e) t
theorem RepSt.new_ne {S : Store} (r : RepSt Γ β S H) {p : Addr} (h : H p = none) : p ∉ β.c := fun hm => by
  obtain ⟨o, e, _⟩ := r.there hm
  rw [h] at e; cases e
theorem RepSt.new_z {S : Store} (r : RepSt Γ β S H) {p : Addr} (h : H p = none) : p ∉ β.z := fun hm => by
  obtain ⟨⟨xs, e⟩, _⟩ := r.zt p hm
  rw [h] at e; cases e
theorem RepSt.new_out {S : Store} (r : RepSt Γ β S H) {p : Addr} (h : H p = none) : β.out p := ⟨r.new_ne h, r.new_z h⟩
/-- a new object that is no cell -/
theorem grow_new {S : Store} (r : RepSt Γ β S H) {p : Addr} {o : HO} (h : H p = none) : Grow β H β (upd H p o) :=
  ⟨⟨[], by simp⟩, rfl, fun a ha => upd_ne (fun e => r.new_z h (by rw [← e]; exact ha)), fun _ _ q => upd_rd q (rd_ne q h), fun _ _ _ n q => ⟨upd_rd q (rd_ne q h), n⟩, fun a _ _ q => by rw [upd_ne (ne_of_none q h)]; exact q, fun a _ _ q => by rw [upd_ne (ne_of_none q h)]; exact q, fun a _ q => by rw [upd_ne (ne_of_none q h)]; exact q, fun a _ q => by rw [upd_ne (ne_of_none q h)]; exact q⟩
theorem CellAt.mono (g : Grow β H β' H') {a : Addr} {c : C} (h : CellAt Γ β H a c) (e : H' a = H a) : CellAt Γ β' H' a c := by
  cases c with
  | lst xs => obtain ⟨vs, h1, h2⟩ := h; exact ⟨vs, e.trans h1, h2.mono g⟩
  | dct xs => obtain ⟨vs, h1, h2⟩ := h; exact ⟨vs, e.trans h1, h2.mono g⟩
  | ins c fs => obtain ⟨dx, vs, h1, h2, h3, h4⟩ := h; exact ⟨dx, vs, e.trans h1, g.ow _ _ h2, h3, h4.mono g⟩
theorem RepSt.keep {S : Store} (r : RepSt Γ β S H) (g : Grow β H β H') (k : ∀ a ∈ β.c, H' a = H a) (t : LamX.Tabs Γ.T H') : RepSt Γ β S H' :=
  ⟨r.len, r.nd, fun n a c h1 h2 => (r.at' n a c h1 h2).mono g (k a (List.mem_of_getElem? h1)), fun a ha => by rw [g.zk a ha]; exact r.zt a ha, t⟩
theorem RepSt.new {S : Store} (r : RepSt Γ β S H) {p : Addr} {o : HO} (h : H p = none) : RepSt Γ β S (upd H p o) :=
  r.keep (grow_new r h) (fun a ha => upd_ne (fun e => r.new_ne h (e ▸ ha))) (tabs_new h r.tb)
/-- a new cell -/
theorem grow_cell {S : Store} (r : RepSt Γ β S H) {p : Addr} {o : HO} (h : H p = none) : Grow β H (β.snoc p) (upd H p o) := by
  refine ⟨⟨[p], rfl⟩, rfl, fun a ha => upd_ne (fun e => r.new_z h (by rw [← e]; exact ha)), fun _ _ q => upd_rd q (rd_ne q h), fun a _ _ n q => ⟨upd_rd q (rd_ne q h), ?_, n.2⟩, fun a _ _ q => by rw [upd_ne (ne_of_none q h)]; exact q, fun a _ _ q => by rw [upd_ne (ne_of_none q h)]; exact q, fun a _ q => by rw [upd_ne (ne_of_none q h)]; exact q, fun a _ q => by rw [upd_ne (ne_of_none q h)]; exact q⟩
  show a ∉ β.c ++ [p]
  simp only [List.mem_append, List.mem_singleton, not_or]
  exact ⟨n.1, rd_ne q h⟩
theorem RepSt.cell {S : Store} (r : RepSt Γ β S H) {p : Addr} {o : HO} {c : C} (h : H p = none) (hc : CellAt Γ (β.snoc p) (upd H p o) p c) : RepSt Γ (β.snoc p) (S ++ [c]) (upd H p o) := by
  refine ⟨by simp [r.len, Bt.snoc], ?_, fun n a d h1 h2 => ?_, fun a ha => ?_, tabs_new h r.tb⟩
  · show (β.c ++ [p]).Nodup
    rw [List.nodup_append]
    refine ⟨r.nd, by simp, fun a ha b hb => ?_⟩
    have : b = p := by simpa using hb
    subst this
    exact fun e => r.new_ne h (e ▸ ha)
  · have h1 : (β.c ++ [p])[n]? = some a := h1
    by_cases hn : n < β.c.length
    · rw [List.getElem?_append_left hn] at h1
      rw [List.getElem?_append_left (by rw [r.len]; exact hn)] at h2
      exact (r.at' n a d h1 h2).mono (grow_cell r h) (upd_ne (fun e => r.new_ne h (e ▸ List.mem_of_getElem? h1)))
    · have hn' : n = β.c.length := by
        have := (List.getElem?_eq_some_iff.mp h1).1
        simp at this; omega
      subst hn'
      have e1 : a = p := by simpa using h1.symm
      have e2 : d = c := by rw [← r.len] at h2; simpa using h2.symm
      subst e1 e2
      exact hc
  · have hz : a ∈ β.z := ha
    obtain ⟨⟨xs, e⟩, n⟩ := r.zt a hz
    have hne : a ≠ p := fun z => r.new_z h (by rw [← z]; exact hz)
    refine ⟨⟨xs, by rw [upd_ne hne]; exact e⟩, ?_⟩
    show a ∉ β.c ++ [p]
    simp only [List.mem_append, List.mem_singleton, not_or]
    exact ⟨n, hne⟩
/-- a cell is written -/
theorem grow_write {S : Store} (r : RepSt Γ β S H) {a : Addr} {o : HO} (ha : a ∈ β.c) : Grow β H β (upd H a o) := by
  obtain ⟨u, e, n1⟩ := r.there ha
  have ne : ∀ {b : Addr} {v : HO}, H b = some v → u ≠ v → b ≠ a := fun q n z => by
    rw [z, e] at q
    exact n (Option.some.inj q)
  refine ⟨⟨[], by simp⟩, rfl, fun b hb => upd_ne (fun z => (r.zt b hb).2 (by rw [z]; exact ha)), fun b xs q => upd_rd q ?_, fun b _ _ n q => ⟨upd_rd q (fun z => n.1 (by rw [z]; exact ha)), n⟩, fun b _ n q => by rw [upd_ne (show b ≠ a from fun z => n.1 (by rw [z]; exact ha))]; exact q, fun b w v q => by rw [upd_ne (ne q (n1.frz _ _))]; exact q,
    fun b x q => by rw [upd_ne (ne q (n1.own _))]; exact q, fun b x q => by rw [upd_ne (ne q (n1.code _ _))]; exact q⟩
  rintro rfl
  rcases q with q | ⟨w, q⟩
  · rw [q] at e; exact n1.tup _ (Option.some.inj e).symm
  · rw [q] at e; exact n1.frz _ _ (Option.some.inj e).symm
theorem RepSt.write {S : Store} (r : RepSt Γ β S H) {n : Nat} {a : Addr} {o : HO} {c : C} (ha : β.c[n]? = some a) (hc : CellAt Γ β (upd H a o) a c) : RepSt Γ β (S.set n c) (upd H a o) := by
  have hm := List.mem_of_getElem? ha
  refine ⟨by simp [r.len], r.nd, fun m b d h1 h2 => ?_, fun b hb => by rw [(grow_write (o := o) r hm).zk b hb]; exact r.zt b hb, let ⟨_, e, c⟩ := r.there hm; tabs_cell e c r.tb⟩
  by_cases hmn : n = m
  · subst hmn
    rw [ha] at h1
    have e1 := Option.some.inj h1
    subst e1
    have hl : n < S.length := by rw [r.len]; exact (List.getElem?_eq_some_iff.mp ha).1
    rw [List.getElem?_set_self hl] at h2
    have e2 := Option.some.inj h2
    subst e2
    exact hc
  · rw [List.getElem?_set_ne hmn] at h2
    refine (r.at' m b d h1 h2).mono (grow_write r hm) (upd_ne fun e => hmn ?_)
    subst e
    obtain ⟨l1, e1⟩ := List.getElem?_eq_some_iff.mp ha
    obtain ⟨l2, e2⟩ := List.getElem?_eq_some_iff.mp h1
    exact (List.getElem_inj r.nd).mp (e1.trans e2.symm)
end
end Rk

namespace Rk
open PySem PySem.Spec PyProof.Rows L2

abbrev EvE := Env → Store → R D
abbrev EvT := Env → Store → R Bool
abbrev EvA := Env → Store → R (List D)
/-- what is wanted behind: d, in a later heap that holds the store S -/
def K1 (Γ : Gm) (β : Bt) (H : Hp) (d : D) (S : Store) (Q : VK) : Prop := ∀ β' v H', Grow β H β' H' → RepSt Γ β' S H' → RV Γ β' H' v d → Q v H'
def tF (Γ : Gm) (f : EvE) : TE := fun σ H Q => ∃ β ds S d S', Rep Γ β ds S σ H ∧ f ds S = .ok d S' ∧ K1 Γ β H d S' Q
def tFT (Γ : Gm) (f : EvT) : TT := fun σ H Q => ∃ β ds S b S', Rep Γ β ds S σ H ∧ f ds S = .ok b S' ∧ ∀ β' H', Grow β H β' H' → RepSt Γ β' S' H' → Q b H'
def tFA (Γ : Gm) (f : EvA) : TA := fun σ H Q => ∃ β ds S xs S', Rep Γ β ds S σ H ∧ f ds S = .ok xs S' ∧ ∀ β' vs H', Grow β H β' H' → RepSt Γ β' S' H' → RVs Γ β' H' vs xs → Q vs H'

theorem pe_imp {X : Cx} {e : Expr} {t t' : TE} (h : PE X e t) (w : ∀ σ H Q, t' σ H Q → t σ H Q) : PE X e t' := ⟨fun pins s σ H Q I q => h.run pins s σ H Q I (w σ H Q q)⟩
theorem pt_imp {X : Cx} {e : Expr} {t t' : TT} (h : PT X e t) (w : ∀ σ H Q, t' σ H Q → t σ H Q) : PT X e t' := ⟨fun pins s σ H Q I q => h.run pins s σ H Q I (w σ H Q q)⟩
theorem pw_imp {X : Cx} {e : Expr} {t t' : TT} (h : PW X e t) (w : ∀ σ H Q, t' σ H Q → t σ H Q) : PW X e t' := ⟨fun wh pins s σ H Q I q => h.run wh pins s σ H Q I (w σ H Q q)⟩
theorem pa_imp {X : Cx} {es : List Expr} {t t' : TA} (h : PA X es t) (w : ∀ σ H Q, t' σ H Q → t σ H Q) : PA X es t' := ⟨fun pos pins s σ H Q I q => h.run pos pins s σ H Q I (w σ H Q q)⟩
theorem K1.self {Γ : Gm} {β : Bt} {H : Hp} {d : D} {S : Store} {Q : VK} {v : V} (k : K1 Γ β H d S Q) (r : RepSt Γ β S H) (rv : RV Γ β H v d) : Q v H := k β v H (.refl β H) r rv
theorem K1.from {Γ : Gm} {β β1 : Bt} {H H1 : Hp} {d : D} {S : Store} {Q : VK} (k : K1 Γ β H d S Q) (g : Grow β H β1 H1) : K1 Γ β1 H1 d S Q := fun β' v H' g' r rv => k β' v H' (g.trans g') r rv
/-- a new object's value -/
theorem K1.new {Γ : Gm} {β : Bt} {H : Hp} {d : D} {S : Store} {Q : VK} {p : Addr} {o : HO} (k : K1 Γ β H d S Q) (r : RepSt Γ β S H) (hp : H p = none) (rv : RV Γ β (upd H p o) (.ref p) d) : Q (.ref p) (upd H p o) :=
  k β _ _ (grow_new r hp) (r.new hp) rv

/-! ### names and constants -/
def fVar (i : Nat) : EvE := fun ds S => match ds[i]? with
  | some (some d) => .ok d S
  | _ => .bad
def fC (d : D) : EvE := fun _ S => .ok d S
section
variable {Γ : Gm} {X : Cx} {pos p2 : Pos} {x : Str}
theorem pf_var {i : Nat} (h : PE X (.Name x pos) (tVar i)) : PE X (.Name x pos) (tF Γ (fVar i)) := by
  refine pe_imp h fun σ H Q ⟨β, ds, S, d, S', rep, e, k⟩ => ?_
  unfold fVar at e
  split at e
  · rename_i d' he
    cases e
    obtain ⟨v, h1, h2⟩ := rep.env.val i d he
    exact ⟨v, h1, k.self rep.st h2⟩
  · cases e
theorem pf_c {e : Expr} {v : V} {d : D} (h : PE X e (tC v)) (r : ∀ β H, RV Γ β H v d) : PE X e (tF Γ (fC d)) := by
  refine pe_imp h fun σ H Q ⟨β, ds, S, d', S', rep, e, k⟩ => ?_
  cases e
  exact k.self rep.st (r β H)
theorem pf_int {i : Int} {j} : PE X (.Constant (.int i) j pos) (tF Γ (fC (.int i))) := pf_c pe_int fun _ _ => .int i
theorem pf_bl {b : Bool} {j} : PE X (.Constant (.bool b) j pos) (tF Γ (fC (.bl b))) := pf_c pe_bl fun _ _ => .bl b
theorem pf_non {j} : PE X (.Constant .none j pos) (tF Γ (fC .non)) := pf_c pe_non fun _ _ => .non
theorem pf_str {y : Str} {j} : PE X (.Constant (.str y) j pos) (tF Γ (fC (.str y))) := pf_c pe_str fun _ _ => .str y

/-! ### two-place operations -/
def fBin (op : D → D → Store → R D) (a b : EvE) : EvE := fun ds S => (a ds S).bind fun x S1 => (b ds S1).bind fun y S2 => op x y S2
def rF2 (Γ : Gm) (op : D → D → Store → R D) : R2 := fun v u H Q => ∃ β S x y d S', RepSt Γ β S H ∧ RV Γ β H v x ∧ RV Γ β H u y ∧ op x y S = .ok d S' ∧ K1 Γ β H d S' Q
theorem tOp_of {op : D → D → Store → R D} {fa fb : EvE} {σ : L2.St} {H : Hp} {Q : VK} (h : tF Γ (fBin op fa fb) σ H Q) : tOp (rF2 Γ op) (tF Γ fa) (tF Γ fb) σ H Q := by
  obtain ⟨β, ds, S, d, S', rep, e, k⟩ := h
  obtain ⟨x, S1, e1, e⟩ := R.bind_inv e
  obtain ⟨y, S2, e2, e⟩ := R.bind_inv e
  refine ⟨β, ds, S, x, S1, rep, e1, fun β1 v H1 g1 r1 rv => ?_⟩
  refine ⟨β1, ds, S1, y, S2, rep.go g1 r1, e2, fun β2 u H2 g2 r2 ru => ?_⟩
  exact ⟨β2, S2, x, y, d, S', r2, rv.mono g2, ru, e, k.from (g1.trans g2)⟩
variable {a b c : Expr} {fa fb fc : EvE}
theorem pf_bin {o : Operator} {op : D → D → Store → R D} (ho : OpR X (binaryOp o) (rF2 Γ op)) (ha : PE X a (tF Γ fa)) (hb : PE X b (tF Γ fb)) : PE X (.BinOp a o b pos) (tF Γ (fBin op fa fb)) :=
  pe_imp (pe_op ho ha hb) fun _ _ _ h => tOp_of h
theorem pf_cmp {o : CmpOp} {op : D → D → Store → R D} (ho : OpR X (compareOp o) (rF2 Γ op)) (ha : PE X a (tF Γ fa)) (hb : PE X b (tF Γ fb)) (hm : behindInMarks o b = false) : PE X (.Compare a [o] [b] pos) (tF Γ (fBin op fa fb)) :=
  pe_imp (pe_cmpR ho ha hb hm) fun _ _ _ h => tOp_of h
/-- a value as a test: it is a bool -/
def fB (f : EvE) : EvT := fun ds S => (f ds S).bind fun d S1 => match d with
  | .bl b => .ok b S1
  | _ => .bad
theorem fB_inv {f : EvE} {ds : Env} {S S' : Store} {b : Bool} (h : fB f ds S = .ok b S') : f ds S = .ok (.bl b) S' := by
  obtain ⟨d, S1, e1, e⟩ := R.bind_inv h
  cases d <;> simp at e
  obtain ⟨rfl, rfl⟩ := e
  exact e1
theorem tB_of {f : EvE} {t : TE} {σ : L2.St} {H : Hp} {Q : Bool → Hp → Prop} (h : tFT Γ (fB f) σ H Q) (ht : ∀ Q', tF Γ f σ H Q' → t σ H Q') : t σ H fun x H' => ∃ k, x = .bl k ∧ Q k H' := by
  obtain ⟨β, ds, S, b, S', rep, e, k⟩ := h
  refine ht _ ⟨β, ds, S, .bl b, S', rep, fB_inv e, fun β' v H' g r rv => ?_⟩
  cases rv
  exact ⟨b, rfl, k β' H' g r⟩
theorem pft_cmp {o : CmpOp} {op : D → D → Store → R D} (ho : OpR X (compareOp o) (rF2 Γ op)) (ha : PE X a (tF Γ fa)) (hb : PE X b (tF Γ fb)) (hm : behindInMarks o b = false) : PT X (.Compare a [o] [b] pos) (tFT Γ (fB (fBin op fa fb))) :=
  pt_imp (pt_cmpR ho ha hb hm) fun _ _ _ h => tB_of h fun _ => tOp_of
theorem pft_val {e : Expr} {f : EvE} (h : PE X e (tF Γ f)) (he : ∀ whole, isTrue e X.env whole = (do let v ← whole; standAt e.pos; holding [v] (truthy v)) := by intro _; rfl) : PT X e (tFT Γ (fB f)) :=
  pt_imp (pt_val h he) fun _ _ _ h => tB_of h fun _ q => q
/-- a < b < c -/
def fChain (op op' : D → D → Store → R D) (a b c : EvE) : EvE := fun ds S => (a ds S).bind fun x S1 => (b ds S1).bind fun y S2 => (op x y S2).bind fun z S3 => match z with
  | .bl true => (c ds S3).bind fun w S4 => op' y w S4
  | .bl false => .ok (.bl false) S3
  | _ => .bad
theorem tChain_of {op op' : D → D → Store → R D} {σ : L2.St} {H : Hp} {Q : VK} (h : tF Γ (fChain op op' fa fb fc) σ H Q) : tChain (rF2 Γ op) (rF2 Γ op') (tF Γ fa) (tF Γ fb) (tF Γ fc) σ H Q := by
  obtain ⟨β, ds, S, d, S', rep, e, k⟩ := h
  obtain ⟨x, S1, e1, e⟩ := R.bind_inv e
  obtain ⟨y, S2, e2, e⟩ := R.bind_inv e
  obtain ⟨z, S3, e3, e⟩ := R.bind_inv e
  refine ⟨β, ds, S, x, S1, rep, e1, fun β1 v H1 g1 r1 rv => ?_⟩
  refine ⟨β1, ds, S1, y, S2, rep.go g1 r1, e2, fun β2 u H2 g2 r2 ru => ?_⟩
  refine ⟨β2, S2, x, y, z, S3, r2, rv.mono g2, ru, e3, fun β3 w H3 g3 r3 rw' => ?_⟩
  obtain ⟨kb, rfl⟩ : ∃ kb, z = .bl kb := by cases z <;> first | exact ⟨_, rfl⟩ | cases e
  cases rw'
  cases kb with
  | true =>
    obtain ⟨w', S4, e4, e⟩ := R.bind_inv e
    refine ⟨true, rfl, ?_⟩
    rw [if_pos rfl]
    refine ⟨β3, ds, S3, w', S4, ⟨r3, ((rep.env.mono g1).mono g2).mono g3⟩, e4, fun β4 w'' H4 g4 r4 rw4 => ?_⟩
    exact ⟨β4, S4, y, w', d, S', r4, (ru.mono g3).mono g4, rw4, e, k.from (((g1.trans g2).trans g3).trans g4)⟩
  | false =>
    cases e
    refine ⟨false, rfl, ?_⟩
    rw [if_neg Bool.false_ne_true]
    exact k _ _ _ ((g1.trans g2).trans g3) r3 (.bl false)
theorem pf_chain {o o' : CmpOp} {op op' : D → D → Store → R D} (ho : OpR X (compareOp o) (rF2 Γ op)) (ho' : OpR X (compareOp o') (rF2 Γ op')) (ha : PE X a (tF Γ fa)) (hb : PE X b (tF Γ fb)) (hc : PE X c (tF Γ fc))
    (hm : lastMarks [o, o'] [b, c] = false := by with_unfolding_all rfl) : PE X (.Compare a [o, o'] [b, c] pos) (tF Γ (fChain op op' fa fb fc)) := pe_imp (pe_chain ho ho' ha hb hc hm) fun _ _ _ h => tChain_of h
theorem pft_chain {o o' : CmpOp} {op op' : D → D → Store → R D} (ho : OpR X (compareOp o) (rF2 Γ op)) (ho' : OpR X (compareOp o') (rF2 Γ op')) (ha : PE X a (tF Γ fa)) (hb : PE X b (tF Γ fb)) (hc : PE X c (tF Γ fc))
    (hm : lastMarks [o, o'] [b, c] = false := by with_unfolding_all rfl) : PT X (.Compare a [o, o'] [b, c] pos) (tFT Γ (fB (fChain op op' fa fb fc))) := pt_imp (pt_chain ho ho' ha hb hc hm) fun _ _ _ h => tB_of h fun _ => tChain_of

/-! ### truth of any value -/
def truD (S : Store) : D → Option Bool
  | .non => some false
  | .bl b => some b
  | .int i => some (i != 0)
  | .str x => if x.length ≤ sizeLine then some ((x.length : Int) != 0) else none
  | .tup xs => some (!xs.isEmpty)
  | .lst xs => some (!xs.isEmpty)
  | .rol xs => some (!xs.isEmpty)
  | .ref n => match S[n]? with
    | some (.lst xs) => some (!xs.isEmpty)
    | some (.dct xs) => some (!xs.isEmpty)
    | _ => none
  | _ => none
def fTru (f : EvE) : EvT := fun ds S => (f ds S).bind fun d S1 => match truD S1 d with
  | some b => .ok b S1
  | none => .bad
theorem RVs.isEmpty {β : Bt} {H : Hp} {vs : List V} {ds : List D} (h : RVs Γ β H vs ds) : vs.isEmpty = ds.isEmpty := by cases h <;> rfl
theorem RKs.isEmpty {β : Bt} {H : Hp} {vs : List (Key × V)} {ds : List (Key × D)} (h : RKs Γ β H vs ds) : vs.isEmpty = ds.isEmpty := by cases h <;> rfl
theorem KL.sq {K : PySem.W.Frag} {H : Hp} {a : Addr} {xs : List V} (h : KL K a xs) : SqL K H a xs := .inr h
theorem RepSt.cellOf {β : Bt} {S : Store} {H : Hp} (r : RepSt Γ β S H) {n : Nat} {a : Addr} {c : C} (h : β.c[n]? = some a) (e : S[n]? = some c) : CellAt Γ β H a c := r.at' n a c h e
theorem tru_of {β : Bt} {S : Store} {H : Hp} {v : V} {d : D} {b : Bool} (r : RepSt Γ β S H) (rv : RV Γ β H v d) (e : truD S d = some b) : TruV Γ.K v H b := by
  cases rv with
  | non => cases e; rfl
  | bl b' => cases e; rfl
  | int i => cases e; rfl
  | str x =>
    simp only [truD] at e
    split at e
    · rename_i hl
      cases e
      exact ⟨hl, rfl⟩
    · cases e
  | tup h q => cases e; exact .inr (.inl ⟨_, h, by rw [q.isEmpty]⟩)
  | lst n h q => cases e; exact .inl ⟨_, SqL.of h, by rw [q.isEmpty]⟩
  | rol n h q => cases e; exact .inl ⟨_, .inl h, by rw [q.isEmpty]⟩
  | rolK h q => cases e; exact .inl ⟨_, h.sq, by rw [q.isEmpty]⟩
  | dct n h q => cases e
  | kd h q => cases e
  | ref h =>
    simp only [truD] at e
    split at e
    · rename_i xs hs
      cases e
      obtain ⟨vs, h1, q⟩ := r.cellOf h hs
      exact .inl ⟨_, SqL.of h1, by rw [q.isEmpty]⟩
    · rename_i xs hs
      cases e
      obtain ⟨vs, h1, q⟩ := r.cellOf h hs
      exact .inr (.inr ⟨_, h1, by rw [q.isEmpty]⟩)
    · cases e
  | fn g => cases e
  | ty n => cases e
theorem tTru_of {f : EvE} {σ : L2.St} {H : Hp} {Q : Bool → Hp → Prop} (h : tFT Γ (fTru f) σ H Q) : tF Γ f σ H fun x H1 => ∃ k, TruV Γ.K x H1 k ∧ Q k H1 := by
  obtain ⟨β, ds, S, b, S', rep, e, k⟩ := h
  obtain ⟨d, S1, e1, e⟩ := R.bind_inv e
  split at e
  · rename_i b' hb
    cases e
    exact ⟨β, ds, S, d, _, rep, e1, fun β' v H' g r rv => ⟨b, tru_of r rv hb, k β' H' g r⟩⟩
  · cases e
/-- any value as a test -/
theorem pft_tru {e : Expr} {f : EvE} (hK : X.K = Γ.K) (h : PE X e (tF Γ f)) (he : ∀ whole, isTrue e X.env whole = (do let v ← whole; standAt e.pos; holding [v] (truthy v)) := by intro _; rfl) : PT X e (tFT Γ (fTru f)) :=
  pt_imp (pt_truth h he) fun σ H Q h => by
    rw [hK]
    exact tTru_of h

/-! ### and, or, not, if -/
def fTAnd (a b : EvT) : EvT := fun ds S => (a ds S).bind fun x S1 => if x then b ds S1 else .ok false S1
def fTOr (a b : EvT) : EvT := fun ds S => (a ds S).bind fun x S1 => if x then .ok true S1 else b ds S1
def fTNot (a : EvT) : EvT := fun ds S => (a ds S).bind fun x S1 => .ok (!x) S1
def fIf (t : EvT) (a b : EvE) : EvE := fun ds S => (t ds S).bind fun x S1 => if x then a ds S1 else b ds S1
def fAnd (a b : EvE) : EvE := fun ds S => (fB a ds S).bind fun x S1 => if x then b ds S1 else .ok (.bl false) S1
def fOr (a b : EvE) : EvE := fun ds S => (fB a ds S).bind fun x S1 => if x then .ok (.bl true) S1 else b ds S1
def fNot (a : EvE) : EvE := fun ds S => (fB a ds S).bind fun x S1 => .ok (.bl (!x)) S1
variable {ta tb : EvT} {rest : List Expr}
theorem pfw_and1 (ha : PT X a (tFT Γ ta)) : PW X (.BoolOp .And [a] pos) (tFT Γ ta) := pw_and1 ha
theorem pfw_or1 (ha : PT X a (tFT Γ ta)) : PW X (.BoolOp .Or [a] pos) (tFT Γ ta) := pw_or1 ha
theorem pfw_and (ha : PT X a (tFT Γ ta)) (hb : PW X (.BoolOp .And (b :: rest) pos) (tFT Γ tb)) : PW X (.BoolOp .And (a :: b :: rest) pos) (tFT Γ (fTAnd ta tb)) := by
  refine pw_imp (pw_and ha hb) fun σ H Q ⟨β, ds, S, d, S', rep, e, k⟩ => ?_
  obtain ⟨x, S1, e1, e⟩ := R.bind_inv e
  refine ⟨β, ds, S, x, S1, rep, e1, fun β1 H1 g r => ?_⟩
  cases x with
  | true =>
    rw [if_pos rfl] at e ⊢
    exact ⟨β1, ds, S1, d, S', rep.go g r, e, fun β2 H2 g2 r2 => k β2 H2 (g.trans g2) r2⟩
  | false =>
    rw [if_neg Bool.false_ne_true] at e ⊢
    cases e
    exact k β1 H1 g r
theorem pfw_or (ha : PT X a (tFT Γ ta)) (hb : PW X (.BoolOp .Or (b :: rest) pos) (tFT Γ tb)) : PW X (.BoolOp .Or (a :: b :: rest) pos) (tFT Γ (fTOr ta tb)) := by
  refine pw_imp (pw_or ha hb) fun σ H Q ⟨β, ds, S, d, S', rep, e, k⟩ => ?_
  obtain ⟨x, S1, e1, e⟩ := R.bind_inv e
  refine ⟨β, ds, S, x, S1, rep, e1, fun β1 H1 g r => ?_⟩
  cases x with
  | false =>
    rw [if_neg Bool.false_ne_true] at e ⊢
    exact ⟨β1, ds, S1, d, S', rep.go g r, e, fun β2 H2 g2 r2 => k β2 H2 (g.trans g2) r2⟩
  | true =>
    rw [if_pos rfl] at e ⊢
    cases e
    exact k β1 H1 g r
theorem pft_not (ha : PT X a (tFT Γ ta)) : PT X (.UnaryOp .Not a pos) (tFT Γ (fTNot ta)) := by
  refine pt_imp (pt_not ha) fun σ H Q ⟨β, ds, S, d, S', rep, e, k⟩ => ?_
  obtain ⟨x, S1, e1, e⟩ := R.bind_inv e
  cases e
  exact ⟨β, ds, S, x, _, rep, e1, fun β1 H1 g r => k β1 H1 g r⟩
theorem pf_if {cc : Expr} {tc : EvT} (hc : PT X cc (tFT Γ tc)) (ha : PE X a (tF Γ fa)) (hb : PE X b (tF Γ fb)) : PE X (.IfExp cc a b pos) (tF Γ (fIf tc fa fb)) := by
  refine pe_imp (pe_ifExp hc ha hb) fun σ H Q ⟨β, ds, S, d, S', rep, e, k⟩ => ?_
  obtain ⟨x, S1, e1, e⟩ := R.bind_inv e
  refine ⟨β, ds, S, x, S1, rep, e1, fun β1 H1 g r => ?_⟩
  cases x with
  | true =>
    rw [if_pos rfl] at e ⊢
    exact ⟨β1, ds, S1, d, S', rep.go g r, e, k.from g⟩
  | false =>
    rw [if_neg Bool.false_ne_true] at e ⊢
    exact ⟨β1, ds, S1, d, S', rep.go g r, e, k.from g⟩
theorem pf_one {op} (h : PE X a (tF Γ fa)) : PE X (.BoolOp op [a] pos) (tF Γ fa) := pe_one h
theorem pf_and (ha : PE X a (tF Γ fa)) (hb : PE X (.BoolOp .And (b :: rest) pos) (tF Γ fb)) : PE X (.BoolOp .And (a :: b :: rest) pos) (tF Γ (fAnd fa fb)) := by
  refine pe_imp (pe_and ha hb) fun σ H Q ⟨β, ds, S, d, S', rep, e, k⟩ => ?_
  obtain ⟨x, S1, e1, e⟩ := R.bind_inv e
  refine ⟨β, ds, S, .bl x, S1, rep, fB_inv e1, fun β1 v H1 g r rv => ?_⟩
  cases rv
  refine ⟨x, rfl, ?_⟩
  cases x with
  | true =>
    rw [if_pos rfl] at e ⊢
    exact ⟨β1, ds, S1, d, S', rep.go g r, e, k.from g⟩
  | false =>
    rw [if_neg Bool.false_ne_true] at e ⊢
    cases e
    exact k _ _ _ g r (.bl false)
theorem pf_or (ha : PE X a (tF Γ fa)) (hb : PE X (.BoolOp .Or (b :: rest) pos) (tF Γ fb)) : PE X (.BoolOp .Or (a :: b :: rest) pos) (tF Γ (fOr fa fb)) := by
  refine pe_imp (pe_or ha hb) fun σ H Q ⟨β, ds, S, d, S', rep, e, k⟩ => ?_
  obtain ⟨x, S1, e1, e⟩ := R.bind_inv e
  refine ⟨β, ds, S, .bl x, S1, rep, fB_inv e1, fun β1 v H1 g r rv => ?_⟩
  cases rv
  refine ⟨x, rfl, ?_⟩
  cases x with
  | false =>
    rw [if_neg Bool.false_ne_true] at e ⊢
    exact ⟨β1, ds, S1, d, S', rep.go g r, e, k.from g⟩
  | true =>
    rw [if_pos rfl] at e ⊢
    cases e
    exact k _ _ _ g r (.bl true)
theorem pf_not (ha : PE X a (tF Γ fa)) : PE X (.UnaryOp .Not a pos) (tF Γ (fNot fa)) := by
  refine pe_imp (pe_not ha) fun σ H Q ⟨β, ds, S, d, S', rep, e, k⟩ => ?_
  obtain ⟨x, S1, e1, e⟩ := R.bind_inv e
  refine ⟨β, ds, S, .bl x, S1, rep, fB_inv e1, fun β1 v H1 g r rv => ?_⟩
  cases rv
  cases e
  exact ⟨x, rfl, k _ _ _ g r (.bl (!x))⟩
def fUn (op : D → Store → R D) (a : EvE) : EvE := fun ds S => (a ds S).bind op
def rF1 (Γ : Gm) (op : D → Store → R D) : V → Hp → VK → Prop := fun v H Q => ∃ β S x d S', RepSt Γ β S H ∧ RV Γ β H v x ∧ op x S = .ok d S' ∧ K1 Γ β H d S' Q
theorem pf_un {o : UnaryOp} {op : D → Store → R D} (ho : UnR X (unaryOp o) (rF1 Γ op)) (ha : PE X a (tF Γ fa)) : PE X (.UnaryOp o a pos) (tF Γ (fUn op fa)) := by
  refine pe_imp (pe_un ho ha) fun σ H Q ⟨β, ds, S, d, S', rep, e, k⟩ => ?_
  obtain ⟨x, S1, e1, e⟩ := R.bind_inv e
  exact ⟨β, ds, S, x, S1, rep, e1, fun β1 v H1 g r rv => ⟨β1, S1, x, d, S', r, rv, e, k.from g⟩⟩

/-! ### arguments, displays -/
def fNil : EvA := fun _ S => .ok [] S
def fCons (a : EvE) (r : EvA) : EvA := fun ds S => (a ds S).bind fun x S1 => (r ds S1).bind fun xs S2 => .ok (x :: xs) S2
theorem pfa_nil : PA X [] (tFA Γ fNil) := pa_imp pa_nil fun σ H Q ⟨β, ds, S, d, S', rep, e, k⟩ => by
  cases e
  exact k β [] H (.refl β H) rep.st .nil
theorem tCons_of {f : EvE} {g : EvA} {σ : L2.St} {H : Hp} {Q : List V → Hp → Prop} (h : tFA Γ (fCons f g) σ H Q) : tCons (tF Γ f) (tFA Γ g) σ H Q := by
  obtain ⟨β, ds, S, d, S', rep, e, k⟩ := h
  obtain ⟨x, S1, e1, e⟩ := R.bind_inv e
  obtain ⟨xs, S2, e2, e⟩ := R.bind_inv e
  cases e
  refine ⟨β, ds, S, x, S1, rep, e1, fun β1 v H1 g1 r1 rv => ?_⟩
  exact ⟨β1, ds, S1, xs, _, rep.go g1 r1, e2, fun β2 vs H2 g2 r2 rvs => k β2 _ H2 (g1.trans g2) r2 (.cons (rv.mono g2) rvs)⟩
theorem pfa_cons {e : Expr} {es : List Expr} {f : EvE} {g : EvA} (ha : PE X e (tF Γ f)) (hr : PA X es (tFA Γ g)) (hs : starEach (e :: es) X.env = (false, eval e X.env) :: starEach es X.env := by rfl) : PA X (e :: es) (tFA Γ (fCons f g)) :=
  pa_imp (pa_cons ha hr hs) fun _ _ _ h => tCons_of h
def fTup (g : EvA) : EvE := fun ds S => (g ds S).bind fun xs S1 => if xs.length ≤ sizeLine then .ok (.tup xs) S1 else .bad
def fLst (g : EvA) : EvE := fun ds S => (g ds S).bind fun xs S1 => if xs.length ≤ sizeLine then .ok (.lst xs) S1 else .bad
/-- a list that may change -/
def fNew (g : EvA) : EvE := fun ds S => (g ds S).bind fun xs S1 => if xs.length ≤ sizeLine then .ok (.ref S1.length) (S1 ++ [.lst xs]) else .bad
theorem K1.tup {β : Bt} {H : Hp} {S : Store} {Q : VK} {p : Addr} {vs : List V} {xs : List D} (k : K1 Γ β H (.tup xs) S Q) (r : RepSt Γ β S H) (hp : H p = none) (rv : RVs Γ β H vs xs) : Q (.ref p) (upd H p (.tup vs)) :=
  k.new r hp (.tup (SqT.of upd_same) (rv.mono (grow_new r hp)))
theorem K1.lst {β : Bt} {H : Hp} {S : Store} {Q : VK} {p : Addr} {vs : List V} {xs : List D} (k : K1 Γ β H (.lst xs) S Q) (r : RepSt Γ β S H) (hp : H p = none) (rv : RVs Γ β H vs xs) : Q (.ref p) (upd H p (.lst vs)) :=
  k.new r hp (.lst (r.new_out hp) upd_same (rv.mono (grow_new r hp)))
theorem K1.cell {β : Bt} {H : Hp} {S : Store} {Q : VK} {p : Addr} {vs : List V} {xs : List D} (k : K1 Γ β H (.ref S.length) (S ++ [.lst xs]) Q) (r : RepSt Γ β S H) (hp : H p = none) (rv : RVs Γ β H vs xs) : Q (.ref p) (upd H p (.lst vs)) := by
  refine k (β.snoc p) _ _ (grow_cell r hp) (r.cell hp ⟨vs, upd_same, rv.mono (grow_cell r hp)⟩) (.ref ?_)
  show (β.c ++ [p])[S.length]? = some p
  rw [r.len]
  simp
theorem K1.cellD {β : Bt} {H : Hp} {S : Store} {Q : VK} {p : Addr} {vs : List (Key × V)} {xs : List (Key × D)} (k : K1 Γ β H (.ref S.length) (S ++ [.dct xs]) Q) (r : RepSt Γ β S H) (hp : H p = none) (rv : RKs Γ β H vs xs) : Q (.ref p) (upd H p (.dK vs)) := by
  refine k (β.snoc p) _ _ (grow_cell r hp) (r.cell hp ⟨vs, upd_same, rv.mono (grow_cell r hp)⟩) (.ref ?_)
  show (β.c ++ [p])[S.length]? = some p
  rw [r.len]
  simp
theorem K1.dct {β : Bt} {H : Hp} {S : Store} {Q : VK} {p : Addr} {vs : List (Key × V)} {xs : List (Key × D)} (k : K1 Γ β H (.dct xs) S Q) (r : RepSt Γ β S H) (hp : H p = none) (rv : RKs Γ β H vs xs) : Q (.ref p) (upd H p (.dK vs)) :=
  k.new r hp (.dct (r.new_out hp) (.inl upd_same) (rv.mono (grow_new r hp)))
theorem pf_tup {es : List Expr} {g : EvA} {x1} (h : PA X es (tFA Γ g)) : PE X (.Tuple es x1 pos) (tF Γ (fTup g)) := by
  refine pe_imp (pe_tup h) fun σ H Q ⟨β, ds, S, d, S', rep, e, k⟩ => ?_
  obtain ⟨xs, S1, e1, e⟩ := R.bind_inv e
  split at e
  · rename_i hl
    cases e
    refine ⟨β, ds, S, xs, _, rep, e1, fun β1 vs H1 g1 r1 rv => ⟨by rw [rv.length]; exact hl, fun p hp => (k.from g1).tup r1 hp rv⟩⟩
  · cases e
theorem pf_lst {es : List Expr} {g : EvA} (h : PA X es (tFA Γ g)) : PE X (.List es pos) (tF Γ (fLst g)) := by
  refine pe_imp (pe_lst h) fun σ H Q ⟨β, ds, S, d, S', rep, e, k⟩ => ?_
  obtain ⟨xs, S1, e1, e⟩ := R.bind_inv e
  split at e
  · rename_i hl
    cases e
    refine ⟨β, ds, S, xs, _, rep, e1, fun β1 vs H1 g1 r1 rv => ⟨by rw [rv.length]; exact hl, fun p hp => (k.from g1).lst r1 hp rv⟩⟩
  · cases e
theorem pf_new {es : List Expr} {g : EvA} (h : PA X es (tFA Γ g)) : PE X (.List es pos) (tF Γ (fNew g)) := by
  refine pe_imp (pe_lst h) fun σ H Q ⟨β, ds, S, d, S', rep, e, k⟩ => ?_
  obtain ⟨xs, S1, e1, e⟩ := R.bind_inv e
  split at e
  · rename_i hl
    cases e
    refine ⟨β, ds, S, xs, _, rep, e1, fun β1 vs H1 g1 r1 rv => ⟨by rw [rv.length]; exact hl, fun p hp => (k.from g1).cell r1 hp rv⟩⟩
  · cases e
end
end Rk

namespace Rk
open PySem PySem.Spec PyProof.Rows L2

mutual
/-- the data that a value is -/
def toP : D → Option PyData
  | .non => some .none
  | .bl b => some (.bool b)
  | .int i => some (.int i)
  | .str x => some (.str x)
  | .tup xs => (toPs xs).map .tuple
  | .lst xs => (toPs xs).map .list
  | .rol xs => (toPs xs).map .list
  | _ => none
def toPs : List D → Option (List PyData)
  | [] => some []
  | d :: ds => match toP d, toPs ds with
    | some p, some ps => some (p :: ps)
    | _, _ => none
end
def toPS (S : Store) : D → Option PyData
  | .ref n => match S[n]? with
    | some (.lst xs) => (toPs xs).map .list
    | _ => none
  | d => toP d
section
variable {Γ : Gm} {β : Bt} {H : Hp}
theorem lstSq {K : PySem.W.Frag} {a : Addr} {vs : List V} (h : Rd H a (.lst vs)) : SqL K H a vs := .inl h
mutual
theorem dp_of : ∀ {v : V} {d : D} {p : PyData}, RV Γ β H v d → toP d = some p → Dp Γ.K H v p
  | _, _, _, .non, e => by simp only [toP] at e; cases e; exact .non
  | _, _, _, .bl b, e => by simp only [toP] at e; cases e; exact .bl b
  | _, _, _, .int i, e => by simp only [toP] at e; cases e; exact .int i
  | _, _, _, .str x, e => by simp only [toP] at e; cases e; exact .str x
  | _, _, _, .tup h r, e => by
    simp only [toP] at e
    obtain ⟨ps, e1, rfl⟩ := Option.map_eq_some_iff.mp e
    exact .tup h (dps_of r e1)
  | _, _, _, .lst n h r, e => by
    simp only [toP] at e
    obtain ⟨ps, e1, rfl⟩ := Option.map_eq_some_iff.mp e
    exact .lst (SqL.of h) (dps_of r e1)
  | _, _, _, .rol n h r, e => by
    simp only [toP] at e
    obtain ⟨ps, e1, rfl⟩ := Option.map_eq_some_iff.mp e
    exact .lst (.inl h) (dps_of r e1)
  | _, _, _, .rolK h r, e => by
    simp only [toP] at e
    obtain ⟨ps, e1, rfl⟩ := Option.map_eq_some_iff.mp e
    exact .lst h.sq (dps_of r e1)
  | _, _, _, .dct _ _ _, e => by simp only [toP] at e; cases e
  | _, _, _, .kd _ _, e => by simp only [toP] at e; cases e
  | _, _, _, .ref _, e => by simp only [toP] at e; cases e
  | _, _, _, .fn _, e => by simp only [toP] at e; cases e
  | _, _, _, .ty _, e => by simp only [toP] at e; cases e
theorem dps_of : ∀ {vs : List V} {ds : List D} {ps : List PyData}, RVs Γ β H vs ds → toPs ds = some ps → DpAll Γ.K H vs ps
  | _, _, _, .nil, e => by simp only [toPs] at e; cases e; exact .nil
  | _, _, _, .cons h r, e => by
    simp only [toPs] at e
    split at e
    · rename_i e1 e2
      cases e
      exact .cons (dp_of h e1) (dps_of r e2)
    · cases e
end
theorem dpS_of {S : Store} {v : V} {d : D} {p : PyData} (r : RepSt Γ β S H) (rv : RV Γ β H v d) (e : toPS S d = some p) : Dp Γ.K H v p := by
  cases rv with
  | ref h =>
    simp only [toPS] at e
    split at e
    · rename_i xs hs
      obtain ⟨ps, e1, rfl⟩ := Option.map_eq_some_iff.mp e
      obtain ⟨vs, h1, q⟩ := r.cellOf h hs
      exact .lst (SqL.of h1) (dps_of q e1)
    · cases e
  | non => exact dp_of (β := β) .non e
  | bl b => exact dp_of (β := β) (.bl b) e
  | int i => exact dp_of (β := β) (.int i) e
  | str x => exact dp_of (β := β) (.str x) e
  | tup h q => exact dp_of (.tup h q) e
  | lst n h q => exact dp_of (.lst n h q) e
  | rol n h q => exact dp_of (.rol n h q) e
  | rolK h q => exact dp_of (.rolK h q) e
  | dct n h q => exact dp_of (.dct n h q) e
  | kd h q => exact dp_of (.kd h q) e
  | fn g => exact dp_of (β := β) (.fn g) e
  | ty n => exact dp_of (β := β) (.ty n) e

/-! ### lists that are read -/
def asL (S : Store) : D → Option (List D)
  | .lst xs => some xs
  | .rol xs => some xs
  | .ref n => match S[n]? with
    | some (.lst xs) => some xs
    | _ => none
  | _ => none
theorem asL_of {S : Store} {v : V} {d : D} {xs : List D} (r : RepSt Γ β S H) (rv : RV Γ β H v d) (e : asL S d = some xs) : ∃ a vs, v = .ref a ∧ SqL Γ.K H a vs ∧ RVs Γ β H vs xs := by
  cases rv with
  | lst n h q => cases e; exact ⟨_, _, rfl, SqL.of h, q⟩
  | rol n h q => cases e; exact ⟨_, _, rfl, .inl h, q⟩
  | rolK h q => cases e; exact ⟨_, _, rfl, h.sq, q⟩
  | ref h =>
    simp only [asL] at e
    split at e
    · rename_i xs hs
      cases e
      obtain ⟨vs, h1, q⟩ := r.cellOf h hs
      exact ⟨_, _, rfl, SqL.of h1, q⟩
    · cases e
  | _ => cases e
/-- a list that the layer tracks by itself -/
def asX (S : Store) : D → Option (List D)
  | .lst xs => some xs
  | .ref n => match S[n]? with
    | some (.lst xs) => some xs
    | _ => none
  | _ => none
theorem asX_of {S : Store} {v : V} {d : D} {xs : List D} (r : RepSt Γ β S H) (rv : RV Γ β H v d) (e : asX S d = some xs) : ∃ a vs, v = .ref a ∧ H a = some (.lst vs) ∧ RVs Γ β H vs xs := by
  cases rv with
  | lst n h q => cases e; exact ⟨_, _, rfl, h, q⟩
  | ref h =>
    simp only [asX] at e
    split at e
    · rename_i xs hs
      cases e
      obtain ⟨vs, h1, q⟩ := r.cellOf h hs
      exact ⟨_, _, rfl, h1, q⟩
    · cases e
  | _ => cases e
theorem RVs.append : ∀ {vs ws : List V} {ds es : List D}, RVs Γ β H vs ds → RVs Γ β H ws es → RVs Γ β H (vs ++ ws) (ds ++ es)
  | _, _, _, _, .nil, q => q
  | _, _, _, _, .cons h r, q => .cons h (RVs.append r q)
theorem RVs.take : ∀ {vs : List V} {ds : List D} (n : Nat), RVs Γ β H vs ds → RVs Γ β H (vs.take n) (ds.take n)
  | _, _, 0, _ => .nil
  | _, _, _ + 1, .nil => .nil
  | _, _, n + 1, .cons r t => .cons r (RVs.take n t)
theorem RVs.drop : ∀ {vs : List V} {ds : List D} (n : Nat), RVs Γ β H vs ds → RVs Γ β H (vs.drop n) (ds.drop n)
  | _, _, 0, r => r
  | _, _, _ + 1, .nil => .nil
  | _, _, n + 1, .cons r t => RVs.drop n t
theorem RVs.get : ∀ {vs : List V} {ds : List D} {i : Nat} {d : D}, RVs Γ β H vs ds → ds[i]? = some d → ∃ v, vs[i]? = some v ∧ RV Γ β H v d
  | _, _, _, _, .nil, e => by simp at e
  | _, _, 0, _, .cons r _, e => by simp at e; subst e; exact ⟨_, rfl, r⟩
  | _, _, i + 1, d, .cons _ t, e => by
    obtain ⟨u, h1, h2⟩ := RVs.get (i := i) (d := d) t (by simpa using e)
    exact ⟨u, by simpa using h1, h2⟩
theorem RVs.reverse {vs : List V} {ds : List D} (h : RVs Γ β H vs ds) : RVs Γ β H vs.reverse ds.reverse := by
  induction vs generalizing ds with
  | nil => cases h; exact .nil
  | cons v vs ih =>
    cases h with
    | cons r t =>
      rw [List.reverse_cons, List.reverse_cons]
      exact (ih t).append (.cons r .nil)
theorem RVs.set {v : V} {d : D} (r : RV Γ β H v d) : ∀ {vs : List V} {ds : List D} (i : Nat), RVs Γ β H vs ds → RVs Γ β H (vs.set i v) (ds.set i d)
  | _, _, _, .nil => .nil
  | _, _, 0, .cons _ t => .cons r t
  | _, _, i + 1, .cons q t => .cons q (RVs.set r i t)
theorem RVs.rep {vs : List V} {ds : List D} (h : RVs Γ β H vs ds) : ∀ k : Nat, RVs Γ β H (List.replicate k vs).flatten (List.replicate k ds).flatten
  | 0 => .nil
  | k + 1 => by
    rw [List.replicate_succ, List.replicate_succ, List.flatten_cons, List.flatten_cons]
    exact h.append (RVs.rep h k)

/-! ### t * 1 -/
theorem tuple_mul1 (l : Addr) (items : Array Value) (n : Nat) (dd : Option Addr) (sl : Array (Option Value)) (u : Tok) :
    Meets (Builtin.«tuple.__mul__» ⟨[.ref l, .int 1 u], []⟩) (fun _ R s => s.heap.get? l = some { cls := .type "tuple", dict := dd, data := .seq items n, slots := sl } ∧
      R (.ok (.ret (Value.ref l))) s) :=
  .of_wp fun prog w A R s h => by
    obtain ⟨hp, g, d, tk, os⟩ := s
    obtain ⟨hl, h⟩ := h
    have f1 := AutoSeq1.idx_int
    wp_walk using wpAny_loadPart' hl
    exact ⟨_, rfl, h⟩
theorem op_repT1 {X : Cx} : OpR X (binaryOp .Mult) (fun x y H Q => ∃ l xs, x = .ref l ∧ y = .int 1 ∧ SqT X.K H l xs ∧ Q (.ref l) H) := by
  intro pins s σ H x y v u Q I rx ry h
  obtain ⟨l, xs, rfl, rfl, hT, q⟩ := h
  cases rx
  obtain ⟨t, rfl⟩ := ry
  obtain ⟨its, r, ⟨⟨cls, dd, data, sl⟩, ho, hc, n, hd⟩, hs⟩ := I.tuple hT
  simp only at hc hd
  subst hc hd
  exact wpAny_binaryOp_repeat_ref (T := "tuple") (U := "int") (by decide) ⟨_, ho, rfl⟩ (fun s' => typeIs_int s' 1 t) noFill_tuple_mul F.fills_int_mul F.slot_int_rmul repeat_tuple F.slot_int_index.lookup
    (call_meets F.slot_int_rmul (typeIs_int s 1 t) F.entry_int_rmul (F.args_int_rmul_2 _ _) (int_rmul_tuple 1 t l its.toArray n dd sl)
      ⟨ho, rfl, ⟨_, ho, rfl⟩, call_meets F.slot_tuple_mul ⟨_, ho, rfl⟩ F.entry_tuple_mul (F.args_tuple_mul_2 _ _) (tuple_mul1 l its.toArray n dd sl t) ⟨ho, .ref l, H, I, rfl, q⟩⟩)
/-! ### + - * // % ** -/
def addD (x y : D) (S : Store) : R D := match x, y with
  | .int i, .int j => .ok (.int (i + j)) S
  | .str a, .str b => if a.length + b.length ≤ sizeLine then .ok (.str (a ++ b)) S else .bad
  | .tup a, .tup b => if a.length + b.length ≤ sizeLine then .ok (.tup (a ++ b)) S else .bad
  | a, b => match asX S a, asX S b with
    | some a, some b => if a.length + b.length ≤ sizeLine then .ok (.lst (a ++ b)) S else .bad
    | _, _ => .bad
def subD (x y : D) (S : Store) : R D := match x, y with
  | .int i, .int j => .ok (.int (i - j)) S
  | _, _ => .bad
def mulD (x y : D) (S : Store) : R D := match x, y with
  | .int i, .int j => if (-(2 ^ 64) < i ∧ i < 2 ^ 64) ∨ (-(2 ^ 64) < j ∧ j < 2 ^ 64) then .ok (.int (i * j)) S else .bad
  | .tup a, .int k => if 2 ≤ k ∧ k ≤ 1000 ∧ a.length ≤ 1000 ∧ a.length ≠ 0 then .ok (.tup (List.replicate k.toNat a).flatten) S else if k = 1 then .ok (.tup a) S else .bad
  | a, .int k => match asX S a with
    | some a => if -(2 ^ 63) ≤ k ∧ k < 2 ^ 63 ∧ a.length * k.toNat ≤ sizeLine then .ok (.lst (List.replicate k.toNat a).flatten) S else .bad
    | none => .bad
  | _, _ => .bad
def fdivD (x y : D) (S : Store) : R D := match x, y with
  | .int i, .int j => if 0 < j ∧ j < 1073741824 then .ok (.int (i / j)) S else .bad
  | _, _ => .bad
def modD (x y : D) (S : Store) : R D := match x, y with
  | .int i, .int j => if 0 < j then .ok (.int (i % j)) S else .bad
  | _, _ => .bad
def powD (x y : D) (S : Store) : R D := match x, y with
  | .int i, .int j => if 0 ≤ j ∧ j ≤ 1000000 ∧ i.natAbs < 2 ^ 64 then .ok (.int (i ^ j.toNat)) S else .bad
  | _, _ => .bad
def negD (x : D) (S : Store) : R D := match x with
  | .int i => .ok (.int (-i)) S
  | _ => .bad
end
section
variable {Γ : Gm} {X : Cx}
theorem rv_int {β : Bt} {H : Hp} {v : V} {i : Int} (h : RV Γ β H v (.int i)) : v = .int i := by cases h; rfl
theorem rv_str {β : Bt} {H : Hp} {v : V} {i : Str} (h : RV Γ β H v (.str i)) : v = .str i := by cases h; rfl
theorem rv_bl {β : Bt} {H : Hp} {v : V} {i : Bool} (h : RV Γ β H v (.bl i)) : v = .bl i := by cases h; rfl
theorem rv_tup {β : Bt} {H : Hp} {v : V} {xs : List D} (h : RV Γ β H v (.tup xs)) : ∃ a vs, v = .ref a ∧ SqT Γ.K H a vs ∧ RVs Γ β H vs xs := by cases h with | tup h q => exact ⟨_, _, rfl, h, q⟩
theorem intOp {op : D → D → Store → R D} {f : Value → Value → Sem Value} {C : Int → Int → Prop} {g : Int → Int → Int} (ho : OpR X f (rI C fun i j => .int (g i j)))
    (h : ∀ x y S d S', op x y S = .ok d S' → ∃ i j, x = .int i ∧ y = .int j ∧ C i j ∧ d = .int (g i j) ∧ S' = S) : OpR X f (rF2 Γ op) := by
  intro pins s σ H x y v u Q I rx ry ⟨β, S, dx, dy, d, S', r, r1, r2, e, k⟩
  obtain ⟨i, j, rfl, rfl, c, rfl, rfl⟩ := h _ _ _ _ _ e
  cases rv_int r1
  cases rv_int r2
  exact ho pins s σ H _ _ v u Q I rx ry ⟨i, j, rfl, rfl, c, k.self r (.int _)⟩
theorem intOp0 {op : D → D → Store → R D} {f : Value → Value → Sem Value} {g : Int → Int → Int} (ho : OpR X f (rI0 fun i j => .int (g i j)))
    (h : ∀ x y S d S', op x y S = .ok d S' → ∃ i j, x = .int i ∧ y = .int j ∧ d = .int (g i j) ∧ S' = S) : OpR X f (rF2 Γ op) := by
  intro pins s σ H x y v u Q I rx ry ⟨β, S, dx, dy, d, S', r, r1, r2, e, k⟩
  obtain ⟨i, j, rfl, rfl, rfl, rfl⟩ := h _ _ _ _ _ e
  cases rv_int r1
  cases rv_int r2
  exact ho pins s σ H _ _ v u Q I rx ry ⟨i, j, rfl, rfl, k.self r (.int _)⟩
theorem op_subD : OpR X (binaryOp .Sub) (rF2 Γ subD) := intOp0 op_sub fun x y S d S' e => by
  unfold subD at e
  split at e
  · cases e; exact ⟨_, _, rfl, rfl, rfl, rfl⟩
  · cases e
theorem op_fdivD : OpR X (binaryOp .FloorDiv) (rF2 Γ fdivD) := intOp op_fdiv fun x y S d S' e => by
  unfold fdivD at e
  split at e
  · split at e
    · rename_i h; cases e; exact ⟨_, _, rfl, rfl, h, rfl, rfl⟩
    · cases e
  · cases e
theorem op_modD : OpR X (binaryOp .Mod) (rF2 Γ modD) := intOp op_mod fun x y S d S' e => by
  unfold modD at e
  split at e
  · split at e
    · rename_i h; cases e; exact ⟨_, _, rfl, rfl, h, rfl, rfl⟩
    · cases e
  · cases e
theorem op_powD : OpR X (binaryOp .Pow) (rF2 Γ powD) := intOp op_pow fun x y S d S' e => by
  unfold powD at e
  split at e
  · split at e
    · rename_i h; cases e; exact ⟨_, _, rfl, rfl, h, rfl, rfl⟩
    · cases e
  · cases e
theorem un_negD : UnR X (unaryOp .USub) (rF1 Γ negD) := by
  intro pins s σ H x v Q I rx ⟨β, S, dx, d, S', r, r1, e, k⟩
  unfold negD at e
  split at e
  · cases e
    cases rv_int r1
    exact un_neg pins s σ H _ v Q I rx ⟨_, rfl, k.self r (.int _)⟩
  · cases e
theorem cat_of {β : Bt} {S S' : Store} {dx dy d : D} {H : Hp} {x y : V} {Q : VK} {pins : List (Addr × Obj)} {s : Shared} {σ : L2.St} {v u : Value} (I : Inv X pins σ H s) (rx : RelV x v) (ry : RelV y u) (r : RepSt Γ β S H) (r1 : RV Γ β H x dx) (r2 : RV Γ β H y dy) (k : K1 Γ β H d S' Q)
    (e : (match asX S dx, asX S dy with
    | some a, some b => if a.length + b.length ≤ sizeLine then R.ok (D.lst (a ++ b)) S else .bad
    | _, _ => .bad) = .ok d S') : wpAny (model X.prog X.w) X.A (binaryOp .Add v u) (EP X pins σ Q) X.xe s := by
  split at e
  · rename_i a b ea eb
    split at e
    · rename_i hl
      cases e
      obtain ⟨p, vs, rfl, hp, q1⟩ := asX_of r r1 ea
      obtain ⟨p', vs', rfl, hp', q2⟩ := asX_of r r2 eb
      exact op_cat pins s σ H _ _ v u Q I rx ry ⟨p, p', vs, vs', rfl, rfl, hp, hp', by rw [q1.length, q2.length]; exact hl, fun l hn => k.lst r hn (q1.append q2)⟩
    · cases e
  · cases e
theorem op_addD (hK : X.K = Γ.K) : OpR X (binaryOp .Add) (rF2 Γ addD) := by
  intro pins s σ H x y v u Q I rx ry ⟨β, S, dx, dy, d, S', r, r1, r2, e, k⟩
  unfold addD at e
  split at e
  · cases e
    cases rv_int r1
    cases rv_int r2
    exact op_add pins s σ H _ _ v u Q I rx ry ⟨_, _, rfl, rfl, k.self r (.int _)⟩
  · split at e
    · rename_i hl
      cases e
      cases rv_str r1
      cases rv_str r2
      exact op_add_str pins s σ H _ _ v u Q I rx ry ⟨_, _, rfl, rfl, hl, k.self r (.str _)⟩
    · cases e
  · split at e
    · rename_i hl
      cases e
      obtain ⟨a, vs, rfl, h1, q1⟩ := rv_tup r1
      obtain ⟨b, ws, rfl, h2, q2⟩ := rv_tup r2
      refine op_catA pins s σ H _ _ v u Q I rx ry ⟨a, b, vs, ws, rfl, rfl, by rw [hK]; exact h1, by rw [hK]; exact h2, by rw [q1.length, q2.length]; exact hl, fun z => ?_, fun _ z => ?_, fun _ _ p hp => k.tup r hp (q1.append q2)⟩
      · subst z
        cases q1
        exact k.self r (.tup h2 q2)
      · subst z
        cases q2
        rw [List.append_nil] at k
        exact k.self r (.tup h1 q1)
    · cases e
  · exact cat_of I rx ry r r1 r2 k e
theorem op_mulD (hK : X.K = Γ.K) : OpR X (binaryOp .Mult) (rF2 Γ mulD) := by
  intro pins s σ H x y v u Q I rx ry ⟨β, S, dx, dy, d, S', r, r1, r2, e, k⟩
  unfold mulD at e
  split at e
  · split at e
    · rename_i hl
      cases e
      cases rv_int r1
      cases rv_int r2
      exact op_mul pins s σ H _ _ v u Q I rx ry ⟨_, _, rfl, rfl, hl, k.self r (.int _)⟩
    · cases e
  · split at e
    · rename_i hl
      cases e
      obtain ⟨a, vs, rfl, h1, q1⟩ := rv_tup r1
      cases rv_int r2
      refine op_repT pins s σ H _ _ v u Q I rx ry ⟨a, _, vs, rfl, rfl, by rw [hK]; exact h1, fun z => hl.2.2.2 (by rw [← q1.length, z]; rfl), hl.1, hl.2.1, by rw [q1.length]; exact hl.2.2.1, fun p hp => k.tup r hp (q1.rep _)⟩
    · split at e
      · rename_i hk
        cases e
        subst hk
        obtain ⟨a, vs, rfl, h1, q1⟩ := rv_tup r1
        cases rv_int r2
        exact op_repT1 pins s σ H _ _ v u Q I rx ry ⟨a, vs, rfl, rfl, by rw [hK]; exact h1, k.self r (.tup h1 q1)⟩
      · cases e
  · split at e
    · rename_i a ea
      split at e
      · rename_i hl
        cases e
        obtain ⟨p, vs, rfl, hp, q1⟩ := asX_of r r1 ea
        cases rv_int r2
        exact op_rep pins s σ H _ _ v u Q I rx ry ⟨p, _, vs, rfl, rfl, hp, hl.1, hl.2.1, by rw [q1.length]; exact hl.2.2, fun l hn => k.lst r hn (q1.rep _)⟩
      · cases e
    · cases e
  · cases e
end
end Rk

namespace Rk
open PySem PySem.Spec PyProof.Rows L2

/-! ### == and != -/
/-- == of plain things -/
def eqS : D → D → Option Bool
  | .non, .non => some true
  | .non, .bl _ => some false
  | .non, .int _ => some false
  | .non, .str _ => some false
  | .bl _, .non => some false
  | .int _, .non => some false
  | .str _, .non => some false
  | .bl a, .bl b => some (decide (a = b))
  | .int a, .int b => some (decide (a = b))
  | .str a, .str b => some (decide (a = b))
  | .int _, .str _ => some false
  | .str _, .int _ => some false
  | .bl _, .str _ => some false
  | .str _, .bl _ => some false
  | .tup xs, .tup [] => some xs.isEmpty
  | .lst xs, .lst [] => some xs.isEmpty
  | _, _ => none
def eqB (S : Store) (x y : D) : Option Bool := match eqS x y with
  | some b => some b
  | none => match toPS S x, toPS S y with
    | some p, some q => if SeqAt.shaped p = true ∧ SeqAt.shaped q = true then some (PyData.eqv p q) else none
    | _, _ => none
def eqD (x y : D) (S : Store) : R D := match eqB S x y with
  | some b => .ok (.bl b) S
  | none => .bad
def neD (x y : D) (S : Store) : R D := match eqB S x y with
  | some b => .ok (.bl (!b)) S
  | none => .bad
section
variable {Γ : Gm} {X : Cx}
theorem op_eqTN : OpR X (compareOp .Eq) (fun x y H Q => ∃ a b xs, x = .ref a ∧ y = .ref b ∧ SqT X.K H a xs ∧ SqT X.K H b [] ∧ X.A.units < cLine ∧ Q (.bl xs.isEmpty) H) := by
  intro pins s σ H x y v u Q I rx ry h
  obtain ⟨a, b, xs, rfl, rfl, ha, hb, hu, q⟩ := h
  cases rx
  cases ry
  obtain ⟨its, r1, p1, _⟩ := I.tuple ha
  obtain ⟨its2, r2, p2, _⟩ := I.tuple hb
  cases r2
  refine SeqAt.eq_tupleAt (e := fun _ => true) (show s.heap.IsTuple a its.toArray from p1) (show s.heap.IsTuple b _ from p2) hu (fun j _ h2 => absurd h2 (by simp)) ?_
  refine fin_bl I q ?_
  cases r1 <;> simp
theorem op_neTN : OpR X (compareOp .NotEq) (fun x y H Q => ∃ a b xs, x = .ref a ∧ y = .ref b ∧ SqT X.K H a xs ∧ SqT X.K H b [] ∧ X.A.units < cLine ∧ Q (.bl (!xs.isEmpty)) H) := by
  intro pins s σ H x y v u Q I rx ry h
  obtain ⟨a, b, xs, rfl, rfl, ha, hb, hu, q⟩ := h
  cases rx
  cases ry
  obtain ⟨its, r1, p1, _⟩ := I.tuple ha
  obtain ⟨its2, r2, p2, _⟩ := I.tuple hb
  cases r2
  refine SeqAt.RcNeAt.tuples (e := fun _ => true) (show s.heap.IsTuple a its.toArray from p1) (show s.heap.IsTuple b _ from p2) hu (fun j _ h2 => absurd h2 (by simp)) _ _ _ _ ?_
  refine fin_bl I q ?_
  cases r1 <;> simp
theorem isList_of {h : Heap} {a : Addr} {its : Array Value} (p : PlainL h a its) : h.IsList a its := by
  obtain ⟨o, n, h1, h2, _, h4⟩ := p
  exact ⟨o, h1, h2, n, h4⟩
theorem op_eqLN : OpR X (compareOp .Eq) (fun x y H Q => ∃ a b xs, x = .ref a ∧ y = .ref b ∧ SqL X.K H a xs ∧ SqL X.K H b [] ∧ X.A.units < cLine ∧ Q (.bl xs.isEmpty) H) := by
  intro pins s σ H x y v u Q I rx ry h
  obtain ⟨a, b, xs, rfl, rfl, ha, hb, hu, q⟩ := h
  cases rx
  cases ry
  obtain ⟨its, r1, p1, _⟩ := I.list ha
  obtain ⟨its2, r2, p2, _⟩ := I.list hb
  cases r2
  cases r1 with
  | nil => exact SeqAt.eq_listAt (e := fun _ => true) (isList_of p1) (isList_of p2) rfl hu (fun j _ h2 => absurd h2 (by simp)) (fin_bl I q (by simp))
  | cons h t => exact SeqAt.eq_list_lengthsAt (isList_of p1) (isList_of p2) (by simp) hu (fin_bl I q rfl)
theorem op_neLN : OpR X (compareOp .NotEq) (fun x y H Q => ∃ a b xs, x = .ref a ∧ y = .ref b ∧ SqL X.K H a xs ∧ SqL X.K H b [] ∧ X.A.units < cLine ∧ Q (.bl (!xs.isEmpty)) H) := by
  intro pins s σ H x y v u Q I rx ry h
  obtain ⟨a, b, xs, rfl, rfl, ha, hb, hu, q⟩ := h
  cases rx
  cases ry
  obtain ⟨its, r1, p1, _⟩ := I.list ha
  obtain ⟨its2, r2, p2, _⟩ := I.list hb
  cases r2
  cases r1 with
  | nil => exact SeqAt.RcNeAt.lists (e := fun _ => true) (isList_of p1) (isList_of p2) rfl hu (fun j _ h2 => absurd h2 (by simp)) _ _ _ _ (fin_bl I q (by simp))
  | cons h t => exact SeqAt.RcNeAt.lists_lengths (isList_of p1) (isList_of p2) (by simp) hu _ _ _ _ (fin_bl I q rfl)
theorem rv_lst {β : Bt} {H : Hp} {v : V} {xs : List D} (h : RV Γ β H v (.lst xs)) : ∃ a vs, v = .ref a ∧ SqL Γ.K H a vs ∧ RVs Γ β H vs xs := by cases h with | lst n h q => exact ⟨_, _, rfl, SqL.of h, q⟩
theorem op_eqDD (hK : X.K = Γ.K) (hu : X.A.units + 64 < cLine) : OpR X (compareOp .Eq) (rF2 Γ eqD) := by
  intro pins s σ H x y v u Q I rx ry ⟨β, S, dx, dy, d, S', r, r1, r2, e, k⟩
  unfold eqD at e
  split at e
  case h_2 => cases e
  rename_i b hb
  cases e
  have q : Q (.bl b) H := k.self r (.bl b)
  unfold eqB at hb
  split at hb
  · rename_i b' hs
    cases hb
    unfold eqS at hs
    split at hs <;> first | cases hs
    all_goals first
      | (cases r1; cases r2; exact op_eq pins s σ H _ _ v u Q I rx ry ⟨rfl, by first | exact q | simpa using q⟩)
      | skip
    · obtain ⟨a, vs, rfl, h1, q1⟩ := rv_tup r1
      obtain ⟨a2, vs2, rfl, h2, q2⟩ := rv_tup r2
      cases q2
      exact op_eqTN pins s σ H _ _ v u Q I rx ry ⟨a, a2, vs, rfl, rfl, by rw [hK]; exact h1, by rw [hK]; exact h2, by omega, by rw [q1.isEmpty]; exact q⟩
    · obtain ⟨a, vs, rfl, h1, q1⟩ := rv_lst r1
      obtain ⟨a2, vs2, rfl, h2, q2⟩ := rv_lst r2
      cases q2
      exact op_eqLN pins s σ H _ _ v u Q I rx ry ⟨a, a2, vs, rfl, rfl, by rw [hK]; exact h1, by rw [hK]; exact h2, by omega, by rw [q1.isEmpty]; exact q⟩
  · split at hb
    · rename_i p p' e1 e2
      split at hb
      · rename_i hsh
        cases hb
        exact op_eqD hu pins s σ H _ _ v u Q I rx ry ⟨p, p', by rw [hK]; exact dpS_of r r1 e1, by rw [hK]; exact dpS_of r r2 e2, hsh.1, hsh.2, q⟩
      · cases hb
    · cases hb
theorem op_neDD (hK : X.K = Γ.K) (hu : X.A.units + 64 < cLine) : OpR X (compareOp .NotEq) (rF2 Γ neD) := by
  intro pins s σ H x y v u Q I rx ry ⟨β, S, dx, dy, d, S', r, r1, r2, e, k⟩
  unfold neD at e
  split at e
  case h_2 => cases e
  rename_i b hb
  cases e
  have q : Q (.bl (!b)) H := k.self r (.bl (!b))
  unfold eqB at hb
  split at hb
  · rename_i b' hs
    cases hb
    unfold eqS at hs
    split at hs <;> first | cases hs
    all_goals first
      | (cases r1; cases r2; exact op_ne pins s σ H _ _ v u Q I rx ry ⟨rfl, by first | exact q | simpa using q⟩)
      | skip
    · obtain ⟨a, vs, rfl, h1, q1⟩ := rv_tup r1
      obtain ⟨a2, vs2, rfl, h2, q2⟩ := rv_tup r2
      cases q2
      exact op_neTN pins s σ H _ _ v u Q I rx ry ⟨a, a2, vs, rfl, rfl, by rw [hK]; exact h1, by rw [hK]; exact h2, by omega, by rw [q1.isEmpty]; exact q⟩
    · obtain ⟨a, vs, rfl, h1, q1⟩ := rv_lst r1
      obtain ⟨a2, vs2, rfl, h2, q2⟩ := rv_lst r2
      cases q2
      exact op_neLN pins s σ H _ _ v u Q I rx ry ⟨a, a2, vs, rfl, rfl, by rw [hK]; exact h1, by rw [hK]; exact h2, by omega, by rw [q1.isEmpty]; exact q⟩
  · split at hb
    · rename_i p p' e1 e2
      split at hb
      · rename_i hsh
        cases hb
        exact op_neD hu pins s σ H _ _ v u Q I rx ry ⟨p, p', by rw [hK]; exact dpS_of r r1 e1, by rw [hK]; exact dpS_of r r2 e2, hsh.1, hsh.2, q⟩
      · cases hb
    · cases hb

/-! ### < <= > >= of ints -/
def cmpI (p : Int → Int → Bool) (x y : D) (S : Store) : R D := match x, y with
  | .int i, .int j => .ok (.bl (p i j)) S
  | _, _ => .bad
abbrev ltD := cmpI fun i j => decide (i < j)
abbrev leD := cmpI fun i j => decide (i ≤ j)
abbrev gtD := cmpI fun i j => decide (j < i)
abbrev geD := cmpI fun i j => decide (j ≤ i)
theorem op_cmpI {o : CmpOp} {p : Int → Int → Bool} (ho : OpR X (compareOp o) (rI0 fun i j => .bl (p i j))) : OpR X (compareOp o) (rF2 Γ (cmpI p)) := by
  intro pins s σ H x y v u Q I rx ry ⟨β, S, dx, dy, d, S', r, r1, r2, e, k⟩
  unfold cmpI at e
  split at e
  · cases e
    cases rv_int r1
    cases rv_int r2
    exact ho pins s σ H _ _ v u Q I rx ry ⟨_, _, rfl, rfl, k.self r (.bl _)⟩
  · cases e
theorem op_ltDD : OpR X (compareOp .Lt) (rF2 Γ ltD) := op_cmpI op_lt
theorem op_leDD : OpR X (compareOp .LtE) (rF2 Γ leD) := op_cmpI op_le
theorem op_gtDD : OpR X (compareOp .Gt) (rF2 Γ gtD) := op_cmpI op_gt
theorem op_geDD : OpR X (compareOp .GtE) (rF2 Γ geD) := op_cmpI op_ge

/-! ### is, is not: None, bools -/
def isNonD : D → Bool
  | .non => true
  | _ => false
def isB (x y : D) : Option Bool := match y with
  | .non => some (isNonD x)
  | .bl b => match x with
    | .bl a => some (decide (a = b))
    | _ => none
  | _ => none
def isD (x y : D) (S : Store) : R D := match isB x y with
  | some b => .ok (.bl b) S
  | none => .bad
def isNotD (x y : D) (S : Store) : R D := match isB x y with
  | some b => .ok (.bl (!b)) S
  | none => .bad
theorem rv_isNon {β : Bt} {H : Hp} {v : V} {d : D} (h : RV Γ β H v d) : decide (v = .non) = isNonD d := by
  cases h <;> simp [isNonD]
theorem op_isDD : OpR X (compareOp .Is) (rF2 Γ isD) := by
  intro pins s σ H x y v u Q I rx ry ⟨β, S, dx, dy, d, S', r, r1, r2, e, k⟩
  unfold isD at e
  split at e
  case h_2 => cases e
  rename_i b hb
  cases e
  have q : Q (.bl b) H := k.self r (.bl b)
  unfold isB at hb
  split at hb
  · cases hb
    cases r2
    exact op_isN pins s σ H _ _ v u Q I rx ry ⟨rfl, by rw [rv_isNon r1]; exact q⟩
  · split at hb
    · cases hb
      cases r1
      cases r2
      exact op_isBl pins s σ H _ _ v u Q I rx ry ⟨_, _, rfl, rfl, q⟩
    · cases hb
  · cases hb
theorem op_isNotDD : OpR X (compareOp .IsNot) (rF2 Γ isNotD) := by
  intro pins s σ H x y v u Q I rx ry ⟨β, S, dx, dy, d, S', r, r1, r2, e, k⟩
  unfold isNotD at e
  split at e
  case h_2 => cases e
  rename_i b hb
  cases e
  have q : Q (.bl (!b)) H := k.self r (.bl (!b))
  unfold isB at hb
  split at hb
  · cases hb
    cases r2
    exact op_notN pins s σ H _ _ v u Q I rx ry ⟨rfl, by rw [rv_isNon r1]; exact q⟩
  · split at hb
    · cases hb
      cases r1
      cases r2
      exact op_notBl pins s σ H _ _ v u Q I rx ry ⟨_, _, rfl, rfl, q⟩
    · cases hb
  · cases hb

/-! ### in, not in: a sign in a text, a plain thing in a tuple or list, data in a list, a key in a dict -/
def keyD : D → Option Key
  | .int i => some (.inl i)
  | .str x => some (.inr x)
  | _ => none
def valD (kvs : List (Key × D)) (k : Key) : Option D := match kvs with
  | [] => none
  | (k', d) :: r => if k' = k then some d else valD r k
def flatD : D → Bool
  | .non => true
  | .bl _ => true
  | .int _ => true
  | .str _ => true
  | _ => false
/-- == of flat things -/
def eqF : D → D → Bool
  | .non, .non => true
  | .bl a, .bl b => a == b
  | .bl a, .int b => (if a then 1 else 0) == b
  | .int a, .bl b => a == (if b then 1 else 0)
  | .int a, .int b => a == b
  | .str a, .str b => a == b
  | _, _ => false
def asDict (S : Store) : D → Option (List (Key × D))
  | .dct kvs => some kvs
  | .ref n => match S[n]? with
    | some (.dct xs) => some xs
    | _ => none
  | _ => none
def asSeq (S : Store) : D → Option (List D)
  | .tup xs => some xs
  | d => asL S d
def inB (S : Store) (x y : D) : Option Bool := match x, y with
  | .str a, .str b => match a.cps.toList with
    | [c] => some (decide (c ∈ b.cps.toList))
    | _ => none
  | .str a, .kd kvs => some (valD kvs (.inr a)).isSome
  | x, y => match keyD x, asDict S y with
    | some k, some kvs => some (valD kvs k).isSome
    | _, _ => match asSeq S y with
      | some ys => if flatD x = true ∧ ys.all flatD = true then some (ys.any fun z => eqF z x) else
        match toPS S x, toPS S y with
        | some p, some (.list ps) => if SeqAt.shaped p = true ∧ SeqAt.shaped (.list ps) = true then some (ps.any fun z => PyData.eqv z p) else none
        | _, _ => none
      | none => none
def inD (x y : D) (S : Store) : R D := match inB S x y with
  | some b => .ok (.bl b) S
  | none => .bad
def notInD (x y : D) (S : Store) : R D := match inB S x y with
  | some b => .ok (.bl (!b)) S
  | none => .bad
theorem rv_flat {β : Bt} {H : Hp} {v : V} {d : D} (h : RV Γ β H v d) (f : flatD d = true) : flatV v = true := by
  cases h <;> simp [flatD] at f <;> rfl
theorem rv_flats {β : Bt} {H : Hp} : ∀ {vs : List V} {ds : List D}, RVs Γ β H vs ds → ds.all flatD = true → vs.all flatV = true
  | _, _, .nil, _ => rfl
  | _, _, .cons h r, f => by
    simp only [List.all_cons, Bool.and_eq_true] at f ⊢
    exact ⟨rv_flat h f.1, rv_flats r f.2⟩
theorem rv_eqF {β : Bt} {H : Hp} {v w : V} {d e : D} (h : RV Γ β H v d) (h' : RV Γ β H w e) (f : flatD d = true) (f' : flatD e = true) : eqV v w = eqF d e := by
  cases h <;> simp [flatD] at f <;> cases h' <;> simp [flatD] at f' <;> rfl
theorem rv_inF {β : Bt} {H : Hp} {w : V} {e : D} (h' : RV Γ β H w e) (f' : flatD e = true) : ∀ {vs : List V} {ds : List D}, RVs Γ β H vs ds → ds.all flatD = true → inV w vs = ds.any fun z => eqF z e
  | _, _, .nil, _ => rfl
  | _, _, .cons h r, f => by
    simp only [List.all_cons, Bool.and_eq_true] at f
    unfold inV
    rw [List.any_cons, List.any_cons, rv_eqF h h' f.1 f']
    congr 1
    exact rv_inF h' f' r f.2
theorem asSeq_of {β : Bt} {H : Hp} {S : Store} {v : V} {d : D} {xs : List D} (r : RepSt Γ β S H) (rv : RV Γ β H v d) (e : asSeq S d = some xs) : ∃ a vs, v = .ref a ∧ (SqL Γ.K H a vs ∨ SqT Γ.K H a vs) ∧ RVs Γ β H vs xs := by
  by_cases ht : ∃ ys, d = .tup ys
  · obtain ⟨ys, rfl⟩ := ht
    cases e
    obtain ⟨a, vs, rfl, h, q⟩ := rv_tup rv
    exact ⟨a, vs, rfl, .inr h, q⟩
  · have e' : asL S d = some xs := by
      cases d <;> first | exact e | exact absurd ⟨_, rfl⟩ ht
    obtain ⟨a, vs, rfl, h, q⟩ := asL_of r rv e'
    exact ⟨a, vs, rfl, .inl h, q⟩
theorem asDict_of {β : Bt} {H : Hp} {S : Store} {v : V} {d : D} {xs : List (Key × D)} (r : RepSt Γ β S H) (rv : RV Γ β H v d) (e : asDict S d = some xs) : ∃ a vs, v = .ref a ∧ Rd H a (.dK vs) ∧ RKs Γ β H vs xs := by
  cases rv with
  | dct n h q => cases e; exact ⟨_, _, rfl, h, q⟩
  | ref h =>
    simp only [asDict] at e
    split at e
    · rename_i xs hs
      cases e
      obtain ⟨vs, h1, q⟩ := r.cellOf h hs
      exact ⟨_, _, rfl, .inl h1, q⟩
    · cases e
  | _ => cases e
theorem rv_key {β : Bt} {H : Hp} {v : V} {d : D} {k : Key} (rv : RV Γ β H v d) (e : keyD d = some k) : v = kV k := by
  cases rv <;> simp only [keyD] at e <;> cases e <;> rfl
theorem rks_val {β : Bt} {H : Hp} {k : Key} : ∀ {vs : List (Key × V)} {ds : List (Key × D)}, RKs Γ β H vs ds → (valV vs k = none ∧ valD ds k = none) ∨ ∃ v d, valV vs k = some v ∧ valD ds k = some d ∧ RV Γ β H v d
  | _, _, .nil => .inl ⟨rfl, rfl⟩
  | _, _, .cons (k := k') (v := v) (vs := vs) (d := d) (ds := ds) h r => by
    have e1 : valV ((k', v) :: vs) k = if k' = k then some v else valV vs k := by
      unfold valV
      rw [List.find?_cons]
      by_cases hk : k' = k <;> simp [hk]
    have e2 : valD ((k', d) :: ds) k = if k' = k then some d else valD ds k := rfl
    rw [e1, e2]
    by_cases hk : k' = k
    · rw [if_pos hk, if_pos hk]
      exact .inr ⟨v, d, rfl, rfl, h⟩
    · rw [if_neg hk, if_neg hk]
      exact rks_val r
theorem in_of {neg : Bool} {o : CmpOp} (hK : X.K = Γ.K) (hu : X.A.units + 65 < cLine)
    (h1 : OpR X (compareOp o) (fun x y H Q => ∃ (c : Nat) (z : Str), x = .str ⟨#[c]⟩ ∧ y = .str z ∧ Q (.bl (if neg then !decide (c ∈ z.cps.toList) else decide (c ∈ z.cps.toList))) H))
    (h2 : OpR X (compareOp o) (rIn X.K neg))
    (h3 : OpR X (compareOp o) (fun x y H Q => ∃ d ds, Dp X.K H x d ∧ Dp X.K H y (.list ds) ∧ SeqAt.shaped d = true ∧ SeqAt.shaped (.list ds) = true ∧ Q (.bl (if neg then !(ds.any fun z => PyData.eqv z d) else (ds.any fun z => PyData.eqv z d))) H))
    (h4 : OpR X (compareOp o) (fun x y H Q => ∃ a ov, y = .ref a ∧ DGet H a x ov ∧ Q (.bl (if neg then !ov.isSome else ov.isSome)) H))
    (h5 : OpR X (compareOp o) (fun x y H Q => ∃ a z kvs, x = .str z ∧ y = .ref a ∧ KDs X.K X.w.params a kvs ∧ Q (.bl (if neg then !(valV kvs (.inr z)).isSome else (valV kvs (.inr z)).isSome)) H)) (hP : X.w.params = Γ.P) :
    OpR X (compareOp o) (rF2 Γ fun x y S => match inB S x y with | some b => .ok (.bl (if neg then !b else b)) S | none => .bad) := by
  intro pins s σ H x y v u Q I rx ry ⟨β, S, dx, dy, d, S', r, r1, r2, e, k⟩
  simp only at e
  split at e
  case h_2 => cases e
  rename_i b hb
  cases e
  have q : Q (.bl (if neg then !b else b)) H := k.self r (.bl _)
  unfold inB at hb
  split at hb
  · split at hb
    · rename_i a b' _ c hc
      cases hb
      cases rv_str r1
      cases rv_str r2
      refine h1 pins s σ H _ _ v u Q I rx ry ⟨c, _, ?_, rfl, q⟩
      have : a.cps = #[c] := by
        have := congrArg List.toArray hc
        simpa using this
      cases a
      simp only at this
      rw [this]
    · cases hb
  · rename_i a kvs
    cases hb
    cases rv_str r1
    cases r2 with
    | kd h2 q2 =>
      refine h5 pins s σ H _ _ v u Q I rx ry ⟨_, a, _, rfl, rfl, by rw [hK, hP]; exact h2, ?_⟩
      rcases rks_val (k := .inr a) q2 with ⟨z1, z2⟩ | ⟨v', d', z1, z2, _⟩
      · rw [z1]; rw [z2] at q; exact q
      · rw [z1]; rw [z2] at q; exact q
  · split at hb
    · rename_i kk kvs e1 e2
      cases hb
      obtain ⟨a, vs, rfl, h, qq⟩ := asDict_of r r2 e2
      cases rv_key r1 e1
      refine h4 pins s σ H _ _ v u Q I rx ry ⟨a, valV vs kk, rfl, .inl ⟨vs, kk, h, rfl, rfl⟩, ?_⟩
      rcases rks_val (k := kk) qq with ⟨z1, z2⟩ | ⟨v', d', z1, z2, _⟩
      · rw [z1]; rw [z2] at q; exact q
      · rw [z1]; rw [z2] at q; exact q
    · split at hb
      · rename_i ys hys
        split at hb
        · rename_i hf
          cases hb
          obtain ⟨a, vs, rfl, h, qq⟩ := asSeq_of r r2 hys
          refine h2 pins s σ H _ _ v u Q I rx ry ⟨a, vs, rfl, by rw [hK]; exact h, rv_flat r1 hf.1, rv_flats qq hf.2, ?_⟩
          rw [rv_inF r1 hf.1 qq hf.2]
          exact q
        · split at hb
          · rename_i p ps e1 e2
            split at hb
            · rename_i hsh
              cases hb
              exact h3 pins s σ H _ _ v u Q I rx ry ⟨p, ps, by rw [hK]; exact dpS_of r r1 e1, by rw [hK]; exact dpS_of r r2 e2, hsh.1, hsh.2, q⟩
            · cases hb
          · cases hb
      · cases hb
theorem ents_lit {P : Params} : ∀ {es : List DictEntry} {kvs : List (Key × V)}, EntsAre P es kvs → PySem.W.KeysLit P es
  | [], [], _ => trivial
  | e :: es, (k, v) :: r, ⟨⟨x, t, _, e1, e2, _⟩, h⟩ => ⟨⟨x, t, e1, e2⟩, ents_lit h⟩
theorem valV_cons {k k' : Key} {v : V} {r : List (Key × V)} : valV ((k, v) :: r) k' = if k = k' then some v else valV r k' := by
  unfold valV
  by_cases h : k = k' <;> simp [List.find?_cons, h]
theorem ents_val {P : Params} {z : Str} : ∀ {es : List DictEntry} {kvs : List (Key × V)}, EntsAre P es kvs → (valV kvs (.inr z) = none ∧ es.find? (·.key.isStr z) = none) ∨ ∃ v e, valV kvs (.inr z) = some v ∧ es.find? (·.key.isStr z) = some e ∧ RelV v e.val
  | [], [], _ => .inl ⟨rfl, rfl⟩
  | e :: es, (k, v) :: r, ⟨⟨x, t, e0, e1, e2, e3⟩, h⟩ => by
    subst e0
    have ks : e.key.isStr z = decide (x = z) := by
      rw [e1]
      show (x == z) = _
      rfl
    by_cases hx : x = z
    · subst hx
      refine .inr ⟨v, e, ?_, ?_, e3⟩
      · rw [valV_cons, if_pos rfl]
      · rw [List.find?_cons, ks]; simp
    · rcases ents_val (z := z) h with ⟨h1, h2⟩ | ⟨v', e', h1, h2, h3⟩
      · refine .inl ⟨?_, ?_⟩
        · rw [valV_cons, if_neg (by simp [hx]), h1]
        · rw [List.find?_cons, ks]; simp [hx, h2]
      · refine .inr ⟨v', e', ?_, ?_, h3⟩
        · rw [valV_cons, if_neg (by simp [hx]), h1]
        · rw [List.find?_cons, ks]; simp [hx, h2]
theorem ents_noref {P : Params} : ∀ {es : List DictEntry} {kvs : List (Key × V)}, EntsAre P es kvs → es.any (·.refKey) = false
  | [], [], _ => rfl
  | e :: es, (k, v) :: r, ⟨⟨x, t, _, e1, _, _⟩, h⟩ => by
    rw [List.any_cons, ents_noref h, Bool.or_false]
    unfold DictEntry.refKey
    rw [e1]
theorem kd_ns {K : PySem.W.Frag} {P : Params} {a : Addr} {z : Str} {kvs : List (Key × V)} (h : KDs K P a kvs) : (valV kvs (.inr z) = none ∧ PySem.W.nsIn K a z = some none) ∨ ∃ v u, valV kvs (.inr z) = some v ∧ PySem.W.nsIn K a z = some (some u) ∧ RelV v u := by
  obtain ⟨es, n, hl, _, he⟩ := h
  unfold PySem.W.nsIn
  rw [hl]
  rcases ents_val (z := z) he with ⟨h1, h2⟩ | ⟨v, e, h1, h2, h3⟩
  · refine .inl ⟨h1, ?_⟩
    simp only [h2, ents_noref he]
    rfl
  · refine .inr ⟨v, e.val, h1, ?_, h3⟩
    simp only [h2]
theorem kd_dct {K : PySem.W.Frag} {w : World} {a : Addr} {z : Str} {v : V} {kvs : List (Key × V)} (h : KDs K w.params a kvs) (e : valV kvs (.inr z) = some v) : KDct K w a z v := by
  rcases kd_ns (z := z) h with ⟨h1, _⟩ | ⟨v', u, h1, h2, h3⟩
  · rw [h1] at e; cases e
  · rw [h1] at e
    cases e
    obtain ⟨es, n, hl, _, he⟩ := h
    exact ⟨es, n, u, hl, ents_lit he, h2, h3⟩
theorem kd_find {w : World} {a : Addr} {z : Str} {kvs : List (Key × V)} {es : Array DictEntry} {n : Nat} {K : PySem.W.Frag} (h : KDs K w.params a kvs) (hl : K.lookup a = some ⟨.type "dict", none, .dict es n, #[]⟩) : (findBy Value.isStrOf es z).isSome = (valV kvs (.inr z)).isSome := by
  rcases kd_ns (z := z) h with ⟨h1, h2⟩ | ⟨v', u, h1, h2, h3⟩
  · rw [PySem.W.find_K hl h2, h1]; rfl
  · rw [PySem.W.find_K hl h2, h1]; rfl
theorem op_inKD : OpR X (compareOp .In) (fun x y H Q => ∃ a z kvs, x = .str z ∧ y = .ref a ∧ KDs X.K X.w.params a kvs ∧ Q (.bl (valV kvs (.inr z)).isSome) H) := by
  intro pins s σ H x y v u Q I rx ry ⟨a, z, kvs, e1, e2, h, q⟩
  subst e1 e2
  obtain ⟨t, rfl⟩ := (show ∃ t, v = Value.str z t from rx)
  obtain rfl : u = Value.ref a := ry
  obtain ⟨es, n, hl, low, he⟩ := id h
  have hm := PySem.W.mapOf_K (prog := X.prog) (w := X.w) I.kIn hl (ents_lit he)
  refine wpAny_in_of (strKind_is X.prog X.w z t) low hm ?_
  rw [kd_find h hl]
  exact ⟨.bl _, H, I.tok _, rfl, q⟩
theorem op_notInKD : OpR X (compareOp .NotIn) (fun x y H Q => ∃ a z kvs, x = .str z ∧ y = .ref a ∧ KDs X.K X.w.params a kvs ∧ Q (.bl (!(valV kvs (.inr z)).isSome)) H) := by
  intro pins s σ H x y v u Q I rx ry ⟨a, z, kvs, e1, e2, h, q⟩
  subst e1 e2
  obtain ⟨t, rfl⟩ := (show ∃ t, v = Value.str z t from rx)
  obtain rfl : u = Value.ref a := ry
  obtain ⟨es, n, hl, low, he⟩ := id h
  have hm := PySem.W.mapOf_K (prog := X.prog) (w := X.w) I.kIn hl (ents_lit he)
  refine wpAny_notIn_of (strKind_is X.prog X.w z t) low hm ?_
  rw [kd_find h hl]
  exact ⟨.bl _, H, I.tok _, rfl, q⟩
theorem op_inDD (hK : X.K = Γ.K) (hP : X.w.params = Γ.P) (hu : X.A.units + 65 < cLine) : OpR X (compareOp .In) (rF2 Γ inD) :=
  in_of (neg := false) hK hu op_in_sign op_in_seq (op_inD hu) (fun pins s σ H x y v u Q I rx ry ⟨a, ov, e, g, q⟩ => by
    subst e
    obtain rfl : u = Value.ref a := ry
    exact d_in (by omega) I g rx fun s' I' => ⟨.bl ov.isSome, H, I', rfl, q⟩) op_inKD hP
theorem op_notInDD (hK : X.K = Γ.K) (hP : X.w.params = Γ.P) (hu : X.A.units + 65 < cLine) : OpR X (compareOp .NotIn) (rF2 Γ notInD) :=
  in_of (neg := true) hK hu op_notIn_sign op_notIn_seq (op_notInD hu) (fun pins s σ H x y v u Q I rx ry ⟨a, ov, e, g, q⟩ => by
    subst e
    obtain rfl : u = Value.ref a := ry
    exact d_notIn (by omega) I g rx fun s' I' => ⟨.bl (!ov.isSome), H, I', rfl, q⟩) op_notInKD hP
end
end Rk

namespace Rk
open PySem PySem.Spec PyProof.Rows L2

/-! ### a[i] -/
def ixK (x : D) (k : Key) (S : Store) : R D := match asDict S x with
  | some kvs => match valD kvs k with
    | some d => .ok d S
    | none => .bad
  | none => .bad
def ixI (x : D) (i : Int) (S : Store) : R D := match asSeq S x with
  | some xs => match atI xs i with
    | some d => .ok d S
    | none => .bad
  | none => ixK x (.inl i) S
def ixZ (z : Str) (i : Int) (S : Store) : R D := if z.length ≤ sizeLine then match atI z.cps.toList i with
    | some c => .ok (.str ⟨#[c]⟩) S
    | none => .bad
    else .bad
def ixD (x y : D) (S : Store) : R D := match y with
  | .int i => match x with
    | .str z => ixZ z i S
    | x => ixI x i S
  | .str z => match x with
    | .kd kvs => match valD kvs (.inr z) with
      | some d => .ok d S
      | none => .bad
    | x => ixK x (.inr z) S
  | _ => .bad
section
variable {Γ : Gm} {X : Cx}
theorem ix_dict (hu : X.A.units + 1 < cLine) : IxR X (fun x y H Q => ∃ a v, x = .ref a ∧ DGet H a y (some v) ∧ Q v H) := by
  intro value slice pins s σ H x y v u Q I rx ry ⟨a, w', e, g, q⟩ hs
  subst e
  obtain rfl : v = Value.ref a := rx
  exact tail_any (ops := [.ref a, u]) (dict_typeIs I g) PySem.F.slot_dict_getitem.lookup (d_getItem hu I g ry fun w2 s3 I3 rw' => ⟨w', H, I3, rw', q⟩) hs
theorem atI_rv {β : Bt} {H : Hp} {vs : List V} {ds : List D} {i : Int} {d : D} (h : RVs Γ β H vs ds) (e : atI ds i = some d) : ∃ v, atI vs i = some v ∧ RV Γ β H v d := by
  unfold atI at e ⊢
  rw [h.length]
  cases hx : ixN ds.length i with
  | none => rw [hx] at e; cases e
  | some j =>
    rw [hx] at e
    obtain ⟨v, h1, h2⟩ := h.get (show ds[j]? = some d from e)
    exact ⟨v, h1, h2⟩
theorem ixK_inv {x : D} {k : Key} {S S' : Store} {d : D} (e : ixK x k S = .ok d S') : ∃ kvs, asDict S x = some kvs ∧ valD kvs k = some d ∧ S' = S := by
  unfold ixK at e
  cases h : asDict S x with
  | none => rw [h] at e; cases e
  | some kvs =>
    rw [h] at e
    cases h2 : valD kvs k with
    | none => simp only [h2] at e; cases e
    | some d' => simp only [h2] at e; cases e; exact ⟨kvs, rfl, h2, rfl⟩
theorem ix_D (hK : X.K = Γ.K) (hP : X.w.params = Γ.P) (hu : X.A.units + 1 < cLine) : IxR X (rF2 Γ ixD) := by
  intro value slice pins s σ H x y v u Q I rx ry ⟨β, S, dx, dy, d, S', r, r1, r2, e, k⟩ hs
  have dict : ∀ kk, keyD dy = some kk → ixK dx kk S = .ok d S' → wpAny (model X.prog X.w) X.A (subscriptTail value slice v u) (EP X pins σ Q) X.xe s := fun kk hk e => by
    obtain ⟨kvs, e1, hd, rfl⟩ := ixK_inv e
    obtain ⟨a, vs, rfl, h, qq⟩ := asDict_of r r1 e1
    cases rv_key r2 hk
    rcases rks_val (k := kk) qq with ⟨z1, z2⟩ | ⟨v', d', z1, z2, z3⟩
    · rw [hd] at z2; cases z2
    · rw [hd] at z2
      cases z2
      exact ix_dict hu value slice pins s σ H _ _ v u Q I rx ry ⟨a, v', rfl, .inl ⟨vs, kk, h, rfl, z1.symm⟩, k.self r z3⟩ hs
  unfold ixD at e
  cases dy <;> simp only at e <;> first | cases e | skip
  · rename_i i
    by_cases hz : ∃ z, dx = .str z
    · obtain ⟨z, rfl⟩ := hz
      simp only [ixZ] at e
      split at e
      · rename_i hz
        split at e
        · rename_i c hc
          cases e
          cases rv_str r1
          cases rv_int r2
          exact ix_str value slice pins s σ H _ _ v u Q I rx ry ⟨_, _, c, rfl, rfl, hz, hc, k.self r (.str _)⟩ hs
        · cases e
      · cases e
    · have e' : ixI dx i S = .ok d S' := by
        cases dx <;> first | exact e | exact absurd ⟨_, rfl⟩ hz
      unfold ixI at e'
      cases hxs : asSeq S dx with
      | none => rw [hxs] at e'; exact dict _ rfl e'
      | some xs =>
        rw [hxs] at e'
        cases hd : atI xs i with
        | none => simp only [hd] at e'; cases e'
        | some d' =>
          simp only [hd] at e'
          cases e'
          obtain ⟨a, vs, rfl, h, qq⟩ := asSeq_of r r1 hxs
          cases rv_int r2
          obtain ⟨w', h1, h2⟩ := atI_rv qq hd
          rcases h with h | h
          · exact ix_list value slice pins s σ H _ _ v u Q I rx ry ⟨a, vs, _, w', rfl, rfl, by rw [hK]; exact h, h1, k.self r h2⟩ hs
          · exact ix_tup value slice pins s σ H _ _ v u Q I rx ry ⟨a, vs, _, w', rfl, rfl, by rw [hK]; exact h, h1, k.self r h2⟩ hs
  · rename_i z
    by_cases hkd : ∃ kvs, dx = .kd kvs
    · obtain ⟨kvs, rfl⟩ := hkd
      simp only at e
      cases hd : valD kvs (.inr z) with
      | none => rw [hd] at e; cases e
      | some d' =>
        rw [hd] at e
        cases e
        cases rv_str r2
        cases r1 with
        | kd h1 q1 =>
          rcases rks_val (k := .inr z) q1 with ⟨z1, z2⟩ | ⟨v', d2, z1, z2, z3⟩
          · rw [hd] at z2; cases z2
          · rw [hd] at z2
            cases z2
            exact ix_kdict value slice pins s σ H _ _ v u Q I rx ry ⟨_, _, v', rfl, rfl, kd_dct (by rw [hK, hP]; exact h1) z1, k.self r z3⟩ hs
    · refine dict _ rfl ?_
      cases dx <;> first | exact e | exact absurd ⟨_, rfl⟩ hkd
variable {a b e : Expr} {fa fb : EvE} {pos p2 : Pos}
theorem pf_ix (hK : X.K = Γ.K) (hP : X.w.params = Γ.P) (hu : X.A.units + 1 < cLine) (ha : PE X a (tF Γ fa)) (hb : PE X b (tF Γ fb)) (hs : PlainIx b := by exact fun _ _ => rfl) : PE X (.Subscript a b pos) (tF Γ (fBin ixD fa fb)) :=
  pe_imp (pe_ix (ix_D hK hP hu) ha hb hs) fun _ _ _ h => tOp_of h

/-! ### a[i:j] -/
abbrev EvO := Env → Store → R (Option Int)
def tFO (Γ : Gm) (f : EvO) : TO := fun σ H Q => ∃ β ds S o S', Rep Γ β ds S σ H ∧ f ds S = .ok o S' ∧ ∀ β' H', Grow β H β' H' → RepSt Γ β' S' H' → Q o H'
def oNone : EvO := fun _ S => .ok none S
def oSome (f : EvE) : EvO := fun ds S => (f ds S).bind fun d S1 => match d with
  | .int i => .ok (some i) S1
  | _ => .bad
theorem po_imp {X : Cx} {e : Option Expr} {t t' : TO} (h : PO X e t) (w : ∀ σ H Q, t' σ H Q → t σ H Q) : PO X e t' := ⟨fun pins s σ H Q I q => h.run pins s σ H Q I (w σ H Q q)⟩
theorem pfo_none : PO X none (tFO Γ oNone) := po_imp po_none fun σ H Q ⟨β, ds, S, o, S', rep, e, k⟩ => by
  cases e
  exact k β H (.refl β H) rep.st
theorem pfo_some (h : PE X e (tF Γ fa)) : PO X (some e) (tFO Γ (oSome fa)) := po_imp (po_some h) fun σ H Q ⟨β, ds, S, o, S', rep, e, k⟩ => by
  obtain ⟨d, S1, e1, e⟩ := R.bind_inv e
  split at e
  · cases e
    exact ⟨β, ds, S, _, _, rep, e1, fun β1 v H1 g r rv => ⟨_, rv_int rv, k β1 H1 g r⟩⟩
  · cases e
def cutD (xs : List D) (lo hi : Option Int) : List D := (xs.drop (HT.sIx xs.length 0 lo)).take (HT.sIx xs.length xs.length hi - HT.sIx xs.length 0 lo)
theorem RVs.cut {β : Bt} {H : Hp} {vs : List V} {ds : List D} (h : RVs Γ β H vs ds) (lo hi : Option Int) : RVs Γ β H (cutV vs lo hi) (cutD ds lo hi) := by
  unfold cutV cutD
  rw [h.length]
  exact (h.drop _).take _
def slD (x : D) (lo hi : Option Int) (S : Store) : R D := match x with
  | .str z => if z.length ≤ sizeLine then .ok (.str (cutS z lo hi)) S else .bad
  | .tup xs => .ok (.tup (cutD xs lo hi)) S
  | x => match asL S x with
    | some xs => .ok (.lst (cutD xs lo hi)) S
    | none => .bad
def fSl (f : EvE) (l h : EvO) : EvE := fun ds S => (f ds S).bind fun x S1 => (l ds S1).bind fun lo S2 => (h ds S2).bind fun hi S3 => slD x lo hi S3
def rFS (Γ : Gm) : V → Option Int → Option Int → Hp → VK → Prop := fun v lo hi H Q => ∃ β S x d S', RepSt Γ β S H ∧ RV Γ β H v x ∧ slD x lo hi S = .ok d S' ∧ K1 Γ β H d S' Q
theorem sl_D (hK : X.K = Γ.K) : SlR X (rFS Γ) := by
  intro pins s σ H x v vl vu lo hi sl Q I rx hs pl pu ⟨β, S, dx, d, S', r, r1, e, k⟩
  unfold slD at e
  split at e
  · split at e
    · rename_i hz
      cases e
      cases rv_str r1
      exact sl_str pins s σ H _ v vl vu lo hi sl Q I rx hs pl pu ⟨_, rfl, hz, k.self r (.str _)⟩
    · cases e
  · cases e
    obtain ⟨a, vs, rfl, h, q⟩ := rv_tup r1
    refine sl_tupA pins s σ H _ v vl vu lo hi sl Q I rx hs pl pu ⟨a, vs, rfl, by rw [hK]; exact h, fun z => ?_, fun z p hp => k.tup r hp (q.cut lo hi)⟩
    refine k.self r (.tup h ?_)
    have e1 := z.1
    have e2 := z.2
    have : cutV vs lo hi = vs := by
      unfold cutV
      rw [e1, e2]
      simp
    have q' := q.cut lo hi
    rw [this] at q'
    exact q'
  · split at e
    · rename_i xs hxs
      cases e
      obtain ⟨a, vs, rfl, h, q⟩ := asL_of r r1 hxs
      exact sl_list pins s σ H _ v vl vu lo hi sl Q I rx hs pl pu ⟨a, vs, rfl, by rw [hK]; exact h, fun p hp => k.lst r hp (q.cut lo hi)⟩
    · cases e
theorem pf_sl {lo hi : Option Expr} {fl fh : EvO} (hK : X.K = Γ.K) (he : PE X e (tF Γ fa)) (hl : PO X lo (tFO Γ fl)) (hh : PO X hi (tFO Γ fh)) : PE X (.Subscript e (.Slice lo hi none p2) pos) (tF Γ (fSl fa fl fh)) :=
  pe_imp (pe_slice (sl_D hK) he hl hh) fun σ H Q ⟨β, ds, S, d, S', rep, e, k⟩ => by
    obtain ⟨x, S1, e1, e⟩ := R.bind_inv e
    obtain ⟨lo, S2, e2, e⟩ := R.bind_inv e
    obtain ⟨hi, S3, e3, e⟩ := R.bind_inv e
    refine ⟨β, ds, S, x, S1, rep, e1, fun β1 v H1 g1 r1 rv => ⟨β1, ds, S1, lo, S2, rep.go g1 r1, e2, fun β2 H2 g2 r2 => ⟨β2, ds, S2, hi, S3, ?_, e3, fun β3 H3 g3 r3 => ?_⟩⟩⟩
    · exact ⟨r2, (rep.env.mono g1).mono g2⟩
    · exact ⟨β3, S3, x, d, S', r3, (rv.mono g2).mono g3, e, k.from ((g1.trans g2).trans g3)⟩

/-! ### a[::-1] -/
def revD (x : D) (S : Store) : R D := match x with
  | .tup xs => .ok (.tup xs.reverse) S
  | x => match asL S x with
    | some xs => .ok (.lst xs.reverse) S
    | none => .bad
end
theorem adjust_rev (n : Nat) : Builtin.Slice.sliceAdjust none none (-1) (n : Int) = ((n : Int) - 1, -1) := by
  simp [Builtin.Slice.sliceAdjust]
theorem places_rev (n : Nat) : Builtin.Slice.slicePlaces ((n : Int) - 1) (-1) (-1) = n := by
  simp [Builtin.Slice.slicePlaces]
  omega
section
variable {prog : Program} {w : World} {A : Around} {E : Value → Shared → Prop} {s : Shared}
theorem sliceApplied_rev {sl : Addr} {vl vu vs : Value} {n : Nat} {Q : Int × Int × Nat → Shared → Prop} (hs : s.heap.IsSliceOf sl vl vu vs) (pl : IsPart vl none) (pu : IsPart vu none) (ps : IsPart vs (some (-1)))
    (h : Q ((n : Int) - 1, -1, n) s) : wpAny (model prog w) A (Builtin.Slice.sliceApplied (.ref sl) (pure (n : Int))) Q E s := by
  obtain ⟨os, hos, hcs, hds⟩ := id hs
  unfold Builtin.Slice.sliceApplied Builtin.Slice.sliceFields
  refine wpAny_bind (wpAny_bind (wpAny_field hos hds (x := vl) rfl (wpAny_bind (wpAny_field hos hds (x := vu) rfl (wpAny_bind (wpAny_field hos hds (x := vs) rfl (wpAny_pure ?_)))))))
  refine wpAny_bind (HT.slicePart_ ps ?_)
  show wpAny _ _ (if ((-1 : Int) == 0) = true then _ else _) _ _ s
  rw [if_neg (by decide)]
  refine wpAny_bind (HT.slicePart_ pl (wpAny_bind (HT.slicePart_ pu (wpAny_bind (wpAny_pure ?_)))))
  show wpAny _ _ (match Builtin.Slice.sliceAdjust none none (-1) (n : Int) with | (lo, hi) => pure (lo, (-1 : Int), Builtin.Slice.slicePlaces lo hi (-1))) _ _ s
  rw [adjust_rev n]
  show wpAny _ _ (pure ((n : Int) - 1, (-1 : Int), Builtin.Slice.slicePlaces ((n : Int) - 1) (-1) (-1))) _ _ s
  rw [places_rev]
  exact wpAny_pure h
theorem pick_rev (xs : Array Value) : ((List.range xs.size).filterMap fun (m : Nat) => xs[(((xs.size : Nat) : Int) - 1 + (m : Int) * -1).toNat]?).toArray = xs.toList.reverse.toArray := by
  congr 1
  have e : ∀ n, n ≤ xs.size → (List.range n).filterMap (fun (m : Nat) => xs[(((xs.size : Nat) : Int) - 1 + (m : Int) * -1).toNat]?) = (xs.toList.reverse).take n := by
    intro n
    induction n with
    | zero => intro _; simp
    | succ n ih =>
      intro hn
      rw [List.range_succ, List.filterMap_append, ih (by omega)]
      have e1 : (((xs.size : Nat) : Int) - 1 + (n : Int) * -1).toNat = xs.size - 1 - n := by omega
      have e2 : xs[xs.size - 1 - n]? = some xs[xs.size - 1 - n] := Array.getElem?_eq_getElem (by omega)
      have e3 : xs.toList.reverse[n]? = some xs[xs.size - 1 - n] := by
        rw [List.getElem?_reverse (by rw [Array.length_toList]; omega)]
        rw [Array.length_toList]
        simpa using e2
      rw [List.take_succ, e3, List.filterMap_cons, List.filterMap_nil, e1, e2]
      rfl
  rw [e xs.size (Nat.le_refl _)]
  rw [List.take_of_length_le (by simp)]
theorem getItem_tuple_rev {t sl : Addr} {items : Array Value} {vl vu vs : Value} {Q : Value → Shared → Prop} (ht : IsTup s.heap t items) (hs : s.heap.IsSliceOf sl vl vu vs) (pl : IsPart vl none) (pu : IsPart vu none) (ps : IsPart vs (some (-1)))
    (h : Q (.ref s.heap.objs.size) { s with heap := s.heap.push { cls := .type "tuple", data := .seq items.toList.reverse.toArray } })
    (hsz : items.size ≤ sizeLine) : wpAny (model prog w) A (getItem (.ref t) (.ref sl)) Q E s := by
  have htake : sizeOk (.seq items.toList.reverse.toArray) := by
    show items.toList.reverse.toArray.size ≤ sizeLine
    simpa using hsz
  obtain ⟨os, hos, hcs, hds⟩ := id hs
  have hTs : s.TypeIs (.ref sl) "slice" := ⟨os, hos, hcs⟩
  unfold getItem
  try with_reducible refine wpAny_holding ?_
  first | refine wpAny_bind (wpAny_pure ?_) | skip
  refine wpAny_bind (wpAny_sequenceKey ht.typeIs (by decide) ?_)
  refine wpAny_bind (wpAny_callSpecial?_slot (name := Str.ofString "__getitem__") ht.typeIs PyProof.Rows.slot_tuple_getitem
    (wpAny_call_entry PyProof.Rows.slot_tuple_getitem ht.typeIs entry_tuple_getitem ?_ (args_tuple_getitem _ _)))
  show wpAny _ _ (Builtin.Tuple.tupleItemsOf (.ref t) >>= _) _ _ s
  refine wpAny_bind (tupleItemsOf_ ht ?_)
  refine wpAny_bind (wpAny_typeOf hTs ?_)
  rw [if_pos (by decide)]
  refine wpAny_bind (sliceApplied_rev hs pl pu ps ?_)
  have hno : ¬ ((((items.size : Nat) : Int) - 1 == 0 && (-1 : Int) == 1 && items.size == items.size) = true) := by
    intro q
    rw [Bool.and_eq_true, Bool.and_eq_true] at q
    exact absurd (eq_of_beq q.1.2) (by decide)
  show wpAny _ _ (if (((items.size : Nat) : Int) - 1 == 0 && (-1 : Int) == 1 && items.size == items.size) = true then _ else _) _ _ s
  rw [if_neg hno, pick_rev]
  first
    | exact wpAny_bind (m := Builtin.Tuple.tupleExact _) (wpAny_newObj_type (wpAny_pure ⟨_, rfl, wpAny_pure h⟩) htake)
    | exact wpAny_bind (m := Builtin.Tuple.tupleExact _) (wpAny_newObj_type (wpAny_bind (wpAny_pure (wpAny_pure ⟨_, rfl, wpAny_pure h⟩))) htake)
    | exact wpAny_bind (wpAny_bind (m := Builtin.Tuple.tupleExact _) (wpAny_newObj_type (wpAny_pure (wpAny_pure ⟨_, rfl, wpAny_pure h⟩)) htake))
    | exact wpAny_bind (wpAny_bind (m := Builtin.Tuple.tupleExact _) (wpAny_newObj_type (wpAny_pure ⟨_, rfl, wpAny_pure h⟩) htake))
end
section
variable {Γ : Gm} {X : Cx} {e : Expr} {f : EvE}
theorem pf_rev {k : Nat} {p1 p2 p3 pos : Pos} (hK : X.K = Γ.K) (he : PE X e (tF Γ f)) : PE X (.Subscript e (.Slice none none (some (.UnaryOp .USub (.Constant (.int 1) k p1) p2)) p3) pos) (tF Γ (fUn revD f)) := by
  refine ⟨fun pins s σ H Q I ⟨β, ds, S, d, S', rep, ee, kk⟩ => ?_⟩
  obtain ⟨x, S1, e1, ee⟩ := R.bind_inv ee
  refine Subscript_ (thn (he.run pins s σ H (fun v H1 => ∃ β1, RepSt Γ β1 S1 H1 ∧ RV Γ β1 H1 v x ∧ Grow β H β1 H1 ∧ True) I ⟨β, ds, S, x, S1, rep, e1, fun β1 v H1 g1 r1 rv => ⟨β1, r1, rv, g1, (trivial : True)⟩⟩) fun v s1 ⟨vx, H1, I1, rr, q1⟩ => ?_)
  obtain ⟨β1, r1, rv, g1, _⟩ := q1
  have hst : PO X (some (.UnaryOp .USub (.Constant (.int 1) k p1) p2)) (tPart (tUn (rU fun i => .int (-i)) (tC (.int 1)))) := po_some (pe_un un_neg pe_int)
  refine wpAny_Slice (thn (po_none.run pins s1 σ H1 (fun o H2 => o = none ∧ H2 = H1) I1 ⟨rfl, rfl⟩) fun vl s2 ⟨l, H2, I2, pl, el, e2⟩ => ?_)
  subst el e2
  refine thn (po_none.run pins s2 σ H2 (fun o H3 => o = none ∧ H3 = H2) I2 ⟨rfl, rfl⟩) fun vu s3 ⟨u, H3, I3, pu, eu, e3⟩ => ?_
  subst eu e3
  refine thn (hst.run pins s3 σ H3 (fun o H4 => o = some (-1) ∧ H4 = H3) I3 ⟨1, rfl, -1, rfl, rfl, rfl⟩) fun vs s4 ⟨o, H4, I4, ps, eo, e4⟩ => ?_
  subst eo e4
  have I5 : Inv X pins σ H4 { s4 with heap := s4.heap.push { cls := .type "slice", data := .fields #[vl, vu, vs] } } := I4.kept (t' := s4.toks) fun b ob q => Heap.get?_push_of_some _ q
  unfold revD at ee
  split at ee
  · cases ee
    obtain ⟨a, ws, rfl, h, q⟩ := rv_tup rv
    cases rr
    obtain ⟨its, r, ht, hz⟩ := I5.tuple (by rw [hK]; exact h)
    have hlen := r.length
    show wpAny (model X.prog X.w) X.A (subscriptTail e (.Slice none none (some (.UnaryOp .USub (.Constant (.int 1) k p1) p2)) p3) (.ref a) (.ref s4.heap.objs.size)) (EP X pins σ Q) X.xe { s4 with heap := s4.heap.push { cls := .type "slice", data := .fields #[vl, vu, vs] } }
    refine tail_any (ops := [.ref a, .ref s4.heap.objs.size]) ht.typeIs (PyProof.Rows.slot_tuple_getitem.lookup) ?_ (by with_unfolding_all rfl)
    refine getItem_tuple_rev ht (Heap.IsSliceOf.new _ vl vu vs) pl pu ps ?_ (by rw [List.size_toArray]; omega)
    refine ⟨.ref _, _, I5.laid (t' := s4.toks) (o := .tup ws.reverse) (fun b ob q => Heap.get?_push_of_some _ q) (Nat.le_refl _) ?_, rfl, (kk.from g1).tup r1 (I5.hok.fresh (Nat.le_refl _)) q.reverse⟩
    refine ⟨by rw [List.length_reverse]; exact hz, _, r.reverse, ?_⟩
    have := IsTup.new (s4.heap.push { cls := .type "slice", data := .fields #[vl, vu, vs] }) its.reverse.toArray
    simpa using this
  · split at ee
    · rename_i xs hxs
      cases ee
      obtain ⟨a, ws, rfl, h, q⟩ := asL_of r1 rv hxs
      cases rr
      obtain ⟨its, r, ht, hz⟩ := I5.list (by rw [hK]; exact h)
      have hlen := r.length
      show wpAny (model X.prog X.w) X.A (subscriptTail e (.Slice none none (some (.UnaryOp .USub (.Constant (.int 1) k p1) p2)) p3) (.ref a) (.ref s4.heap.objs.size)) (EP X pins σ Q) X.xe { s4 with heap := s4.heap.push { cls := .type "slice", data := .fields #[vl, vu, vs] } }
      refine tail_any (ops := [.ref a, .ref s4.heap.objs.size]) ht.isList.typeIs (PySem.slot_list_getitem.lookup) ?_ (by with_unfolding_all rfl)
      refine wpAny_getItem_list_slice ht.isList (Heap.IsSliceOf.new _ vl vu vs) pl pu ps (by decide) ?_ (by rw [List.size_toArray]; omega)
      rw [PySem.W.krv_pick]
      refine ⟨.ref _, _, I5.laid (t' := s4.toks) (o := .lst ws.reverse) (fun b ob q => Heap.get?_push_of_some _ q) (Nat.le_refl _) ?_, rfl, (kk.from g1).lst r1 (I5.hok.fresh (Nat.le_refl _)) q.reverse⟩
      exact ⟨by rw [List.length_reverse]; exact hz, _, 0, r.reverse, Heap.get?_push_size _ rfl⟩
    · cases ee
end
end Rk

namespace Rk
open PySem PySem.Spec PyProof.Rows L2

/-! ### what a def hands back -/
mutual
/-- it names none of the store's things from k on -/
def D.lw (k : Nat) : D → Bool
  | .ref n => decide (n < k)
  | .tup xs => Ds.lw k xs
  | .lst xs => Ds.lw k xs
  | .rol xs => Ds.lw k xs
  | .dct xs => Ks.lw k xs
  | .kd xs => Ks.lw k xs
  | _ => true
def Ds.lw (k : Nat) : List D → Bool
  | [] => true
  | d :: ds => D.lw k d && Ds.lw k ds
def Ks.lw (k : Nat) : List (Key × D) → Bool
  | [] => true
  | (_, d) :: ds => D.lw k d && Ks.lw k ds
end
def C.lw (k : Nat) : C → Bool
  | .lst xs => Ds.lw k xs
  | .dct xs => Ks.lw k xs
  | .ins _ fs => Ds.lw k (fs.map (·.2))
section
variable {Γ : Gm} {β β' : Bt} {H : Hp} {k : Nat}
mutual
theorem RV.down (hk : ∀ (n : Nat) (a : Addr), n < k → β.c[n]? = some a → β'.c[n]? = some a) (hs : ∀ a, β.out a → β'.out a) : ∀ {v : V} {d : D}, RV Γ β H v d → d.lw k = true → RV Γ β' H v d
  | _, _, .non, _ => .non
  | _, _, .bl b, _ => .bl b
  | _, _, .int i, _ => .int i
  | _, _, .str x, _ => .str x
  | _, _, .tup h r, e => .tup h (RVs.down hk hs r (by simpa [D.lw] using e))
  | _, _, .lst n h r, e => .lst (hs _ n) h (RVs.down hk hs r (by simpa [D.lw] using e))
  | _, _, .rol n h r, e => .rol (hs _ n) h (RVs.down hk hs r (by simpa [D.lw] using e))
  | _, _, .rolK h r, e => .rolK h (RVs.down hk hs r (by simpa [D.lw] using e))
  | _, _, .dct n h r, e => .dct (hs _ n) h (RKs.down hk hs r (by simpa [D.lw] using e))
  | _, _, .kd h r, e => .kd h (RKs.down hk hs r (by simpa [D.lw] using e))
  | _, _, .ref h, e => .ref (hk _ _ (by simpa [D.lw] using e) h)
  | _, _, .fn k, _ => .fn k
  | _, _, .ty n, _ => .ty n
theorem RVs.down (hk : ∀ (n : Nat) (a : Addr), n < k → β.c[n]? = some a → β'.c[n]? = some a) (hs : ∀ a, β.out a → β'.out a) : ∀ {vs : List V} {ds : List D}, RVs Γ β H vs ds → Ds.lw k ds = true → RVs Γ β' H vs ds
  | _, _, .nil, _ => .nil
  | _, _, .cons h r, e => .cons (RV.down hk hs h (by simp [Ds.lw] at e; exact e.1)) (RVs.down hk hs r (by simp [Ds.lw] at e; exact e.2))
theorem RKs.down (hk : ∀ (n : Nat) (a : Addr), n < k → β.c[n]? = some a → β'.c[n]? = some a) (hs : ∀ a, β.out a → β'.out a) : ∀ {vs : List (Key × V)} {ds : List (Key × D)}, RKs Γ β H vs ds → Ks.lw k ds = true → RKs Γ β' H vs ds
  | _, _, .nil, _ => .nil
  | _, _, .cons h r, e => .cons (RV.down hk hs h (by simp [Ks.lw] at e; exact e.1)) (RKs.down hk hs r (by simp [Ks.lw] at e; exact e.2))
end
mutual
theorem RV.low : ∀ {v : V} {d : D}, RV Γ β H v d → d.lw β.c.length = true
  | _, _, .non => rfl
  | _, _, .bl b => rfl
  | _, _, .int i => rfl
  | _, _, .str x => rfl
  | _, _, .tup h r => by simpa [D.lw] using RVs.low r
  | _, _, .lst n h r => by simpa [D.lw] using RVs.low r
  | _, _, .rol n h r => by simpa [D.lw] using RVs.low r
  | _, _, .rolK h r => by simpa [D.lw] using RVs.low r
  | _, _, .dct n h r => by simpa [D.lw] using RKs.low r
  | _, _, .kd h r => by simpa [D.lw] using RKs.low r
  | _, _, .ref h => by simpa [D.lw] using (List.getElem?_eq_some_iff.mp h).1
  | _, _, .fn k => rfl
  | _, _, .ty n => rfl
theorem RVs.low : ∀ {vs : List V} {ds : List D}, RVs Γ β H vs ds → Ds.lw β.c.length ds = true
  | _, _, .nil => rfl
  | _, _, .cons h r => by simp [Ds.lw, RV.low h, RVs.low r]
theorem RKs.low : ∀ {vs : List (Key × V)} {ds : List (Key × D)}, RKs Γ β H vs ds → Ks.lw β.c.length ds = true
  | _, _, .nil => rfl
  | _, _, .cons h r => by simp [Ks.lw, RV.low h, RKs.low r]
end
theorem CellAt.low {a : Addr} {c : C} (h : CellAt Γ β H a c) : c.lw β.c.length = true := by
  cases c with
  | lst xs => obtain ⟨vs, _, q⟩ := h; exact q.low
  | dct xs => obtain ⟨vs, _, q⟩ := h; exact q.low
  | ins c fs => obtain ⟨dx, vs, _, _, _, q⟩ := h; exact q.low
theorem CellAt.down (hk : ∀ (n : Nat) (a : Addr), n < k → β.c[n]? = some a → β'.c[n]? = some a) (hs : ∀ a, β.out a → β'.out a) {a : Addr} {c : C} (h : CellAt Γ β H a c) (e : c.lw k = true) : CellAt Γ β' H a c := by
  cases c with
  | lst xs => obtain ⟨vs, h1, q⟩ := h; exact ⟨vs, h1, q.down hk hs e⟩
  | dct xs => obtain ⟨vs, h1, q⟩ := h; exact ⟨vs, h1, q.down hk hs e⟩
  | ins c fs => obtain ⟨dx, vs, h1, h2, h3, q⟩ := h; exact ⟨dx, vs, h1, h2, h3, q.down hk hs e⟩
theorem RepSt.low {S : Store} (r : RepSt Γ β S H) {n : Nat} {c : C} (h : S[n]? = some c) : c.lw S.length = true := by
  have hl : n < β.c.length := by rw [← r.len]; exact (List.getElem?_eq_some_iff.mp h).1
  rw [r.len]
  exact (r.at' n _ c (List.getElem?_eq_getElem hl) h).low
end
/-- the store behind a call: what was made and isn't handed back is forgotten -/
def Cut (S S' : Store) : Prop := S.length ≤ S'.length ∧ ∀ n, n < S.length → S'[n]? = S[n]? ∨ ∀ c, S'[n]? = some c → c.lw S.length = true
open Classical in
noncomputable def fin (keep : Bool) (S : Store) (d : D) (S' : Store) : R D :=
  if Cut S S' then
    if d.lw S.length = true then .ok d (S'.take S.length)
    else match d with
      | .ref m => match S'[m]? with
        | some (.lst xs) => if Ds.lw S.length xs = true then (if keep then .ok (.ref S.length) (S'.take S.length ++ [.lst xs]) else .ok (.lst xs) (S'.take S.length)) else .ok d S'
        | some (.dct xs) => if Ks.lw S.length xs = true then (if keep then .ok (.ref S.length) (S'.take S.length ++ [.dct xs]) else .ok (.dct xs) (S'.take S.length)) else .ok d S'
        | some (.ins c fs) => if Ds.lw S.length (fs.map (·.2)) = true then .ok (.ref S.length) (S'.take S.length ++ [.ins c fs]) else .ok d S'
        | none => .ok d S'
      | _ => .ok d S'
  else .ok d S'
section
variable {Γ : Gm} {β β1 : Bt} {H H1 : Hp} {S S' S2 : Store} {v : V} {d d2 : D} {keep : Bool}
theorem grow_cut (g : Grow β H β1 H1) : Grow β H β H1 := ⟨⟨[], by simp⟩, rfl, g.zk, g.tup, fun a o t n h => ⟨(g.frz a o t n h).1, n⟩, g.lst, g.fz, g.ow, g.co⟩
theorem pre_dn (g : Grow β H β1 H1) : (∀ (n : Nat) (a : Addr), n < β.c.length → β1.c[n]? = some a → β.c[n]? = some a) ∧ ∀ a, β1.out a → β.out a := by
  obtain ⟨l, e⟩ := g.pre
  refine ⟨fun n a hn h => by rw [e, List.getElem?_append_left hn] at h; exact h, fun a h => ⟨fun z => h.1 (by rw [e]; exact List.mem_append_left _ z), fun z => h.2 (by rw [g.ze]; exact z)⟩⟩
theorem pre_dn1 (g : Grow β H β1 H1) {b : Addr} (hb : b ∈ β1.c) : (∀ (n : Nat) (a : Addr), n < β.c.length → β1.c[n]? = some a → (β.snoc b).c[n]? = some a) ∧ ∀ a, β1.out a → (β.snoc b).out a := by
  obtain ⟨l, e⟩ := g.pre
  refine ⟨fun n a hn h => ?_, fun a h => ⟨fun z => ?_, fun z => h.2 (by rw [g.ze]; exact z)⟩⟩
  · show (β.c ++ [b])[n]? = some a
    rw [e, List.getElem?_append_left hn] at h
    rw [List.getElem?_append_left hn]
    exact h
  · have z : a ∈ β.c ++ [b] := z
    rcases List.mem_append.mp z with z | z
    · exact h.1 (by rw [e]; exact List.mem_append_left _ z)
    · have : a = b := by simpa using z
      subst this
      exact h.1 hb
/-- the cells that are left, as they stand behind -/
theorem cut_low (r : RepSt Γ β S H) (c : Cut S S') {n : Nat} {cc : C} (hn : n < S.length) (e : S'[n]? = some cc) : cc.lw β.c.length = true := by
  rw [← r.len]
  rcases c.2 n hn with z | z
  · rw [e] at z
    exact r.low z.symm
  · exact z cc e
theorem rep_cut (r : RepSt Γ β S H) (g : Grow β H β1 H1) (r1 : RepSt Γ β1 S' H1) (c : Cut S S') : RepSt Γ β (S'.take S.length) H1 := by
  refine ⟨by rw [List.length_take, Nat.min_eq_left c.1, r.len], r.nd, fun n a cc h1 h2 => ?_, fun a ha => ⟨by rw [g.zk a ha]; exact (r.zt a ha).1, (r.zt a ha).2⟩, r1.tb⟩
  have hn : n < S.length := by rw [r.len]; exact (List.getElem?_eq_some_iff.mp h1).1
  have e : S'[n]? = some cc := by rw [List.getElem?_take_of_lt hn] at h2; exact h2
  exact (r1.at' n a cc (g.get h1) e).down (pre_dn g).1 (pre_dn g).2 (cut_low r c hn e)
theorem fin_sound (r : RepSt Γ β S H) (g : Grow β H β1 H1) (r1 : RepSt Γ β1 S' H1) (rv : RV Γ β1 H1 v d) (e : fin keep S d S' = .ok d2 S2) : ∃ β2, Grow β H β2 H1 ∧ RepSt Γ β2 S2 H1 ∧ RV Γ β2 H1 v d2 := by
  have raw : R.ok d S' = .ok d2 S2 → ∃ β2, Grow β H β2 H1 ∧ RepSt Γ β2 S2 H1 ∧ RV Γ β2 H1 v d2 := fun e => by
    cases e
    exact ⟨β1, g, r1, rv⟩
  unfold fin at e
  split at e
  · rename_i hc
    have rc := rep_cut r g r1 hc
    have gc := grow_cut g
    split at e
    · rename_i hb
      cases e
      exact ⟨β, gc, rc, rv.down (pre_dn g).1 (pre_dn g).2 (by rw [← r.len]; exact hb)⟩
    · rename_i hb
      split at e
      · rename_i m
        cases rv
        rename_i a ha
        have hm : β.c.length ≤ m := by
          rw [← r.len]
          simpa [D.lw] using hb
        have ham := List.mem_of_getElem? ha
        have hna : a ∉ β.c := fun z => by
          obtain ⟨j, hj⟩ := List.getElem?_of_mem z
          have hjl := (List.getElem?_eq_some_iff.mp hj).1
          have h2 := g.get hj
          obtain ⟨l1, e1⟩ := List.getElem?_eq_some_iff.mp ha
          obtain ⟨l2, e2⟩ := List.getElem?_eq_some_iff.mp h2
          have := (List.getElem_inj r1.nd).mp (e1.trans e2.symm)
          omega
        have hnz : a ∉ β.z := fun z => (r1.zt a (by rw [g.ze]; exact z)).2 ham
        have hl : (S'.take S.length).length = β.c.length := rc.len
        have keepIt : ∀ c : C, S'[m]? = some c → c.lw S.length = true → ∃ β2, Grow β H β2 H1 ∧ RepSt Γ β2 (S'.take S.length ++ [c]) H1 ∧ RV Γ β2 H1 (.ref a) (.ref S.length) := fun c hcm hlw => by
          have hca := r1.cellOf ha hcm
          rw [r.len] at hlw
          refine ⟨β.snoc a, ⟨⟨[a], rfl⟩, rfl, g.zk, g.tup, fun b o t n h => ⟨(g.frz b o t n h).1, ?_, n.2⟩, g.lst, g.fz, g.ow, g.co⟩, ⟨by rw [List.length_append, hl]; simp [Bt.snoc], ?_, fun n b cc h1 h2 => ?_, fun b hb => ?_, r1.tb⟩, .ref ?_⟩
          · show b ∉ β.c ++ [a]
            simp only [List.mem_append, List.mem_singleton, not_or]
            refine ⟨n.1, fun z => (g.frz b o t n h).2.1 ?_⟩
            rw [z]
            exact ham
          · show (β.c ++ [a]).Nodup
            rw [List.nodup_append]
            refine ⟨r.nd, by simp, fun x hx y hy => ?_⟩
            have : y = a := by simpa using hy
            subst this
            exact fun e => hna (e ▸ hx)
          · have h1 : (β.c ++ [a])[n]? = some b := h1
            by_cases hn : n < β.c.length
            · rw [List.getElem?_append_left hn] at h1
              rw [List.getElem?_append_left (by rw [hl]; exact hn)] at h2
              have hn' : n < S.length := by rw [r.len]; exact hn
              have e : S'[n]? = some cc := by rw [List.getElem?_take_of_lt hn'] at h2; exact h2
              exact (r1.at' n b cc (g.get h1) e).down (pre_dn1 g ham).1 (pre_dn1 g ham).2 (cut_low r hc hn' e)
            · have hn' : n = β.c.length := by
                have := (List.getElem?_eq_some_iff.mp h1).1
                simp at this; omega
              subst hn'
              have e1 : b = a := by simpa using h1.symm
              have e2 : cc = c := by rw [← hl] at h2; simpa using h2.symm
              subst e1 e2
              exact hca.down (pre_dn1 g ham).1 (pre_dn1 g ham).2 hlw
          · have hz : b ∈ β.z := hb
            refine ⟨by rw [g.zk b hz]; exact (r.zt b hz).1, ?_⟩
            show b ∉ β.c ++ [a]
            simp only [List.mem_append, List.mem_singleton, not_or]
            exact ⟨(r.zt b hz).2, fun z => hnz (by rw [← z]; exact hz)⟩
          · show (β.c ++ [a])[S.length]? = some a
            rw [r.len]; simp
        cases hs : S'[m]? with
        | none => simp only [hs] at e; exact raw e
        | some c =>
          simp only [hs] at e
          cases c with
          | lst xs =>
            simp only at e
            split at e
            · rename_i hx
              obtain ⟨vs, h1, q⟩ := r1.cellOf ha hs
              split at e
              · cases e
                exact keepIt (.lst xs) hs hx
              · cases e
                exact ⟨β, gc, rc, .lst ⟨hna, hnz⟩ h1 (q.down (pre_dn g).1 (pre_dn g).2 (by rw [← r.len]; exact hx))⟩
            · exact raw e
          | dct xs =>
            simp only at e
            split at e
            · rename_i hx
              obtain ⟨vs, h1, q⟩ := r1.cellOf ha hs
              split at e
              · cases e
                exact keepIt (.dct xs) hs hx
              · cases e
                exact ⟨β, gc, rc, .dct ⟨hna, hnz⟩ (.inl h1) (q.down (pre_dn g).1 (pre_dn g).2 (by rw [← r.len]; exact hx))⟩
            · exact raw e
          | ins cl fs =>
            simp only at e
            split at e
            · rename_i hx
              cases e
              exact keepIt (.ins cl fs) hs hx
            · exact raw e
      · exact raw e
  · exact raw e
end
end Rk

namespace Rk
open PySem PySem.Spec PyProof.Rows L2

inductive RS where
  | nx (ds : Env) (S : Store) | rt (d : D) (S : Store) | bk (ds : Env) (S : Store) | ct (ds : Env) (S : Store) | bad
abbrev EvS := Env → Store → RS
def R.go {α : Type} : R α → (α → Store → RS) → RS
  | .ok a S, f => f a S
  | .bad, _ => .bad
@[simp] theorem R.go_ok {α : Type} (a : α) (S : Store) (f : α → Store → RS) : (R.ok a S).go f = f a S := rfl
@[simp] theorem R.go_bad {α : Type} (f : α → Store → RS) : (R.bad : R α).go f = .bad := rfl
def RS.then : RS → (Env → Store → RS) → RS
  | .nx ds S, f => f ds S
  | r, _ => r
@[simp] theorem RS.then_nx (ds : Env) (S : Store) (f : EvS) : (RS.nx ds S).then f = f ds S := rfl
@[simp] theorem RS.then_rt (d : D) (S : Store) (f : EvS) : (RS.rt d S).then f = .rt d S := rfl
@[simp] theorem RS.then_bk (ds : Env) (S : Store) (f : EvS) : (RS.bk ds S).then f = .bk ds S := rfl
@[simp] theorem RS.then_ct (ds : Env) (S : Store) (f : EvS) : (RS.ct ds S).then f = .ct ds S := rfl
@[simp] theorem RS.then_bad (f : EvS) : (RS.bad).then f = .bad := rfl
/-- what is wanted behind a statement -/
def After (Γ : Gm) (β : Bt) (H : Hp) (D : Ends) : RS → Prop
  | .nx ds S => ∀ β' σ' H', Grow β H β' H' → Rep Γ β' ds S σ' H' → D.nx σ' H'
  | .rt d S => K1 Γ β H d S D.rt
  | .bk ds S => ∀ β' σ' H', Grow β H β' H' → Rep Γ β' ds S σ' H' → D.bk σ' H'
  | .ct ds S => ∀ β' σ' H', Grow β H β' H' → Rep Γ β' ds S σ' H' → D.ct σ' H'
  | .bad => False
def tFS (Γ : Gm) (f : EvS) : TS := fun D σ H => ∃ β ds S, Rep Γ β ds S σ H ∧ After Γ β H D (f ds S)
section
variable {Γ : Gm} {X : Cx} {β β1 : Bt} {H H1 : Hp} {En : Ends}
theorem After.from (g : Grow β H β1 H1) : ∀ {r : RS}, After Γ β H En r → After Γ β1 H1 En r
  | .nx ds S, h => fun β' σ' H' g' r => h β' σ' H' (g.trans g') r
  | .rt d S, h => K1.from h g
  | .bk ds S, h => fun β' σ' H' g' r => h β' σ' H' (g.trans g') r
  | .ct ds S, h => fun β' σ' H' g' r => h β' σ' H' (g.trans g') r
  | .bad, h => h
theorem go_inv {α : Type} {r : R α} {f : α → Store → RS} (h : After Γ β H En (r.go f)) : ∃ a S, r = .ok a S ∧ After Γ β H En (f a S) := by
  cases r with
  | ok a S => exact ⟨a, S, rfl, h⟩
  | bad => exact h.elim
theorem ps_imp {st : Stmt} {t t' : TS} (h : PS X st t) (w : ∀ D σ H, t' D σ H → t D σ H) : PS X st t' := ⟨fun pins s σ H D I q => h.run pins s σ H D I (w D σ H q)⟩
theorem pss_imp {st : List Stmt} {t t' : TS} (h : PSs X st t) (w : ∀ D σ H, t' D σ H → t D σ H) : PSs X st t' := ⟨fun pins s σ H D I q => h.run pins s σ H D I (w D σ H q)⟩
variable {st : Stmt} {rest : List Stmt} {f g : EvS} {e : Expr} {fe : EvE} {pos : Pos}
def sNil : EvS := fun ds S => .nx ds S
def sSeq (f g : EvS) : EvS := fun ds S => (f ds S).then g
theorem pfs_nil : PSs X [] (tFS Γ sNil) := pss_imp pss_nil fun D σ H ⟨β, ds, S, rep, h⟩ => h β σ H (.refl β H) rep
theorem pfs_cons (h1 : PS X st (tFS Γ f)) (h2 : PSs X rest (tFS Γ g)) : PSs X (st :: rest) (tFS Γ (sSeq f g)) := by
  refine pss_imp (pss_cons h1 h2) fun D σ H ⟨β, ds, S, rep, h⟩ => ?_
  refine ⟨β, ds, S, rep, ?_⟩
  unfold sSeq at h
  cases hf : f ds S with
  | nx ds1 S1 =>
    rw [hf] at h
    exact fun β' σ' H' g' r => ⟨β', ds1, S1, r, After.from g' h⟩
  | rt d S1 => rw [hf] at h; exact h
  | bk ds1 S1 => rw [hf] at h; exact h
  | ct ds1 S1 => rw [hf] at h; exact h
  | bad => rw [hf] at h; exact h
theorem pfs_one (h1 : PS X st (tFS Γ f)) : PSs X [st] (tFS Γ f) := pss_one h1
def sBrk : EvS := fun ds S => .bk ds S
def sCnt : EvS := fun ds S => .ct ds S
theorem pf_break : PS X (.Break pos) (tFS Γ sBrk) := ps_imp ps_break fun D σ H ⟨β, ds, S, rep, h⟩ => h β σ H (.refl β H) rep
theorem pf_continue : PS X (.Continue pos) (tFS Γ sCnt) := ps_imp ps_continue fun D σ H ⟨β, ds, S, rep, h⟩ => h β σ H (.refl β H) rep
theorem pf_pass : PS X (.Pass pos) (tFS Γ sNil) := ps_imp ps_pass fun D σ H ⟨β, ds, S, rep, h⟩ => h β σ H (.refl β H) rep
/-- a statement that is not come to -/
def sBad : EvS := fun _ _ => .bad
theorem pf_never : PS X st (tFS Γ sBad) := ps_imp ps_never fun D σ H ⟨β, ds, S, rep, h⟩ => h
def sExpr (fe : EvE) : EvS := fun ds S => (fe ds S).go fun _ S1 => .nx ds S1
theorem pf_expr (he : PE X e (tF Γ fe)) (hs : swapsWith e none pos.line X.env = pure false := by rfl) : PS X (.Expr e pos) (tFS Γ (sExpr fe)) :=
  ps_imp (ps_expr he hs) fun D σ H ⟨β, ds, S, rep, h⟩ => by
    obtain ⟨d, S1, e1, h⟩ := go_inv h
    exact ⟨β, ds, S, d, S1, rep, e1, fun β1 v H1 g r rv => h β1 σ H1 g (rep.go g r)⟩
def sRet (fe : EvE) : EvS := fun ds S => (fe ds S).go fun d S1 => .rt d S1
theorem pf_ret (he : PE X e (tF Γ fe)) : PS X (.Return (some e) pos) (tFS Γ (sRet fe)) :=
  ps_imp (ps_ret he) fun D σ H ⟨β, ds, S, rep, h⟩ => by
    obtain ⟨d, S1, e1, h⟩ := go_inv h
    exact ⟨β, ds, S, d, S1, rep, e1, h⟩
def sRetN : EvS := fun _ S => .rt .non S
theorem pf_retN : PS X (.Return none pos) (tFS Γ sRetN) := ps_imp ps_retN fun D σ H ⟨β, ds, S, rep, h⟩ => K1.self h rep.st .non
def sIf (t : EvT) (f g : EvS) : EvS := fun ds S => (t ds S).go fun b S1 => if b then f ds S1 else g ds S1
theorem pf_ifS {c : Expr} {a b : List Stmt} {t : EvT} (hc : PT X c (tFT Γ t)) (ha : PSs X a (tFS Γ f)) (hb : PSs X b (tFS Γ g)) : PS X (.If c a b pos) (tFS Γ (sIf t f g)) :=
  ps_imp (ps_if hc ha hb) fun D σ H ⟨β, ds, S, rep, h⟩ => by
    obtain ⟨x, S1, e1, h⟩ := go_inv h
    refine ⟨β, ds, S, x, S1, rep, e1, fun β1 H1 g r => ?_⟩
    cases x with
    | true =>
      rw [if_pos rfl] at h ⊢
      exact ⟨β1, ds, S1, rep.go g r, After.from g h⟩
    | false =>
      rw [if_neg Bool.false_ne_true] at h ⊢
      exact ⟨β1, ds, S1, rep.go g r, After.from g h⟩

/-! ### targets -/
abbrev EvG := D → Env → Option Env
/-- the slots but vs are as they were -/
def Sb (vs : List Nat) (σ σ' : L2.St) : Prop := σ'.length = σ.length ∧ ∀ j, j ∉ vs → σ'[j]? = σ[j]?
theorem Sb.trans {vs ws : List Nat} {σ σ' σ2 : L2.St} (h : Sb vs σ σ') (h' : Sb ws σ' σ2) : Sb (vs ++ ws) σ σ2 :=
  ⟨h'.1.trans h.1, fun j hj => by
    simp only [List.mem_append, not_or] at hj
    exact (h'.2 j hj.2).trans (h.2 j hj.1)⟩
theorem Sb.set (σ : L2.St) (i : Nat) (v : Option V) : Sb [i] σ (σ.set i v) := ⟨by simp, fun j hj => by
  rw [List.getElem?_set_ne]
  rintro rfl
  exact hj (by simp)⟩
theorem wipe_get (σ : L2.St) (j : Nat) : ∀ vs : List Nat, (wipe σ vs)[j]? = if j ∈ vs then (σ[j]?).map (fun _ => none) else σ[j]?
  | [] => by simp [wipe]
  | v :: vs => by
    unfold wipe
    have ih := wipe_get σ j vs
    by_cases hj : v = j
    · subst hj
      by_cases hl : v < σ.length
      · rw [List.getElem?_set_self (by rw [wipe_length]; exact hl)]
        simp [hl]
      · rw [List.getElem?_eq_none (by simpa [wipe_length] using hl)]
        have : σ[v]? = none := List.getElem?_eq_none (by omega)
        simp [this]
    · rw [List.getElem?_set_ne hj, ih]
      have : (j ∈ v :: vs) ↔ (j ∈ vs) := by simp [Ne.symm hj, eq_comm, hj]
      simp only [this]
theorem Sb.wipe {vs ws : List Nat} {σ σ' : L2.St} (h : Sb vs σ σ') (hs : ∀ j ∈ vs, j ∈ ws) : wipe σ' ws = wipe σ ws := by
  refine List.ext_getElem? fun j => ?_
  rw [wipe_get, wipe_get]
  by_cases hj : j ∈ ws
  · rw [if_pos hj, if_pos hj]
    have e : (σ'[j]?).isSome = (σ[j]?).isSome := by
      by_cases hl : j < σ.length
      · have hl' : j < σ'.length := by rw [h.1]; exact hl
        simp [hl, hl']
      · have hl' : ¬ j < σ'.length := by rw [h.1]; exact hl
        simp [hl, hl']
    cases e1 : σ'[j]? <;> cases e2 : σ[j]? <;> simp [e1, e2] at e ⊢
  · rw [if_neg hj, if_neg hj]
    exact h.2 j fun z => hj (hs j z)
theorem wipe_wipe (σ : L2.St) (ws : List Nat) : L2.wipe (L2.wipe σ ws) ws = L2.wipe σ ws := by
  refine List.ext_getElem? fun j => ?_
  rw [wipe_get, wipe_get]
  by_cases hj : j ∈ ws
  · rw [if_pos hj, if_pos hj]
    cases σ[j]? <;> rfl
  · rw [if_neg hj, if_neg hj]
def gF (Γ : Gm) (vs : List Nat) (f : EvG) : TG := fun v σ H Q => ∃ β ds S d ds', Rep Γ β ds S σ H ∧ RV Γ β H v d ∧ f d ds = some ds' ∧ ∀ β' σ' H', Sb vs σ σ' → Grow β H β' H' → Rep Γ β' ds' S σ' H' → Q σ' H'
theorem pg_imp {tg : Expr} {t t' : TG} (h : PG X tg t) (w : ∀ v σ H Q, t' v σ H Q → t v σ H Q) : PG X tg t' := ⟨fun pins s σ H v u Q I r q => h.run pins s σ H v u Q I r (w v σ H Q q)⟩
theorem pgs_imp {tg : List Expr} {t t' : TGs} (h : PGs X tg t) (w : ∀ v σ H Q, t' v σ H Q → t v σ H Q) : PGs X tg t' := ⟨fun pins s σ H v u Q I r q => h.run pins s σ H v u Q I r (w v σ H Q q)⟩
def tgN (i : Nat) : EvG := fun d ds => some (ds.set i (some d))
theorem pfg_name {i : Nat} {tg : Expr} (h : PG X tg (gName i)) : PG X tg (gF Γ [i] (tgN i)) := pg_imp h fun v σ H Q ⟨β, ds, S, d, ds', rep, rv, e, k⟩ => by
  cases e
  exact k _ _ _ (Sb.set σ i (some v)) (.refl β H) ⟨rep.st, rep.env.set rv i⟩
abbrev EvGs := List D → Env → Option Env
def gFs (Γ : Gm) (vs : List Nat) (f : EvGs) : TGs := fun us σ H Q => ∃ β ds S xs ds', Rep Γ β ds S σ H ∧ RVs Γ β H us xs ∧ f xs ds = some ds' ∧ ∀ β' σ' H', Sb vs σ σ' → Grow β H β' H' → Rep Γ β' ds' S σ' H' → Q σ' H'
def tgsNil : EvGs := fun xs ds => match xs with
  | [] => some ds
  | _ :: _ => none
def tgsCons (t : EvG) (r : EvGs) : EvGs := fun xs ds => match xs with
  | [] => none
  | x :: xs => match t x ds with
    | some ds1 => r xs ds1
    | none => none
theorem pfgs_nil : PGs X [] (gFs Γ [] tgsNil) := pgs_imp pgs_nil fun vs σ H Q ⟨β, ds, S, xs, ds', rep, rv, e, k⟩ => by
  cases rv with
  | nil => cases e; exact ⟨rfl, k _ σ _ ⟨rfl, fun _ _ => rfl⟩ (.refl β H) rep⟩
  | cons _ _ => cases e
theorem pfgs_cons {e : Expr} {es : List Expr} {t : EvG} {u : EvGs} {ws ws' : List Nat} (h1 : PG X e (gF Γ ws t)) (h2 : PGs X es (gFs Γ ws' u))
    (hs : (assignEach (e :: es) X.env).map (·.2) = assign e X.env :: (assignEach es X.env).map (·.2) := by rfl) : PGs X (e :: es) (gFs Γ (ws ++ ws') (tgsCons t u)) := pgs_imp (pgs_cons h1 h2 hs) fun vs σ H Q ⟨β, ds, S, xs, ds', rep, rv, e, k⟩ => by
  cases rv with
  | nil => cases e
  | @cons v vs' d xs' rv rvs =>
    simp only [tgsCons] at e
    cases ht : t d ds with
    | none => rw [ht] at e; cases e
    | some ds1 =>
      rw [ht] at e
      exact ⟨v, vs', rfl, β, ds, S, d, ds1, rep, rv, ht, fun β1 σ1 H1 sb1 g1 rep1 => ⟨β1, ds1, S, xs', ds', rep1, rvs.mono g1, e, fun β2 σ2 H2 sb2 g2 rep2 => k β2 σ2 H2 (sb1.trans sb2) (g1.trans g2) rep2⟩⟩
/-- (a, b, ..) = a tuple -/
def tgTup (n : Nat) (r : EvGs) : EvG := fun d ds => match d with
  | .tup xs => if xs.length = n then r xs ds else none
  | _ => none
theorem pfg_tup {es : List Expr} {k : Nat} {t : EvGs} {n : Nat} (hK : X.K = Γ.K) (hc : X.calm = true) {ws : List Nat} (h : PGs X es (gFs Γ ws t))
    (hn : (assignEach es X.env).length = n := by rfl) (hst : (assignEach es X.env).findIdx? (·.1) = none := by rfl) : PG X (.Tuple es k pos) (gF Γ ws (tgTup n t)) :=
  pg_imp (pg_tup hc h hn hst) fun v σ H Q ⟨β, ds, S, d, ds', rep, rv, e, k⟩ => by
    unfold tgTup at e
    split at e
    · split at e
      · rename_i hl
        obtain ⟨a, vs, rfl, h1, q⟩ := rv_tup rv
        exact ⟨a, vs, rfl, by rw [hK]; exact h1, by rw [q.length]; exact hl, β, ds, S, _, ds', rep, q, e, k⟩
      · cases e
    · cases e
def sAsg (fe : EvE) (t : EvG) : EvS := fun ds S => (fe ds S).go fun d S1 => match t d ds with
  | some ds1 => .nx ds1 S1
  | none => .bad
theorem tAsg_of {t : EvG} {ws : List Nat} {σ : L2.St} (h : tFS Γ (sAsg fe t) En σ H) : tAsg (tF Γ fe) (gF Γ ws t) En σ H := by
  obtain ⟨β, ds, S, rep, h⟩ := h
  obtain ⟨d, S1, e1, h⟩ := go_inv h
  refine ⟨β, ds, S, d, S1, rep, e1, fun β1 v H1 g r rv => ?_⟩
  cases ht : t d ds with
  | none => simp only [ht] at h; exact h.elim
  | some ds1 =>
    simp only [ht] at h
    exact ⟨β1, ds, S1, d, ds1, rep.go g r, rv, ht, fun β2 σ' H2 _ g2 rep' => h β2 σ' H2 (g.trans g2) rep'⟩
theorem pf_asg {tg : Expr} {t : EvG} {ws : List Nat} (he : PE X e (tF Γ fe)) (hg : PG X tg (gF Γ ws t)) (hs : swapsWithSole [tg] e pos.line X.env = pure false := by rfl) (hw : swappedStores [tg] e X.env = pure none := by rfl)
    (h1 : (assignEach [tg] X.env).map (·.2) = [assign tg X.env] := by rfl) : PS X (.Assign [tg] e pos) (tFS Γ (sAsg fe t)) := ps_imp (ps_asg he hg hs hw h1) fun _ _ _ h => tAsg_of h
def sSet (i : Nat) (fe : EvE) : EvS := fun ds S => (fe ds S).go fun d S1 => .nx (ds.set i (some d)) S1
theorem tSet_of {i : Nat} {σ : L2.St} (h : tFS Γ (sSet i fe) En σ H) : tAsg (tF Γ fe) (gName i) En σ H := by
  obtain ⟨β, ds, S, rep, h⟩ := h
  obtain ⟨d, S1, e1, h⟩ := go_inv h
  exact ⟨β, ds, S, d, S1, rep, e1, fun β1 v H1 g r rv => h β1 _ H1 g ⟨r, (rep.env.mono g).set rv i⟩⟩
theorem pf_set {i : Nat} {x : Str} {pos' : Pos} (h : PS X (.Assign [.Name x pos'] e pos) (tAsg (tF Γ fe) (gName i))) : PS X (.Assign [.Name x pos'] e pos) (tFS Γ (sSet i fe)) := ps_imp h fun _ _ _ h => tSet_of h
/-- a, b = x, y with plain local names -/
def sPar (i j : Nat) (ga : EvA) : EvS := fun ds S => (ga ds S).go fun xs S1 => match xs with
  | [x, y] => .nx ((ds.set i (some x)).set j (some y)) S1
  | _ => .bad
theorem pf_par {i j : Nat} {tg : List Expr} {ga : EvA} (h : PS X (.Assign tg e pos) (tPar i j (tFA Γ ga))) : PS X (.Assign tg e pos) (tFS Γ (sPar i j ga)) := ps_imp h fun D σ H ⟨β, ds, S, rep, h⟩ => by
  obtain ⟨xs, S1, e1, h⟩ := go_inv h
  refine ⟨β, ds, S, xs, S1, rep, e1, fun β1 vs H1 g r rv => ?_⟩
  match xs, h, rv with
  | [x, y], h, .cons (v := v) r1 (.cons (v := w') r2 .nil) =>
    exact ⟨v, w', rfl, h β1 _ H1 g ⟨r, ((rep.env.mono g).set r1 i).set r2 j⟩⟩
  | [], h, _ => exact h.elim
  | [_], h, _ => exact h.elim
  | _ :: _ :: _ :: _, h, _ => exact h.elim
def sPar3 (i j l : Nat) (ga : EvA) : EvS := fun ds S => (ga ds S).go fun xs S1 => match xs with
  | [x, y, z] => .nx (((ds.set i (some x)).set j (some y)).set l (some z)) S1
  | _ => .bad
theorem pf_par3 {i j l : Nat} {tg : List Expr} {ga : EvA} (h : PS X (.Assign tg e pos) (tPar3 i j l (tFA Γ ga))) : PS X (.Assign tg e pos) (tFS Γ (sPar3 i j l ga)) := ps_imp h fun D σ H ⟨β, ds, S, rep, h⟩ => by
  obtain ⟨xs, S1, e1, h⟩ := go_inv h
  refine ⟨β, ds, S, xs, S1, rep, e1, fun β1 vs H1 g r rv => ?_⟩
  match xs, h, rv with
  | [x, y, z], h, .cons (v := v) r1 (.cons (v := w') r2 (.cons (v := w2) r3 .nil)) =>
    exact ⟨v, w', w2, rfl, h β1 _ H1 g ⟨r, (((rep.env.mono g).set r1 i).set r2 j).set r3 l⟩⟩
  | [], h, _ => exact h.elim
  | [_], h, _ => exact h.elim
  | [_, _], h, _ => exact h.elim
  | _ :: _ :: _ :: _ :: _, h, _ => exact h.elim

/-! ### o[i] = v -/
def putD (kvs : List (Key × D)) (k : Key) (d : D) : List (Key × D) :=
  if (kvs.any fun kv => decide (kv.1 = k)) = true then kvs.map (fun kv => if kv.1 = k then (kv.1, d) else kv) else kvs ++ [(k, d)]
def setD (x y v : D) (S : Store) : Option Store := match x with
  | .ref n => match S[n]? with
    | some (.lst xs) => match y with
      | .int i => match ixN xs.length i with
        | some j => some (S.set n (.lst (xs.set j v)))
        | none => none
      | _ => none
    | some (.dct kvs) => match keyD y with
      | some k => if kvs.length < sizeLine then some (S.set n (.dct (putD kvs k v))) else none
      | none => none
    | _ => none
  | _ => none
theorem RKs.any {β : Bt} {H : Hp} {k : Key} : ∀ {vs : List (Key × V)} {ds : List (Key × D)}, RKs Γ β H vs ds → (vs.any fun kv => decide (kv.1 = k)) = ds.any fun kv => decide (kv.1 = k)
  | _, _, .nil => rfl
  | _, _, .cons h r => by rw [List.any_cons, List.any_cons, RKs.any r]
theorem RKs.repl {β : Bt} {H : Hp} {k : Key} {v : V} {d : D} (rv : RV Γ β H v d) : ∀ {vs : List (Key × V)} {ds : List (Key × D)}, RKs Γ β H vs ds →
    RKs Γ β H (vs.map fun kv => if kv.1 = k then (kv.1, v) else kv) (ds.map fun kv => if kv.1 = k then (kv.1, d) else kv)
  | _, _, .nil => .nil
  | _, _, .cons (k := k') h r => by
    rw [List.map_cons, List.map_cons]
    by_cases hk : k' = k
    · simp only [hk, if_true]
      exact .cons rv (RKs.repl rv r)
    · simp only [hk, if_false]
      exact .cons h (RKs.repl rv r)
theorem RKs.snoc {β : Bt} {H : Hp} {k : Key} {v : V} {d : D} (rv : RV Γ β H v d) : ∀ {vs : List (Key × V)} {ds : List (Key × D)}, RKs Γ β H vs ds → RKs Γ β H (vs ++ [(k, v)]) (ds ++ [(k, d)])
  | _, _, .nil => .cons rv .nil
  | _, _, .cons h r => .cons h (RKs.snoc rv r)
theorem RKs.put {β : Bt} {H : Hp} {k : Key} {v : V} {d : D} (rv : RV Γ β H v d) {vs : List (Key × V)} {ds : List (Key × D)} (h : RKs Γ β H vs ds) : RKs Γ β H (putK vs k v) (putD ds k d) := by
  unfold putK putD
  rw [h.any (k := k)]
  split
  · exact h.repl rv
  · exact h.snoc rv
def rFSet (Γ : Gm) : TSet := fun o i v H Q => ∃ β S x y d S', RepSt Γ β S H ∧ RV Γ β H o x ∧ RV Γ β H i y ∧ RV Γ β H v d ∧ setD x y d S = some S' ∧ ∀ H', Grow β H β H' → RepSt Γ β S' H' → Q H'
theorem set_D (hu : X.A.units + 1 < cLine) : PSet X (rFSet Γ) := by
  intro pins s σ H o i v ov iv u Q I ro ri rv ⟨β, S, x, y, d, S', r, r1, r2, r3, e, k⟩
  unfold setD at e
  split at e
  · rename_i n
    cases r1
    rename_i a ha
    have hm := List.mem_of_getElem? ha
    cases hs : S[n]? with
    | none => simp only [hs] at e; cases e
    | some c =>
      cases c with
      | ins _ _ => simp only [hs] at e; cases e
      | lst xs =>
        simp only [hs] at e
        obtain ⟨vs, h1, q⟩ := r.cellOf ha hs
        cases y <;> simp only at e <;> first | cases e | skip
        rename_i ii
        cases hj : ixN xs.length ii with
        | none => simp only [hj] at e; cases e
        | some j =>
          simp only [hj] at e
          cases e
          cases rv_int r2
          refine set_list pins s σ H _ _ v ov iv u Q I ro ri rv ⟨a, vs, ii, j, rfl, rfl, h1, by rw [q.length]; exact hj, k _ (grow_write r hm) (r.write ha ⟨_, upd_same, ?_⟩)⟩
          exact ((q.set r3 j)).mono (grow_write r hm)
      | dct kvs =>
        simp only [hs] at e
        obtain ⟨vs, h1, q⟩ := r.cellOf ha hs
        cases hk : keyD y with
        | none => simp only [hk] at e; cases e
        | some kk =>
          simp only [hk] at e
          split at e
          · rename_i hl
            cases e
            cases rv_key r2 hk
            obtain rfl : ov = Value.ref a := ro
            exact d_setItem hu I (DPut.k h1 (by rw [q.length]; exact hl)) ri rv fun s' I' => ⟨_, I', k _ (grow_write r hm) (r.write ha ⟨_, upd_same, (q.put r3).mono (grow_write r hm)⟩)⟩
          · cases e
  · cases e
def sSub (fv fo fi : EvE) : EvS := fun ds S => (fv ds S).go fun v S1 => (fo ds S1).go fun x S2 => (fi ds S2).go fun y S3 => match setD x y v S3 with
  | some S4 => .nx ds S4
  | none => .bad
theorem pf_sub {o i : Expr} {fo fi : EvE} {p2 : Pos} (hu : X.A.units + 1 < cLine) (he : PE X e (tF Γ fe)) (ho : PE X o (tF Γ fo)) (hi : PE X i (tF Γ fi))
    (hs : swapsWithSole [.Subscript o i p2] e pos.line X.env = pure false := by rfl) (hw : swappedStores [.Subscript o i p2] e X.env = pure none := by rfl)
    (h1 : (assignEach [.Subscript o i p2] X.env).map (·.2) = [assign (.Subscript o i p2) X.env] := by rfl)
    (ha : ∀ v, assign (.Subscript o i p2) X.env v = (do
      let ov ← holding [v] (eval o X.env)
      let iv ← holding [v, ov] (eval i X.env)
      standAt p2
      holding [v, ov, iv] (setItem ov iv v)
      release [v, ov, iv] []) := by intro _; rfl) : PS X (.Assign [.Subscript o i p2] e pos) (tFS Γ (sSub fe fo fi)) :=
  ps_imp (ps_asg he (pg_sub ho hi (set_D (Γ := Γ) hu) ha) hs hw h1) fun D σ H ⟨β, ds, S, rep, h⟩ => by
    obtain ⟨v, S1, e1, h⟩ := go_inv h
    obtain ⟨x, S2, e2, h⟩ := go_inv h
    obtain ⟨y, S3, e3, h⟩ := go_inv h
    cases hset : setD x y v S3 with
    | none => simp only [hset] at h; exact h.elim
    | some S4 =>
      simp only [hset] at h
      refine ⟨β, ds, S, v, S1, rep, e1, fun β1 vv H1 g1 r1 rv1 => ⟨β1, ds, S1, x, S2, rep.go g1 r1, e2, fun β2 vo H2 g2 r2 rv2 => ⟨β2, ds, S2, y, S3, ⟨r2, (rep.env.mono g1).mono g2⟩, e3, fun β3 vi H3 g3 r3 rv3 => ?_⟩⟩⟩
      exact ⟨β3, S3, x, y, v, S4, r3, rv2.mono g3, rv3, (rv1.mono g2).mono g3, hset, fun H4 g4 r4 => h β3 σ H4 (((g1.trans g2).trans g3).trans g4) ⟨r4, (((rep.env.mono g1).mono g2).mono g3).mono g4⟩⟩

/-! ### x op= e -/
def sAug (i : Nat) (op : D → D → Store → R D) (fe : EvE) : EvS := fun ds S => match ds[i]? with
  | some (some x) => (fe ds S).go fun y S1 => (op x y S1).go fun z S2 => .nx (ds.set i (some z)) S2
  | _ => .bad
theorem pf_aug {i : Nat} {x : Str} {o : Operator} {op : D → D → Store → R D} {pos' : Pos} (hN : X.N.Nodup) (hi : X.N[i]? = some x) (hx : Loc X.env.scope x) (he : PE X e (tF Γ fe)) (ho : OpR X (inplaceOp o) (rF2 Γ op))
    (hf : X.fn x = true ∨ X.env.scope.names.lookup x = some .local := by first | exact .inl rfl | exact .inr rfl | assumption) : PS X (.AugAssign (.Name x pos') o e pos) (tFS Γ (sAug i op fe)) :=
  ps_imp (ps_aug (ti := rF2 Γ op) hN hi hx he ho hf) fun D σ H ⟨β, ds, S, rep, h⟩ => by
    unfold sAug at h
    split at h
    · rename_i d hd
      obtain ⟨v, hv, rv⟩ := rep.env.val i d hd
      obtain ⟨y, S1, e1, h⟩ := go_inv h
      obtain ⟨z, S2, e2, h⟩ := go_inv h
      exact ⟨v, hv, β, ds, S, y, S1, rep, e1, fun β1 w H1 g r rw' => ⟨β1, S1, d, y, z, S2, r, rv.mono g, rw', e2, fun β2 w2 H2 g2 r2 rz => h β2 _ H2 (g.trans g2) ⟨r2, ((rep.env.mono g).mono g2).set rz i⟩⟩⟩
    · exact h.elim
def iaddD (x y : D) (S : Store) : R D := match x, y with
  | .int i, .int j => .ok (.int (i + j)) S
  | .str a, .str b => if a.length + b.length ≤ sizeLine then .ok (.str (a ++ b)) S else .bad
  | _, _ => .bad
theorem iop_addD : OpR X (inplaceOp .Add) (rF2 Γ iaddD) := by
  intro pins s σ H x y v u Q I rx ry ⟨β, S, dx, dy, d, S', r, r1, r2, e, k⟩
  unfold iaddD at e
  split at e
  · cases e
    cases rv_int r1
    cases rv_int r2
    exact iop_add pins s σ H _ _ v u Q I rx ry ⟨_, _, rfl, rfl, k.self r (.int _)⟩
  · split at e
    · rename_i hl
      cases e
      cases rv_str r1
      cases rv_str r2
      exact iop_add_str pins s σ H _ _ v u Q I rx ry ⟨_, _, rfl, rfl, hl, k.self r (.str _)⟩
    · cases e
  · cases e
end
end Rk

namespace Rk
open PySem PySem.Spec PyProof.Rows L2

/-! ### what is walked: the items, and what must stay true of the store meanwhile -/
abbrev EvI := Env → Store → R (List D × (Store → Prop))
/-- at turn i the iterator J yields what stands for the i-th of xs -/
def ItF (Γ : Gm) (J : It) (gd : Store → Prop) (β : Bt) (H : Hp) (xs : List D) : Prop :=
  ∀ i β' S' H', Mon β H β' H' → RepSt Γ β' S' H' → gd S' →
    (i < xs.length → J.go i H' ∧ ∀ x H'', J.yld i H' x H'' → Grow β' H' β' H'' ∧ (∀ a ∈ β'.c, H'' a = H' a) ∧ LamX.Tabs Γ.T H'' ∧ ∃ d, xs[i]? = some d ∧ RV Γ β' H'' x d) ∧ (xs.length ≤ i → J.stop i H')
def tFI (Γ : Gm) (f : EvI) : TI := fun σ H R => ∃ β ds S xs gd S', Rep Γ β ds S σ H ∧ f ds S = .ok (xs, gd) S' ∧ ∀ β' H', Grow β H β' H' → RepSt Γ β' S' H' → ∀ J, ItF Γ J gd β' H' xs → R J H'
theorem pi_imp {X : Cx} {tg e : Expr} {t t' : TI} (h : PI X tg e t) (w : ∀ σ H Q, t' σ H Q → t σ H Q) : PI X tg e t' := ⟨fun pins s σ H Q I q => h.run pins s σ H Q I (w σ H Q q)⟩
theorem pi_or {X : Cx} {tg e : Expr} {t t' : TI} (h : PI X tg e t) (h' : PI X tg e t') : PI X tg e (fun σ H R => t σ H R ∨ t' σ H R) := ⟨fun pins s σ H Q I q => by
  rcases q with q | q
  · exact h.run pins s σ H Q I q
  · exact h'.run pins s σ H Q I q⟩
def signs (x : Str) : List D := x.cps.toList.map fun c => .str ⟨#[c]⟩
/-- a key as a value -/
def kD : Key → D
  | .inl i => .int i
  | .inr x => .str x
/-- over a value -/
def iVal (f : EvE) : EvI := fun ds S => (f ds S).bind fun d S1 => match d with
  | .str x => .ok (signs x, fun _ => True) S1
  | .tup xs => .ok (xs, fun _ => True) S1
  | .lst xs => .ok (xs, fun _ => True) S1
  | .rol xs => .ok (xs, fun _ => True) S1
  | .dct kvs => .ok (kvs.map fun kv => kD kv.1, fun _ => True) S1
  | .ref n => match S1[n]? with
    | some (.lst xs) => .ok (xs, fun S => S[n]? = some (.lst xs)) S1
    | _ => .bad
  | _ => .bad
section
variable {Γ : Gm} {X : Cx} {tg e : Expr} {f : EvE} {pos p : Pos}
theorem itF_list {β : Bt} {H : Hp} {a : Addr} {xs : List D} {gd : Store → Prop} (h : ∀ β' S' H', Mon β H β' H' → RepSt Γ β' S' H' → gd S' → ∃ vs, SqL Γ.K H' a vs ∧ RVs Γ β' H' vs xs) : ItF Γ (Itl Γ.K a) gd β H xs := by
  intro i β' S' H' g r hg
  obtain ⟨vs, hs, q⟩ := h β' S' H' g r hg
  refine ⟨fun hi => ?_, fun hi => ⟨vs, hs, by rw [q.length]; exact hi⟩⟩
  obtain ⟨v, h1, h2⟩ := q.get (List.getElem?_eq_getElem hi)
  refine ⟨⟨vs, v, hs, h1⟩, fun x H'' y => ?_⟩
  obtain ⟨rfl, hy⟩ := y
  have e := hy vs hs
  rw [h1] at e
  cases e
  exact ⟨.refl _ _, fun _ _ => rfl, r.tb, _, List.getElem?_eq_getElem hi, h2⟩
theorem itF_tup {β : Bt} {H : Hp} {a : Addr} {xs : List D} {gd : Store → Prop} {vs : List V} (h : SqT Γ.K H a vs) (q : RVs Γ β H vs xs) : ItF Γ (Itt Γ.K a) gd β H xs := by
  intro i β' S' H' g r hg
  have hs : SqT Γ.K H' a vs := g.sqT h
  have q := q.mon g
  refine ⟨fun hi => ?_, fun hi => ⟨vs, hs, by rw [q.length]; exact hi⟩⟩
  obtain ⟨v, h1, h2⟩ := q.get (List.getElem?_eq_getElem hi)
  refine ⟨⟨vs, v, hs, h1⟩, fun x H'' y => ?_⟩
  obtain ⟨rfl, hy⟩ := y
  have e := hy vs hs
  rw [h1] at e
  cases e
  exact ⟨.refl _ _, fun _ _ => rfl, r.tb, _, List.getElem?_eq_getElem hi, h2⟩
theorem itF_str {β : Bt} {H : Hp} {x : Str} {gd : Store → Prop} : ItF Γ (Its x) gd β H (signs x) := by
  intro i β' S' H' g r hg
  have hl : (signs x).length = x.cps.size := by simp [signs]
  refine ⟨fun hi => ⟨by rw [hl] at hi; exact hi, fun v H'' y => ?_⟩, fun hi => by rw [hl] at hi; exact hi⟩
  obtain ⟨rfl, c, hc, rfl⟩ := y
  refine ⟨.refl _ _, fun _ _ => rfl, r.tb, .str ⟨#[c]⟩, ?_, .str _⟩
  simp [signs, hc]
/-- the keys of a dict that nobody changes any more: it is locked for good -/
def iKeysL (td : TE) : TI := fun σ H R => td σ H fun x H1 => ∃ d kvs, x = .ref d ∧ ((∃ o, H1 d = some (.frz o (.dK kvs)) ∧ R (Itk d o kvs) H1) ∨ (H1 d = some (.dK kvs) ∧ ∀ o, R (Itk d o kvs) (upd H1 d (.frz o (.dK kvs)))))
theorem pi_keysL {te : TE} (he : PE X e te) : PI X tg e (iKeysL te) := by
  refine ⟨fun pins s σ H R I h => thn (he.run pins s σ H _ I h) fun u s1 ⟨x, H1, I1, rx, d, kvs, ex, q⟩ => ?_⟩
  subst ex
  obtain rfl : u = Value.ref d := rx
  have go : ∀ {o : Obj} {H2 : Hp}, L2.Inv X pins σ H2 s1 → H2 d = some (.frz o (.dK kvs)) → R (Itk d o kvs) H2 → wpAny (model X.prog X.w) X.A (pyIter (.ref d)) (PIE X pins σ tg R) X.xe s1 := fun I2 hd q => by
    obtain ⟨hs, hgd, hx, es, ep, vs, hdt, hsz, kv, hm⟩ := I2.frzK hd
    refine iter_keys hs hgd hx hdt (pi_one (tk := s1.toks) I2 _ (turn_keys _ hdt) ⟨_, Heap.get?_push_size _ rfl, rfl, ?_⟩ q)
    rw [hsz] <;> rfl
  rcases q with ⟨o, hd, q⟩ | ⟨hd, q⟩
  · exact go I1 hd q
  · obtain ⟨o, I2⟩ := I1.lock hd True.intro
    exact go I2 upd_same (q o)
theorem RKs.get {β : Bt} {H : Hp} : ∀ {vs : List (Key × V)} {ds : List (Key × D)} {i : Nat}, RKs Γ β H vs ds → (vs[i]?).map (·.1) = (ds[i]?).map (·.1)
  | _, _, _, .nil => rfl
  | _, _, 0, .cons _ _ => rfl
  | _, _, i + 1, .cons _ r => by simpa using RKs.get (i := i) r
theorem itF_keys {β : Bt} {H : Hp} {d : Addr} {o : Obj} {kvs : List (Key × V)} {ds : List (Key × D)} {gd : Store → Prop} (h : H d = some (.frz o (.dK kvs))) (q : RKs Γ β H kvs ds) : ItF Γ (Itk d o kvs) gd β H (ds.map fun kv => kD kv.1) := by
  intro i β' S' H' g r hg
  have hs := g.fz d o _ h
  have hl := q.length
  refine ⟨fun hi => ?_, fun hi => ⟨hs, by rw [hl]; simpa using hi⟩⟩
  have hi' : i < ds.length := by simpa using hi
  refine ⟨⟨hs, by omega⟩, fun x H'' ⟨e, k, v, hk, ex⟩ => ?_⟩
  subst e ex
  refine ⟨.refl _ _, fun _ _ => rfl, r.tb, kD k, ?_, ?_⟩
  · have := q.get (i := i)
    rw [hk] at this
    rw [List.getElem?_map]
    cases hd : ds[i]? with
    | none => rw [hd] at this; cases this
    | some p => rw [hd] at this; simp at this; simp [this]
  · cases k
    · exact .int _
    · exact .str _
theorem grow_lock {β : Bt} {H : Hp} {a : Addr} {o : Obj} {kvs : List (Key × V)} (n : β.out a) (h : H a = some (.dK kvs)) : Grow β H β (upd H a (.frz o (.dK kvs))) := by
  refine ⟨⟨[], by simp⟩, rfl, fun b hb => upd_ne fun e => n.2 (by rw [← e]; exact hb), fun b xs q => upd_rd q fun e => ?_, fun b u _ nb q => ⟨?_, nb⟩, fun b xs _ q => by rw [upd_ne (fun e => by rw [e, h] at q; cases q)]; exact q, fun b w u q => by rw [upd_ne (fun e => by rw [e, h] at q; cases q)]; exact q, fun b x q => by rw [upd_ne (fun e => by rw [e, h] at q; cases q)]; exact q, fun b x q => by rw [upd_ne (fun e => by rw [e, h] at q; exact code_ne (.inr ⟨_, rfl⟩) (Option.some.inj q))]; exact q⟩
  · subst e
    rcases q with q | ⟨w, q⟩ <;> rw [h] at q <;> cases q
  · by_cases e : b = a
    · subst e
      rcases q with q | ⟨w, q⟩
      · rw [h] at q
        cases q
        exact .inr ⟨o, upd_same⟩
      · rw [h] at q; cases q
    · exact upd_rd q e
theorem pfi_val (hK : X.K = Γ.K) (h : PE X e (tF Γ f)) : PI X tg e (tFI Γ (iVal f)) := by
  refine pi_imp (pi_or (pi_keysL h) (pi_or (pi_list h) (pi_or (pi_tup h) (pi_str h)))) fun σ H _ ⟨β, ds, S, xs, gd, S', rep, ee, k⟩ => ?_
  obtain ⟨d, S1, e1, ee⟩ := R.bind_inv ee
  rw [hK]
  cases d <;> simp only at ee <;> first | cases ee | skip
  case str x =>
    exact .inr (.inr (.inr ⟨β, ds, S, _, _, rep, e1, fun β1 v H1 g r rv => ⟨x, rv_str rv, k β1 H1 g r _ itF_str⟩⟩))
  case tup xs =>
    refine .inr (.inr (.inl ⟨β, ds, S, _, _, rep, e1, fun β1 v H1 g r rv => ?_⟩))
    obtain ⟨a, vs, rfl, h1, q⟩ := rv_tup rv
    exact ⟨a, rfl, ⟨vs, h1⟩, k β1 H1 g r _ (itF_tup h1 q)⟩
  case dct kvs =>
    refine .inl ⟨β, ds, S, _, _, rep, e1, fun β1 v H1 g r rv => ?_⟩
    cases rv with
    | @dct a vs _ n h1 q =>
      refine ⟨a, vs, rfl, ?_⟩
      rcases h1 with h1 | ⟨o, h1⟩
      · refine .inr ⟨h1, fun o => ?_⟩
        have gl := grow_lock (o := o) n h1
        exact k β1 _ (g.trans gl) (r.keep gl (fun b hb => upd_ne fun e => n.1 (by rw [← e]; exact hb)) (tabs_cell h1 cellO_dK r.tb)) _ (itF_keys upd_same (q.mono gl))
      · exact .inl ⟨o, h1, k β1 H1 g r _ (itF_keys h1 q)⟩
  case lst xs =>
    refine .inr (.inl ⟨β, ds, S, _, _, rep, e1, fun β1 v H1 g r rv => ?_⟩)
    cases rv with
    | lst n h1 q => exact ⟨_, rfl, ⟨_, SqL.of h1⟩, k β1 H1 g r _ (itF_list fun β' S' H' g' r' _ => ⟨_, SqL.of (g'.lst _ _ n h1), q.mon g'⟩)⟩
  case rol xs =>
    refine .inr (.inl ⟨β, ds, S, _, _, rep, e1, fun β1 v H1 g r rv => ?_⟩)
    cases rv with
    | rol n h1 q => exact ⟨_, rfl, ⟨_, .inl h1⟩, k β1 H1 g r _ (itF_list fun β' S' H' g' r' _ => ⟨_, .inl (g'.frz _ _ ntl n h1).1, q.mon g'⟩)⟩
    | rolK h1 q => exact ⟨_, rfl, ⟨_, h1.sq⟩, k β1 H1 g r _ (itF_list fun β' S' H' g' r' _ => ⟨_, h1.sq, q.mon g'⟩)⟩
  case ref n =>
    split at ee
    · rename_i ys hs
      cases ee
      refine .inr (.inl ⟨β, ds, S, _, _, rep, e1, fun β1 v H1 g r rv => ?_⟩)
      cases rv with
      | ref h1 =>
        obtain ⟨vs, h2, q⟩ := r.cellOf h1 hs
        refine ⟨_, rfl, ⟨_, SqL.of h2⟩, k β1 H1 g r _ (itF_list fun β' S' H' g' r' hg => ?_)⟩
        obtain ⟨vs', h3, q'⟩ := r'.cellOf (g'.get _ _ h1) hg
        exact ⟨vs', SqL.of h3, q'⟩
    · cases ee
def rangeD (lo : Int) (n : Nat) : List D := (List.range n).map fun i => .int (lo + (i : Nat))
def iRange1 (f : EvE) : EvI := fun ds S => (f ds S).bind fun d S1 => match d with
  | .int j => if -(2 ^ 62) ≤ j ∧ j < 2 ^ 62 then .ok (rangeD 0 j.toNat, fun _ => True) S1 else .bad
  | _ => .bad
def iRange2 (f g : EvE) : EvI := fun ds S => (f ds S).bind fun d S1 => (g ds S1).bind fun e S2 => match d, e with
  | .int i, .int j => if -(2 ^ 62) ≤ i ∧ i < 2 ^ 62 ∧ -(2 ^ 62) ≤ j ∧ j < 2 ^ 62 then .ok (rangeD i (j - i).toNat, fun _ => True) S2 else .bad
  | _, _ => .bad
theorem itF_range {β : Bt} {H : Hp} {lo : Int} {n : Nat} {gd : Store → Prop} : ItF Γ (Itr lo n) gd β H (rangeD lo n) := by
  intro i β' S' H' g r hg
  have hl : (rangeD lo n).length = n := by simp [rangeD]
  refine ⟨fun hi => ⟨by rw [hl] at hi; exact hi, fun v H'' y => ?_⟩, fun hi => by rw [hl] at hi; exact hi⟩
  obtain ⟨rfl, rfl⟩ := y
  rw [hl] at hi
  refine ⟨.refl _ _, fun _ _ => rfl, r.tb, .int (lo + (i : Nat)), ?_, .int _⟩
  simp [rangeD, hi]
theorem pfi_range1 {a : Expr} {fa : EvE} (hg : Gl X "range") (hm : X.mg "range" = none) (ha : PE X a (tF Γ fa)) (hs : starEach [a] X.env = [(false, eval a X.env)] := by rfl) : PI X tg (.Call (.Name "range" p) [a] [] pos) (tFI Γ (iRange1 fa)) := by
  refine pi_imp (pi_range1 hg hm (pa_cons ha pa_nil hs) hs) fun σ H _ ⟨β, ds, S, xs, gd, S', rep, ee, k⟩ => ?_
  obtain ⟨d, S1, e1, ee⟩ := R.bind_inv ee
  refine ⟨β, ds, S, d, S1, rep, e1, fun β1 v H1 g1 r1 rv => ?_⟩
  cases d <;> simp only at ee <;> first | cases ee | skip
  split at ee
  · rename_i hb
    cases ee
    cases rv_int rv
    exact ⟨_, rfl, hb.1, hb.2, k β1 H1 g1 r1 _ itF_range⟩
  · cases ee
theorem pfi_range2 {a b : Expr} {fa fb : EvE} (hg : Gl X "range") (hm : X.mg "range" = none) (ha : PE X a (tF Γ fa)) (hb : PE X b (tF Γ fb)) (hs : starEach [a, b] X.env = [(false, eval a X.env), (false, eval b X.env)] := by rfl) (hs2 : starEach [b] X.env = [(false, eval b X.env)] := by rfl) :
    PI X tg (.Call (.Name "range" p) [a, b] [] pos) (tFI Γ (iRange2 fa fb)) := by
  refine pi_imp (pi_range2 hg hm (pa_cons ha (pa_cons hb pa_nil hs2) (by rw [hs, hs2])) hs hs2) fun σ H _ ⟨β, ds, S, xs, gd, S', rep, ee, k⟩ => ?_
  obtain ⟨d, S1, e1, ee⟩ := R.bind_inv ee
  obtain ⟨e, S2, e2, ee⟩ := R.bind_inv ee
  refine ⟨β, ds, S, d, S1, rep, e1, fun β1 v H1 g1 r1 rv => ⟨β1, ds, S1, e, S2, rep.go g1 r1, e2, fun β2 u H2 g2 r2 ru => ?_⟩⟩
  split at ee
  · split at ee
    · rename_i hb
      cases ee
      cases rv_int rv
      cases rv_int ru
      exact ⟨_, _, rfl, hb, k β2 H2 (g1.trans g2) r2 _ itF_range⟩
    · cases ee
  · cases ee

/-! ### for -/
open Classical in
/-- a turn for each item -/
noncomputable def forL (gd : Store → Prop) (t : EvG) (body : EvS) : List D → Env → Store → RS
  | [], ds, S => if gd S then .nx ds S else .bad
  | x :: xs, ds, S => if gd S then match t x ds with
    | none => .bad
    | some ds1 => match body ds1 S with
      | .nx ds2 S2 => forL gd t body xs ds2 S2
      | .ct ds2 S2 => forL gd t body xs ds2 S2
      | .bk ds2 S2 => .nx ds2 S2
      | .rt d S2 => .rt d S2
      | .bad => .bad
    else .bad
noncomputable def sFor (it : EvI) (t : EvG) (body : EvS) : EvS := fun ds S => (it ds S).go fun p S1 => forL p.2 t body p.1 ds S1
variable {it : EvI} {t : EvG} {body : EvS} {bst : List Stmt}
theorem pf_for (hp : PassesOwn (model X.prog X.w) X.A X.env X.xe) (hc : X.calm = true) (hi : PI X tg e (tFI Γ it)) {ws : List Nat} (hg : PG X tg (gF Γ ws t)) (hb : PSs X bst (tFS Γ body))
    (hs : ∀ x, foldedSetIterable e X.env x = pure x := by intro _; rfl) : PS X (.For tg e bst [] pos) (tFS Γ (sFor it t body)) := by
  refine ps_imp (ps_for hp hc hi hg hb hs) fun En σ H ⟨β, ds, S, rep, h⟩ => ?_
  obtain ⟨⟨xs, gd⟩, S1, e1, h⟩ := go_inv h
  simp only at h
  refine ⟨β, ds, S, xs, gd, S1, rep, e1, fun β1 H1 g1 r1 J hJ => ?_⟩
  -- the word: what is left
  refine ⟨fun i m σ' H' => m = xs.length - i ∧ i ≤ xs.length ∧ ∃ β' ds' S', Grow β1 H1 β' H' ∧ Rep Γ β' ds' S' σ' H' ∧ After Γ β' H' En (forL gd t body (xs.drop i) ds' S'), ⟨xs.length, by simp, Nat.zero_le _, β1, ds, S1, .refl _ _, rep.go g1 r1, ?_⟩, ?_⟩
  · rw [List.drop_zero]
    exact After.from g1 h
  · rintro i m σ' H' ⟨rfl, hi, β', ds', S', g', rep', ha⟩
    by_cases hlt : i < xs.length
    · rw [List.drop_eq_getElem_cons hlt] at ha
      unfold forL at ha
      split at ha
      · rename_i hgd
        obtain ⟨hgo, hy⟩ := (hJ i β' S' H' g'.mon rep'.st hgd).1 hlt
        refine .inr ⟨hgo, fun σ2 H2 => ∃ β2 ds2 S2, Grow β' H' β2 H2 ∧ Rep Γ β2 ds2 S2 σ2 H2 ∧ After Γ β2 H2 En (forL gd t body (xs.drop (i + 1)) ds2 S2), fun σ2 H2 ⟨β2, ds2, S2, g2, rep2, ha2⟩ => ⟨xs.length - (i + 1), by omega, rfl, hlt, β2, ds2, S2, g'.trans g2, rep2, ha2⟩, fun x H'' y => ?_⟩
        obtain ⟨gx, kx, tx, d, hd, rvd⟩ := hy x H'' y
        have ed : d = xs[i] := by rw [List.getElem?_eq_getElem hlt] at hd; exact (Option.some.inj hd).symm
        subst ed
        have repx : Rep Γ β' ds' S' σ' H'' := ⟨rep'.st.keep gx kx tx, rep'.env.mono gx⟩
        cases ht : t xs[i] ds' with
        | none => simp only [ht] at ha; exact ha.elim
        | some ds1 =>
          simp only [ht] at ha
          refine ⟨β', ds', S', _, ds1, repx, rvd, ht, fun β9 σ1 H9 _ g9 rep1 => ⟨β9, ds1, S', rep1, ?_⟩⟩
          replace gx := gx.trans g9
          cases hbd : body ds1 S' with
          | nx ds2 S2 =>
            simp only [hbd] at ha
            exact fun β2 σ2 H2 g2 rep2 => ⟨β2, ds2, S2, gx.trans g2, rep2, After.from (gx.trans g2) ha⟩
          | ct ds2 S2 =>
            simp only [hbd] at ha
            exact fun β2 σ2 H2 g2 rep2 => ⟨β2, ds2, S2, gx.trans g2, rep2, After.from (gx.trans g2) ha⟩
          | bk ds2 S2 =>
            simp only [hbd] at ha
            exact fun β2 σ2 H2 g2 rep2 => ha β2 σ2 H2 (gx.trans g2) rep2
          | rt d S2 =>
            simp only [hbd] at ha
            exact K1.from ha gx
          | bad => simp only [hbd] at ha; exact ha.elim
      · exact ha.elim
    · have ei : i = xs.length := by omega
      subst ei
      rw [List.drop_length] at ha
      unfold forL at ha
      split at ha
      · rename_i hgd
        exact .inl ⟨(hJ _ β' S' H' g'.mon rep'.st hgd).2 (Nat.le_refl _), ha β' σ' H' (.refl _ _) rep'⟩
      · exact ha.elim

/-! ### while -/
def whileN (c : EvT) (body : EvS) : Nat → Env → Store → RS
  | 0, _, _ => .bad
  | n + 1, ds, S => (c ds S).go fun b S1 => if b then match body ds S1 with
      | .nx ds2 S2 => whileN c body n ds2 S2
      | .ct ds2 S2 => whileN c body n ds2 S2
      | .bk ds2 S2 => .nx ds2 S2
      | .rt d S2 => .rt d S2
      | .bad => .bad
    else .nx ds S1
def sWhile (n : Nat) (c : EvT) (body : EvS) : EvS := whileN c body n
theorem pf_while {n : Nat} {c : EvT} {ce : Expr} (hp : PassesOwn (model X.prog X.w) X.A X.env X.xe) (hc : PT X ce (tFT Γ c)) (hb : PSs X bst (tFS Γ body)) : PS X (.While ce bst [] pos) (tFS Γ (sWhile n c body)) := by
  refine ps_imp (ps_while hp hc hb) fun En σ H ⟨β, ds, S, rep, h⟩ => ?_
  refine ⟨fun m σ' H' => ∃ β' ds' S', Rep Γ β' ds' S' σ' H' ∧ After Γ β' H' En (whileN c body m ds' S'), ⟨n, β, ds, S, rep, h⟩, ?_⟩
  rintro m σ' H' ⟨β', ds', S', rep', ha⟩
  cases m with
  | zero => exact ha.elim
  | succ m =>
    unfold whileN at ha
    obtain ⟨b, S1, e1, ha⟩ := go_inv ha
    refine ⟨β', ds', S', b, S1, rep', e1, fun β1 H1 g1 r1 => ?_⟩
    cases b with
    | false =>
      rw [if_neg Bool.false_ne_true] at ha ⊢
      exact ha β1 σ' H1 g1 (rep'.go g1 r1)
    | true =>
      rw [if_pos rfl] at ha ⊢
      refine ⟨fun σ2 H2 => ∃ β2 ds2 S2, Rep Γ β2 ds2 S2 σ2 H2 ∧ After Γ β2 H2 En (whileN c body m ds2 S2), fun σ2 H2 h2 => ⟨m, Nat.lt_succ_self m, h2⟩, β1, ds', S1, rep'.go g1 r1, ?_⟩
      cases hbd : body ds' S1 with
      | nx ds2 S2 =>
        simp only [hbd] at ha
        exact fun β2 σ2 H2 g2 rep2 => ⟨β2, ds2, S2, rep2, After.from (g1.trans g2) ha⟩
      | ct ds2 S2 =>
        simp only [hbd] at ha
        exact fun β2 σ2 H2 g2 rep2 => ⟨β2, ds2, S2, rep2, After.from (g1.trans g2) ha⟩
      | bk ds2 S2 =>
        simp only [hbd] at ha
        exact fun β2 σ2 H2 g2 rep2 => ha β2 σ2 H2 (g1.trans g2) rep2
      | rt d S2 =>
        simp only [hbd] at ha
        exact K1.from ha g1
      | bad => simp only [hbd] at ha; exact ha.elim
end
end Rk

namespace Rk
open PySem PySem.Spec PyProof.Rows L2

def Bt.push (β : Bt) (p : Addr) : Bt := ⟨β.c, p :: β.z⟩
/-- growing, but for what stands at p -/
structure GrowB (p : Addr) (β : Bt) (H : Hp) (β' : Bt) (H' : Hp) : Prop where
  pre : ∃ l, β'.c = β.c ++ l
  ze : β'.z = β.z
  zk : ∀ a ∈ β.z, H' a = H a
  tup : ∀ a xs, Rd H a (.tup xs) → Rd H' a (.tup xs)
  frz : ∀ a o, (∀ ps, o ≠ HO.tbl ps) → a ≠ p → β.out a → Rd H a o → Rd H' a o ∧ β'.out a
  lst : ∀ a xs, a ≠ p → β.out a → H a = some (.lst xs) → H' a = some (.lst xs)
  fz : ∀ a o u, H a = some (.frz o u) → H' a = some (.frz o u)
  ow : ∀ a x, H a = some (.own x) → H' a = some (.own x)
  co : ∀ a q, H a = some (LamX.CodeO a q) → H' a = some (LamX.CodeO a q)
section
variable {Γ : Gm} {β β1 β' : Bt} {H H1 H' : Hp} {p : Addr} {S : Store}
theorem GrowB.start (r : RepSt Γ β S H) {o : HO} (h : H p = none) : GrowB p β H β (upd H p o) :=
  let g := grow_new (o := o) r h
  ⟨g.pre, g.ze, g.zk, g.tup, fun a o t _ n q => g.frz a o t n q, fun a xs _ n q => g.lst a xs n q, g.fz, g.ow, g.co⟩
theorem GrowB.done (g : GrowB p β H β' H') (h : H p = none) : Grow β H β' H' :=
  ⟨g.pre, g.ze, g.zk, g.tup, fun a o t n q => g.frz a o t (rd_ne q h) n q, fun a xs n q => g.lst a xs (ne_of_none q h) n q, g.fz, g.ow, g.co⟩
def Bt.pop (β2 β : Bt) : Bt := ⟨β2.c, β.z⟩
theorem pop_push {β2 : Bt} (e : β2.z = p :: β.z) : (β2.pop β).push p = β2 := by
  cases β2
  simp only [Bt.pop, Bt.push] at e ⊢
  rw [e]
theorem GrowB.trans {β2 : Bt} {H2 : Hp} (g : GrowB p β H β' H') (g' : Grow (β'.push p) H' β2 H2) : GrowB p β H (β2.pop β) H2 := by
  refine ⟨?_, rfl, fun a ha => (g'.zk a (by show a ∈ p :: β'.z; rw [g.ze]; exact List.mem_cons_of_mem _ ha)).trans (g.zk a ha), fun a xs h => g'.tup a xs (g.tup a xs h), fun a o t ne n h => ?_, fun a xs ne n h => ?_, fun a o u h => g'.fz a o u (g.fz a o u h), fun a x h => g'.ow a x (g.ow a x h), fun a q h => g'.co a q (g.co a q h)⟩
  · obtain ⟨l, e⟩ := g.pre
    obtain ⟨l', e'⟩ := g'.pre
    exact ⟨l ++ l', by show β2.c = _; rw [e']; show β'.c ++ l' = _; rw [e, List.append_assoc]⟩
  · obtain ⟨q, n'⟩ := g.frz a o t ne n h
    have np : (β'.push p).out a := ⟨n'.1, by show a ∉ p :: β'.z; simp only [List.mem_cons, not_or]; exact ⟨ne, n'.2⟩⟩
    obtain ⟨q2, n2⟩ := g'.frz a o t np q
    exact ⟨q2, n2.1, n.2⟩
  · obtain ⟨q, n'⟩ := g.frz a _ ntl ne n (.inl h)
    have np : (β'.push p).out a := ⟨n'.1, by show a ∉ p :: β'.z; simp only [List.mem_cons, not_or]; exact ⟨ne, n'.2⟩⟩
    exact g'.lst a xs np (g.lst a xs ne n h)
theorem GrowB.upd (g : GrowB p β H β' H') {xs : List V} {o : HO} (hp : H' p = some (.lst xs)) (hz : p ∉ β.z) : GrowB p β H β' (upd H' p o) := by
  refine ⟨g.pre, g.ze, fun a ha => (upd_ne (fun e => hz (by rw [← e]; exact ha))).trans (g.zk a ha), fun a ys h => ?_, fun a u t ne n h => ⟨upd_rd (g.frz a u t ne n h).1 ne, (g.frz a u t ne n h).2⟩, fun a ys ne n h => by rw [upd_ne ne]; exact g.lst a ys ne n h, fun a w u h => by rw [upd_ne (fun z => by rw [z] at h; rw [g.fz p w u h] at hp; cases hp)]; exact g.fz a w u h, fun a x h => by rw [upd_ne (fun z => by rw [z] at h; rw [g.ow p x h] at hp; cases hp)]; exact g.ow a x h, fun a x h => by rw [upd_ne (fun z => by rw [z] at h; rw [g.co p x h] at hp; exact code_ne (.inl ⟨_, rfl⟩) (Option.some.inj hp).symm)]; exact g.co a x h⟩
  refine upd_rd (g.tup a ys h) ?_
  rintro rfl
  rcases g.tup a ys h with q | ⟨w, q⟩
  · rw [hp] at q; cases q
  · rw [hp] at q; cases q
theorem mon_push {o : HO} (h : H p = none) : Mon β H (β.push p) (L2.upd H p o) :=
  ⟨fun _ _ e => e, fun _ _ q => upd_rd q (rd_ne q h), fun a u _ n q => ⟨upd_rd q (rd_ne q h), n.1, by show a ∉ p :: β.z; simp only [List.mem_cons, not_or]; exact ⟨rd_ne q h, n.2⟩⟩, fun a _ _ q => by rw [upd_ne (ne_of_none q h)]; exact q, fun a _ _ q => by rw [upd_ne (ne_of_none q h)]; exact q, fun a _ q => by rw [upd_ne (ne_of_none q h)]; exact q⟩
theorem mon_pop : Mon (β.push p) H β H := ⟨fun _ _ e => e, fun _ _ q => q, fun a u _ n q => ⟨q, n.1, fun z => n.2 (List.mem_cons_of_mem _ z)⟩, fun _ _ _ q => q, fun _ _ _ q => q, fun _ _ q => q⟩
theorem mon_upd {xs : List V} {o : HO} (hp : H p = some (.lst xs)) : Mon (β.push p) H (β.push p) (L2.upd H p o) := by
  have ne : ∀ a, (β.push p).out a → a ≠ p := fun a n e => n.2 (by rw [e]; exact List.mem_cons_self)
  refine ⟨fun _ _ e => e, fun a ys q => upd_rd q ?_, fun a u _ n q => ⟨upd_rd q (ne a n), n⟩, fun a _ n q => by rw [upd_ne (ne a n)]; exact q, fun a w u q => by rw [upd_ne (fun z => by rw [z, hp] at q; cases q)]; exact q, fun a x q => by rw [upd_ne (fun z => by rw [z, hp] at q; cases q)]; exact q⟩
  rintro rfl
  rcases q with q | ⟨w, q⟩
  · rw [hp] at q; cases q
  · rw [hp] at q; cases q
theorem GrowB.monp (g : GrowB p β H β' H') (h : H p = none) : Mon β H (β'.push p) H' := by
  refine ⟨fun n a e => ?_, g.tup, fun a u t n q => ?_, fun a xs n q => g.lst a xs (ne_of_none q h) n q, g.fz, g.ow⟩
  · obtain ⟨l, e'⟩ := g.pre
    show β'.c[n]? = some a
    rw [e', List.getElem?_append_left (List.getElem?_eq_some_iff.mp e).1]
    exact e
  · have ne := rd_ne q h
    obtain ⟨q', n'⟩ := g.frz a u t ne n q
    refine ⟨q', n'.1, ?_⟩
    show a ∉ p :: β'.z
    simp only [List.mem_cons, not_or]
    exact ⟨ne, n'.2⟩
theorem RepSt.push (r : RepSt Γ β S H) {xs : List V} (h : H p = none) : RepSt Γ (β.push p) S (L2.upd H p (.lst xs)) := by
  refine ⟨r.len, r.nd, fun n a c h1 h2 => (r.at' n a c h1 h2).mon (mon_push h) (upd_ne fun e => r.new_ne h (e ▸ List.mem_of_getElem? h1)), fun a ha => ?_, tabs_new h r.tb⟩
  have ha : a ∈ p :: β.z := ha
  rcases List.mem_cons.mp ha with rfl | ha
  · exact ⟨⟨xs, upd_same⟩, r.new_ne h⟩
  · obtain ⟨⟨ys, e⟩, n⟩ := r.zt a ha
    exact ⟨⟨ys, by rw [upd_ne (show a ≠ p from fun z => r.new_z h (by rw [← z]; exact ha))]; exact e⟩, n⟩
theorem RepSt.pop (r : RepSt Γ (β.push p) S H) : RepSt Γ β S H :=
  ⟨r.len, r.nd, fun n a c h1 h2 => (r.at' n a c h1 h2).mon mon_pop rfl, fun a ha => r.zt a (List.mem_cons_of_mem _ ha), r.tb⟩
theorem RepSt.updz (r : RepSt Γ (β.push p) S H) {xs ys : List V} (hp : H p = some (.lst xs)) : RepSt Γ (β.push p) S (L2.upd H p (.lst ys)) := by
  have hpc : p ∉ β.c := (r.zt p List.mem_cons_self).2
  refine ⟨r.len, r.nd, fun n a c h1 h2 => (r.at' n a c h1 h2).mon (mon_upd hp) (upd_ne fun e => hpc (e ▸ List.mem_of_getElem? h1)), fun a ha => ?_, tabs_cell hp cellO_lst r.tb⟩
  by_cases e : a = p
  · subst e
    exact ⟨⟨ys, upd_same⟩, hpc⟩
  · rw [upd_ne e]
    exact r.zt a ha
end

def wipeD (ds : Env) : List Nat → Env
  | [] => ds
  | v :: vs => (wipeD ds vs).set v none
open Classical in
/-- [el for t in xs if c] -/
noncomputable def compL (gd : Store → Prop) (t : EvG) (c : EvT) (el : EvE) : List D → Env → Store → R (List D)
  | [], _, S => if gd S then .ok [] S else .bad
  | x :: xs, ds, S => if gd S then match t x ds with
    | none => .bad
    | some ds1 => (c ds1 S).bind fun b S1 => if b then (el ds1 S1).bind fun y S2 => (compL gd t c el xs ds S2).bind fun ys S3 => .ok (y :: ys) S3
      else compL gd t c el xs ds S1
    else .bad
noncomputable def fComp (it : EvI) (own : List Nat) (t : EvG) (c : EvT) (el : EvE) : EvE := fun ds S => (it ds S).bind fun p S1 =>
  if p.1.length ≤ sizeLine then (compL p.2 t c el p.1 (wipeD ds own) S1).bind fun ys S2 => .ok (.lst ys) S2 else .bad
def cYes : EvT := fun _ S => .ok true S
section
variable {Γ : Gm} {X : Cx} {β : Bt} {H : Hp}
theorem RepEnv.wipe {σ : L2.St} {ds : Env} (h : RepEnv Γ β H σ ds) : ∀ vs : List Nat, RepEnv Γ β H (L2.wipe σ vs) (wipeD ds vs)
  | [] => h
  | v :: vs => (RepEnv.wipe h vs).wipe1 v
theorem pfts_nil : PTs X [] (tFT Γ cYes) := ⟨fun pins s σ H Q I ⟨β, ds, S, b, S', rep, e, k⟩ => by
  cases e
  exact (pts_nil (X := X)).run pins s σ H Q I (k β H (.refl β H) rep.st)⟩
theorem pfts_one {c : Expr} {t : EvT} (h : PT X c (tFT Γ t)) : PTs X [c] (tFT Γ t) := pts_one h
theorem tLc_of {it : EvI} {own : List Nat} {t : EvG} {c : EvT} {el : EvE} {ws : List Nat} (hw : ∀ j ∈ ws, j ∈ own) {σ : L2.St} {Q : VK} (h : tF Γ (fComp it own t c el) σ H Q) :
    tLc (tFI Γ it) (gF Γ ws t) (tFT Γ c) (tF Γ el) own σ H Q := by
  obtain ⟨β, ds, S, d, S', rep, e, k⟩ := h
  obtain ⟨⟨xs, gd⟩, S1, e1, e⟩ := R.bind_inv e
  simp only at e
  split at e
  case isFalse => cases e
  rename_i hsz
  obtain ⟨ys, SF, e2, e⟩ := R.bind_inv e
  obtain ⟨rfl, rfl⟩ : D.lst ys = d ∧ SF = S' := by cases e; exact ⟨rfl, rfl⟩
  refine ⟨β, ds, S, xs, gd, S1, rep, e1, fun β1 H1 g1 r1 J hJ p hp => ?_⟩
  refine ⟨fun i m H' => m = xs.length - i ∧ i ≤ xs.length ∧ ∃ β' T accV accD rest, GrowB p β1 H1 β' H' ∧ RepSt Γ (β'.push p) T H' ∧ RepEnv Γ (β'.push p) H' (L2.wipe σ own) (wipeD ds own) ∧ H' p = some (.lst accV) ∧ RVs Γ (β'.push p) H' accV accD ∧ accD.length ≤ i ∧
      compL gd t c el (xs.drop i) (wipeD ds own) T = .ok rest SF ∧ accD ++ rest = ys,
    ⟨xs.length, by simp, Nat.zero_le _, β1, S1, [], [], ys, GrowB.start r1 hp, r1.push hp, ((rep.env.mono g1).mon (mon_push hp)).wipe own, upd_same, .nil, Nat.zero_le _, ?_, rfl⟩, ?_⟩
  · rw [List.drop_zero]
    exact e2
  rintro i m H' ⟨rfl, hi, β', T, accV, accD, rest, gb, rT, rE, hpa, racc, hal, ec, ey⟩
  have hpz : p ∉ β1.z := r1.new_z hp
  by_cases hlt : i < xs.length
  · rw [List.drop_eq_getElem_cons hlt] at ec
    unfold compL at ec
    split at ec
    case isFalse => cases ec
    rename_i hgd
    obtain ⟨hgo, hy⟩ := (hJ i (β'.push p) T H' (gb.monp hp) rT hgd).1 hlt
    refine .inr ⟨hgo, fun H2 => ∃ β2 T2 accV2 accD2 rest2, GrowB p β1 H1 β2 H2 ∧ RepSt Γ (β2.push p) T2 H2 ∧ RepEnv Γ (β2.push p) H2 (L2.wipe σ own) (wipeD ds own) ∧ H2 p = some (.lst accV2) ∧ RVs Γ (β2.push p) H2 accV2 accD2 ∧ accD2.length ≤ i + 1 ∧
      compL gd t c el (xs.drop (i + 1)) (wipeD ds own) T2 = .ok rest2 SF ∧ accD2 ++ rest2 = ys, fun H2 h2 => ⟨xs.length - (i + 1), by omega, rfl, hlt, h2⟩, fun x H'' y => ?_⟩
    obtain ⟨gx, kx, tx, d, hd, rvd⟩ := hy x H'' y
    have ed : d = xs[i] := by rw [List.getElem?_eq_getElem hlt] at hd; exact (Option.some.inj hd).symm
    subst ed
    have repx : Rep Γ (β'.push p) (wipeD ds own) T (L2.wipe σ own) H'' := ⟨rT.keep gx kx tx, rE.mono gx⟩
    cases ht : t xs[i] (wipeD ds own) with
    | none => simp only [ht] at ec; cases ec
    | some ds1 =>
      simp only [ht] at ec
      obtain ⟨b, S2, e3, ec⟩ := R.bind_inv ec
      refine ⟨β'.push p, wipeD ds own, T, _, ds1, repx, rvd, ht, fun β9 σ2 H9 sb g9 rep2 => ⟨(sb.wipe hw).trans (wipe_wipe σ own), β9, ds1, T, b, S2, rep2, e3, fun β3 H3 g3 r3 => ?_⟩⟩
      replace gx := gx.trans g9
      have gT : Grow (β'.push p) H' β3 H3 := gx.trans g3
      have z3 : β3.z = p :: β1.z := by rw [gT.ze]; show p :: β'.z = _; rw [gb.ze]
      cases b with
      | false =>
        rw [if_neg Bool.false_ne_true] at ec
        refine iteF ?_
        have hp3 : H3 p = some (.lst accV) := by rw [gT.zk p List.mem_cons_self]; exact hpa
        refine ⟨β3.pop β1, S2, accV, accD, rest, gb.trans gT, ?_, ?_, hp3, ?_, by omega, ec, ey⟩
        · rw [pop_push z3]; exact r3
        · rw [pop_push z3]; exact rE.mono gT
        · rw [pop_push z3]; exact racc.mono gT
      | true =>
        rw [if_pos rfl] at ec
        refine iteT ?_
        obtain ⟨y', S4, e4, ec⟩ := R.bind_inv ec
        obtain ⟨ys', S5, e5, ec⟩ := R.bind_inv ec
        obtain ⟨er, es⟩ : y' :: ys' = rest ∧ S5 = SF := by cases ec; exact ⟨rfl, rfl⟩
        subst er es
        refine ⟨β3, ds1, S2, y', S4, ⟨r3, rep2.env.mono g3⟩, e4, fun β4 v4 H4 g4 r4 rv4 => ?_⟩
        have gT4 : Grow (β'.push p) H' β4 H4 := gT.trans g4
        have z4 : β4.z = p :: β1.z := by rw [gT4.ze]; show p :: β'.z = _; rw [gb.ze]
        have hp4 : H4 p = some (.lst accV) := by rw [gT4.zk p List.mem_cons_self]; exact hpa
        have e44 := pop_push z4
        refine ⟨accV, hp4, by rw [racc.length]; omega, β4.pop β1, S4, accV ++ [v4], accD ++ [y'], ys', (gb.trans gT4).upd hp4 hpz, ?_, ?_, upd_same, ?_, by rw [List.length_append]; simp; omega, e5, by rw [← ey, List.append_assoc]; rfl⟩
        · rw [← e44] at r4
          exact r4.updz hp4
        · have := rE.mono gT4
          rw [← e44] at this
          exact this.mon (mon_upd hp4)
        · have h1 := racc.mono gT4
          rw [← e44] at h1 rv4
          exact ((h1.mon (mon_upd hp4)).append (.cons (rv4.mon (mon_upd hp4)) .nil))
  · have ei : i = xs.length := by omega
    subst ei
    rw [List.drop_length] at ec
    unfold compL at ec
    split at ec
    case isFalse => cases ec
    rename_i hgd
    cases ec
    have gd0 : Grow β1 H1 β' H' := gb.done hp
    refine .inl ⟨(hJ _ (β'.push p) _ H' (gb.monp hp) rT hgd).2 (Nat.le_refl _), ?_⟩
    rw [List.append_nil] at ey
    subst ey
    refine k β' _ H' (g1.trans gd0) rT.pop (.lst ⟨(rT.zt p List.mem_cons_self).2, by rw [gb.ze]; exact hpz⟩ hpa (racc.mon mon_pop))
end
end Rk

namespace Rk
open PySem PySem.Spec PyProof.Rows L2

/-! ### what a def keeps, where no object is being shown -/
structure FnG (P : Program) (w : World) (K : PySem.W.Frag) (mg : Str → Option Value) (base : Heap) (CX : CXT) (k : Nat) (f : Addr) (fd : FuncData) (ps : List Str) (sp : Sp) : Prop where
  len : ∀ vs H Q E, sp vs H Q E → vs.length = ps.length
  run : ∀ (A : Around) (outer : List PySem.Env) (s : Shared) (H : Hp) (args : Args) (us : List Value) (vs : List V) (Q : VK) (E : XK), A.guards = some [] → Room k A → Env0 P w K mg base A outer s H →
    BindsTo s fd args (ps.zip us) → Vals vs us → sp vs H Q E → codeAny (model P w) A (.call (.ref f) args) (CR CX outer P w H s Q E) s
section
variable {X : Cx} {CX : CXT} {k : Nat} {f : Addr} {fd : FuncData} {ps ks : List Str} {sp : Sp} {E : XK} {x : Str} {p pos : Pos} {e : Expr} {es : List Expr} {t tk : TA}
theorem run_g {pins : List (Addr × Obj)} {σ : L2.St} {H : Hp} {s : Shared} {Q : VK} {args : Args} {us : List Value} {vs : List V} (F : FnG X.prog X.w X.K X.mg X.base CX k f fd ps sp) (hg : X.A.guards = some []) (hr : Room k X.A)
    (hb : us.length = ps.length → BindsTo s fd args (ps.zip us)) (hx : Passes CX X E) (I : Inv X pins σ H s) (r : Vals vs us) (h : sp vs H Q E) : wpAny (model X.prog X.w) X.A (call (.ref f) args.pos args.kw) (EP X pins σ Q) X.xe s := by
  have hl : us.length = ps.length := r.length.symm.trans (F.len _ _ _ _ h)
  refine wpAny_call (codeAny_mono (F.run X.A X.stack s H args us vs Q E hg hr I.env0 (hb hl) r h) fun o s' hq => ?_)
  match o, hq with
  | .error e, hq => exact hx pins σ H s e s' I hq
  | .ok (.ret u), hq => exact I.after hq
/-- f(a, ..) -/
theorem pg_call (F : FnG X.prog X.w X.K X.mg X.base CX k f fd ps sp) (hgd : X.A.guards = some []) (hr : Room k X.A) (hg : Gl X x) (hm : X.mg x = some (.ref f)) (hk : PySem.W.keepIn X.K (.ref f) = true) {dvs : List V} {ds : List Value} (hb : Binds X.K fd ps ds) (hd : Vals dvs ds) (hx : Passes CX X E)
    (ha : PA X (e :: es) t) (hdb : (x == ("__debug__" : Str)) = false := by decide) (he : starEach (e :: es) X.env = (false, eval e X.env) :: starEach es X.env := by rfl) (hpl : (backTo pos (starEach es X.env)).any (·.1) = false := by rfl) :
    PE X (.Call (.Name x p) (e :: es) [] pos) (tCall sp dvs E t) := by
  refine ⟨fun pins s σ H Q I h => wpAny_Call_Name_kw (ld_glob I hg hm ?_ hdb)⟩
  refine PySem.W.callWith_K (h₀ := X.base) I.ok.mod.kin hk (thn (ha.run pos pins s σ H _ I h) fun us s1 ⟨vs, H1, I1, r, q⟩ => ⟨I1.kIn, ?_⟩) he hpl
  exact run_g (args := ⟨us, []⟩) F hgd hr (fun hl => hb s1 us I1.kIn hl) hx I1 (r.append hd) q
/-- f() -/
theorem pg_call0 (F : FnG X.prog X.w X.K X.mg X.base CX k f fd ps sp) (hgd : X.A.guards = some []) (hr : Room k X.A) (hg : Gl X x) (hm : X.mg x = some (.ref f)) (hk : PySem.W.keepIn X.K (.ref f) = true) {dvs : List V} {ds : List Value} (hb : Binds X.K fd ps ds) (hd : Vals dvs ds) (hx : Passes CX X E)
    (hdb : (x == ("__debug__" : Str)) = false := by decide) : PE X (.Call (.Name x p) [] [] pos) (tCall sp dvs E tNil) := by
  refine ⟨fun pins s σ H Q I h => wpAny_Call_Name_kw (ld_glob I hg hm ?_ hdb)⟩
  exact PySem.W.callWith_K0 I.kIn hk (run_g (args := ⟨[], []⟩) F hgd hr (fun hl => hb s [] I.kIn hl) hx I (Vals.append .nil hd) h)
/-- f(a, .., n=b, ..) -/
theorem pg_callK {g : List Value → List Value → List Value} {gV : List V → List V → List V} {kws : List Keyword} (F : FnG X.prog X.w X.K X.mg X.base CX k f fd ps sp) (hgd : X.A.guards = some []) (hr : Room k X.A) (hg : Gl X x) (hm : X.mg x = some (.ref f)) (hk : PySem.W.keepIn X.K (.ref f) = true) (hb : KBinds X.K fd ps ks g gV) (hx : Passes CX X E)
    (ha : PA X (e :: es) t) (hkw : PK X kws tk) (hall : (backToKw pos (keywordEach kws X.env)).all (·.1.isSome) = true := by rfl) (hks : (backToKw pos (keywordEach kws X.env)).filterMap (·.1) = ks := by rfl)
    (hdb : (x == ("__debug__" : Str)) = false := by decide) (he : starEach (e :: es) X.env = (false, eval e X.env) :: starEach es X.env := by rfl)
    (hpl : ((backTo pos (starEach (e :: es) X.env)).any (·.1) || (backToKw pos (keywordEach kws X.env)).any (·.1.isNone)) = false := by rfl) :
    PE X (.Call (.Name x p) (e :: es) kws pos) (tCallK sp gV E t tk) := by
  refine ⟨fun pins s σ H Q I h => wpAny_Call_Name_kw (ld_glob I hg hm ?_ hdb)⟩
  refine PySem.W.callWith_KW (h₀ := X.base) I.ok.mod.kin hk hall (thn (ha.run pos pins s σ H _ I h) fun us s1 ⟨vs, H1, I1, r, q⟩ => ?_) hpl he
  refine thn (hkw.run pos pins s1 σ H1 _ I1 q) fun ws s2 ⟨zs, H2, I2, rz, q2⟩ => ⟨I2.kIn, ?_⟩
  rw [hks]
  exact run_g (args := ⟨us, ks.zip ws⟩) F hgd hr (fun hl => hb.to s2 us ws I2.kIn hl) hx I2 (hb.rel r rz) q2
end
/-- a def of the text, by its body -/
theorem fng_of {CX : CXT} {P : Program} {w : World} {K : PySem.W.Frag} {mg : Str → Option Value} {base : Heap} {x qual : Str} {st : Stmt} {f : Addr} {fd : FuncData} {N ps : List Str} {k : Nat} {sp : Sp} (F : Fun K x qual st f fd) (S : FnScope N ps (defScope st))
    (len : ∀ vs H Q E, sp vs H Q E → vs.length = ps.length)
    (hbody : ∀ (cdv : Value), fd.code = cdv → ∀ (A : Around) (outer : List PySem.Env) (s : Shared) (H : Hp) (vs : List V) (Q : VK) (E : XK), (A.deeper (envOfC qual (defScope st) s.heap.objs.size f cdv)).guards = some [] → Room k (A.deeper (envOfC qual (defScope st) s.heap.objs.size f cdv)) → sp vs H Q E →
      ∃ t, PSs (cxOf CX P w K mg base N qual (defScope st) f cdv A outer s H E) (defBody st) t ∧ t { nx := fun _ H' => Q .non H', rt := Q } (start N vs) H) :
    FnG P w K mg base CX (k + 1) f fd ps sp := by
  obtain ⟨oc, od, kV, doc, pm, an, cdv, ct, osl, rfl, lk, hcd⟩ := F.ex
  refine ⟨len, fun A outer s H args us vs Q E hg hr e0 hb r hsp => ?_⟩
  have KX : K.In s.heap := e0.mod.kin.keeps fun b o e => (e0.bs b o e).1
  have lim : s.heap.NoLimit := e0.mod.nolimit.keeps fun b o e => (e0.bs b o e).1
  refine codeAny_call_function hr.depth (KX _ _ lk) rfl S.co S.gen rfl (PySem.W.codeRec_of KX hcd) (hb _ _ _ _ ?_)
  refine wpAny_newFunctionEnv_cells S.kind (fun ⟨n, v⟩ hy => (S.par n (List.of_mem_zip hy).1).imp id fun q => ⟨q, PySem.W.cellsFrom_some _ _ _ (.inl q)⟩) fun env he s1 xx => ?_
  subst he
  refine ⟨lim.keeps xx.toInCall.keep, codeAny_func ?_⟩
  obtain ⟨t, ht, hq⟩ := hbody cdv rfl A outer s H vs Q E hg (hr.deeper _) hsp
  have I := inv_start (CX := CX) (E := E) (qual := qual) (f := f) (cd := cdv) S hr.hd e0 (len _ _ _ _ hsp) r xx
  refine wpAny_mono (ht.run [] s1 (start N vs) H _ I hq) (fun fl s' hs => ?_) fun e s' hs => hs
  have done : ∀ {σ' : L2.St} {H' : Hp} {v : V} {u : Value}, Inv (cxOf CX P w K mg base N qual (defScope st) f cdv A outer s H E) [] σ' H' s' → RelV v u → Q v H' → CE outer P w H s Q u s' :=
    fun {σ' H' v u} J rv q => ⟨v, H', J.os, J.bare, J.base, J.hok, rv, q⟩
  cases fl with
  | ret u =>
    obtain ⟨v, σ', H', J, rv, q⟩ := hs
    exact done J rv q
  | next =>
    obtain ⟨σ', H', J, q⟩ := hs
    exact done (v := V.non) (u := Value.none) J rfl q
  | brk =>
    obtain ⟨_, _, _, q⟩ := hs
    exact False.elim q
  | cont =>
    obtain ⟨_, _, _, q⟩ := hs
    exact False.elim q

/-! ### calls by pure functions -/
abbrev EvC := List D → Store → R D
/-- the values vs stand for xs, on which c is reckoned -/
def rFC (Γ : Gm) (c : EvC) : List V → Hp → VK → Prop := fun vs H Q => ∃ β S xs d S', RepSt Γ β S H ∧ RVs Γ β H vs xs ∧ c xs S = .ok d S' ∧ K1 Γ β H d S' Q
def spF (Γ : Gm) (n : Nat) (c : EvC) : Sp := fun vs H Q _ => vs.length = n ∧ rFC Γ c vs H Q
def fCall (c : EvC) (g : EvA) : EvE := fun ds S => (g ds S).bind c
/-- a call with keywords: g puts the values in the parameters' order -/
def fCallK (c : EvC) (gD : List D → List D → List D) (g k : EvA) : EvE := fun ds S => (g ds S).bind fun xs S1 => (k ds S1).bind fun ys S2 => c (gD xs ys) S2
section
variable {Γ : Gm} {X : Cx} {CX : CXT} {k n : Nat} {f : Addr} {fd : FuncData} {ps ks : List Str} {E : XK} {x : Str} {p pos : Pos} {e : Expr} {es : List Expr} {c : EvC} {g gk : EvA}
theorem tCall_of {dvs : List V} {dds : List D} (hl : ∀ xs S d S', c xs S = .ok d S' → xs.length = n) (hd : ∀ β H, RVs Γ β H dvs dds) {σ : L2.St} {H : Hp} {Q : VK} (h : tF Γ (fCall (fun xs S => c (xs ++ dds) S) g) σ H Q) : tCall (spF Γ n c) dvs E (tFA Γ g) σ H Q := by
  obtain ⟨β, ds, S, d, S', rep, ee, k⟩ := h
  obtain ⟨xs, S1, e1, ee⟩ := R.bind_inv ee
  refine ⟨β, ds, S, xs, S1, rep, e1, fun β1 vs H1 g1 r1 rv => ⟨?_, β1, S1, xs ++ dds, d, S', r1, rv.append (hd β1 H1), ee, k.from g1⟩⟩
  rw [(rv.append (hd β1 H1)).length]
  exact hl _ _ _ _ ee
theorem app_nil_c : (fun xs S => c (xs ++ []) S) = c := by
  funext xs S
  rw [List.append_nil]
theorem pf_call (F : FnG X.prog X.w X.K X.mg X.base CX k f fd ps (spF Γ n c)) (hl : ∀ xs S d S', c xs S = .ok d S' → xs.length = n) (hgd : X.A.guards = some []) (hr : Room k X.A) (hg : Gl X x) (hm : X.mg x = some (.ref f)) (hk : PySem.W.keepIn X.K (.ref f) = true) (hb : Binds X.K fd ps []) (hx : Passes CX X E)
    (ha : PA X (e :: es) (tFA Γ g)) (hdb : (x == ("__debug__" : Str)) = false := by decide) (he : starEach (e :: es) X.env = (false, eval e X.env) :: starEach es X.env := by rfl) (hpl : (backTo pos (starEach es X.env)).any (·.1) = false := by rfl) :
    PE X (.Call (.Name x p) (e :: es) [] pos) (tF Γ (fCall c g)) :=
  pe_imp (pg_call F hgd hr hg hm hk hb .nil hx ha hdb he hpl) fun σ H Q h => tCall_of (dds := []) hl (fun _ _ => .nil) (by rw [app_nil_c]; exact h)
theorem pf_call0 (F : FnG X.prog X.w X.K X.mg X.base CX k f fd ps (spF Γ n c)) (hl : ∀ xs S d S', c xs S = .ok d S' → xs.length = n) (hgd : X.A.guards = some []) (hr : Room k X.A) (hg : Gl X x) (hm : X.mg x = some (.ref f)) (hk : PySem.W.keepIn X.K (.ref f) = true) (hb : Binds X.K fd ps []) (hx : Passes CX X E)
    (hdb : (x == ("__debug__" : Str)) = false := by decide) : PE X (.Call (.Name x p) [] [] pos) (tF Γ (fCall c fNil)) :=
  pe_imp (pg_call0 F hgd hr hg hm hk hb .nil hx hdb) fun σ H Q h => by
    obtain ⟨β, ds, S, d, S', rep, ee, k⟩ := h
    have ee : c [] S = .ok d S' := ee
    exact ⟨by show 0 = n; rw [← hl _ _ _ _ ee]; rfl, β, S, [], d, S', rep.st, .nil, ee, k⟩
theorem pf_callB {id : String} (hc : CallR X (.builtin id) (rFC Γ c)) (hg : Gl X x) (hm : X.mg x = none) (hv : bootBuiltins x = some (.builtin id)) (ha : PA X (e :: es) (tFA Γ g)) (hn : x ≠ "__name__" := by decide) (hdb : (x == ("__debug__" : Str)) = false := by decide)
    (he : starEach (e :: es) X.env = (false, eval e X.env) :: starEach es X.env := by rfl) (hpl : (backTo pos (starEach es X.env)).any (·.1) = false := by rfl) : PE X (.Call (.Name x p) (e :: es) [] pos) (tF Γ (fCall c g)) :=
  pe_imp (pe_callB hc hg hm hv ha hn hdb he hpl) fun σ H Q h => by
    obtain ⟨β, ds, S, d, S', rep, ee, k⟩ := h
    obtain ⟨xs, S1, e1, ee⟩ := R.bind_inv ee
    exact ⟨β, ds, S, xs, S1, rep, e1, fun β1 vs H1 g1 r1 rv => ⟨β1, S1, xs, d, S', r1, rv, ee, k.from g1⟩⟩
theorem pf_callTy {T : String} (hc : CallR X (.type T) (rFC Γ c)) (hg : Gl X x) (hm : X.mg x = none) (hv : bootBuiltins x = some (.type T)) (ha : PA X (e :: es) (tFA Γ g)) (hn : x ≠ "__name__" := by decide) (hdb : (x == ("__debug__" : Str)) = false := by decide)
    (he : starEach (e :: es) X.env = (false, eval e X.env) :: starEach es X.env := by rfl) (hpl : (backTo pos (starEach es X.env)).any (·.1) = false := by rfl) : PE X (.Call (.Name x p) (e :: es) [] pos) (tF Γ (fCall c g)) :=
  pe_imp (pe_callTy hc hg hm hv ha hn hdb he hpl) fun σ H Q h => by
    obtain ⟨β, ds, S, d, S', rep, ee, k⟩ := h
    obtain ⟨xs, S1, e1, ee⟩ := R.bind_inv ee
    exact ⟨β, ds, S, xs, S1, rep, e1, fun β1 vs H1 g1 r1 rv => ⟨β1, S1, xs, d, S', r1, rv, ee, k.from g1⟩⟩
end
end Rk

namespace Rk
open PySem PySem.Spec PyProof.Rows L2
section
variable {Γ : Gm} {X : Cx}

/-! ### len, int, str, list, tuple -/
def lenB (S : Store) : D → Option Nat
  | .str z => if z.length ≤ sizeLine then some z.length else none
  | d => match asSeq S d with
    | some xs => some xs.length
    | none => none
def lenC : EvC := fun xs S => match xs with
  | [d] => match lenB S d with
    | some n => .ok (.int n) S
    | none => .bad
  | _ => .bad
theorem rvs1 {β : Bt} {H : Hp} {vs : List V} {d : D} (h : RVs Γ β H vs [d]) : ∃ v, vs = [v] ∧ RV Γ β H v d := by
  cases h with
  | cons h r => cases r; exact ⟨_, rfl, h⟩
theorem rvs2 {β : Bt} {H : Hp} {vs : List V} {d e : D} (h : RVs Γ β H vs [d, e]) : ∃ v w, vs = [v, w] ∧ RV Γ β H v d ∧ RV Γ β H w e := by
  cases h with
  | cons h r => obtain ⟨w, rfl, r1⟩ := rvs1 r; exact ⟨_, _, rfl, h, r1⟩
theorem cr_len (hK : X.K = Γ.K) : CallR X (.builtin "len") (rFC Γ lenC) := by
  intro pins s σ H vs us Q I rus ⟨β, S, xs, d, S', r, rv, e, k⟩
  unfold lenC at e
  split at e
  case h_2 => cases e
  rename_i x
  cases hn : lenB S x with
  | none => rw [hn] at e; cases e
  | some n =>
    rw [hn] at e
    cases e
    obtain ⟨v, rfl, r1⟩ := rvs1 rv
    have q : Q (.int n) H := k.self r (.int _)
    by_cases hz : ∃ z, x = .str z
    · obtain ⟨z, rfl⟩ := hz
      simp only [lenB] at hn
      split at hn
      · rename_i hl
        cases hn
        cases rv_str r1
        exact call_len_str pins s σ H _ us Q I rus ⟨z, rfl, hl, q⟩
      · cases hn
    · have hs : ∃ xs, asSeq S x = some xs ∧ xs.length = n := by
        cases x <;> first
          | exact absurd ⟨_, rfl⟩ hz
          | (simp only [lenB] at hn; split at hn <;> first | (rename_i xs hx; exact ⟨xs, hx, Option.some.inj hn⟩) | cases hn)
      obtain ⟨ys, hy, rfl⟩ := hs
      obtain ⟨a, ws, rfl, h, qq⟩ := asSeq_of r r1 hy
      refine call_len_seq pins s σ H _ us Q I rus ⟨a, ws, rfl, by rw [hK]; exact h, ?_⟩
      rw [qq.length]
      exact q
def intC : EvC := fun xs S => match xs with
  | [.int i] => .ok (.int i) S
  | [.bl b] => .ok (.int (if b then 1 else 0)) S
  | _ => .bad
theorem cr_int : CallR X (.type "int") (rFC Γ intC) := by
  intro pins s σ H vs us Q I rus ⟨β, S, xs, d, S', r, rv, e, k⟩
  unfold intC at e
  split at e
  · cases e
    obtain ⟨v, rfl, r1⟩ := rvs1 rv
    cases rv_int r1
    exact call_int1 pins s σ H _ us Q I rus (.inl ⟨_, rfl, k.self r (.int _)⟩)
  · cases e
    obtain ⟨v, rfl, r1⟩ := rvs1 rv
    cases rv_bl r1
    exact call_int1 pins s σ H _ us Q I rus (.inr ⟨_, rfl, k.self r (.int _)⟩)
  · cases e
def strC : EvC := fun xs S => match xs with
  | [.int i] => if i.natAbs.log2 < 1920 then .ok (.str (toString i)) S else .bad
  | [.str z] => .ok (.str z) S
  | _ => .bad
theorem cr_str : CallR X (.type "str") (rFC Γ strC) := by
  intro pins s σ H vs us Q I rus ⟨β, S, xs, d, S', r, rv, e, k⟩
  unfold strC at e
  split at e
  · split at e
    · rename_i hl
      cases e
      obtain ⟨v, rfl, r1⟩ := rvs1 rv
      cases rv_int r1
      exact call_str_int pins s σ H _ us Q I rus ⟨_, rfl, hl, k.self r (.str _)⟩
    · cases e
  · cases e
    obtain ⟨v, rfl, r1⟩ := rvs1 rv
    cases rv_str r1
    exact SkE.call_str_str pins s σ H _ us Q I rus ⟨_, rfl, k.self r (.str _)⟩
  · cases e
def listC : EvC := fun xs S => match xs with
  | [d] => match asSeq S d with
    | some ys => .ok (.lst ys) S
    | none => .bad
  | _ => .bad
/-- a new list that may change -/
def listN : EvC := fun xs S => match xs with
  | [d] => match asSeq S d with
    | some ys => .ok (.ref S.length) (S ++ [.lst ys])
    | none => .bad
  | _ => .bad
theorem cr_list (hK : X.K = Γ.K) : CallR X (.type "list") (rFC Γ listC) := by
  intro pins s σ H vs us Q I rus ⟨β, S, xs, d, S', r, rv, e, k⟩
  unfold listC at e
  split at e
  case h_2 => cases e
  rename_i x
  cases hx : asSeq S x with
  | none => rw [hx] at e; cases e
  | some ys =>
    rw [hx] at e
    cases e
    obtain ⟨v, rfl, r1⟩ := rvs1 rv
    obtain ⟨a, ws, rfl, h, qq⟩ := asSeq_of r r1 hx
    exact call_list_of pins s σ H _ us Q I rus ⟨a, ws, rfl, by rw [hK]; exact h, fun l hn => k.lst r hn qq⟩
theorem cr_listN (hK : X.K = Γ.K) : CallR X (.type "list") (rFC Γ listN) := by
  intro pins s σ H vs us Q I rus ⟨β, S, xs, d, S', r, rv, e, k⟩
  unfold listN at e
  split at e
  case h_2 => cases e
  rename_i x
  cases hx : asSeq S x with
  | none => rw [hx] at e; cases e
  | some ys =>
    rw [hx] at e
    cases e
    obtain ⟨v, rfl, r1⟩ := rvs1 rv
    obtain ⟨a, ws, rfl, h, qq⟩ := asSeq_of r r1 hx
    exact call_list_of pins s σ H _ us Q I rus ⟨a, ws, rfl, by rw [hK]; exact h, fun l hn => k.cell r hn qq⟩
def tupleC : EvC := fun xs S => match xs with
  | [.tup ys] => .ok (.tup ys) S
  | [d] => match asL S d with
    | some ys => .ok (.tup ys) S
    | none => .bad
  | _ => .bad
theorem cr_tuple (hK : X.K = Γ.K) : CallR X (.type "tuple") (rFC Γ tupleC) := by
  intro pins s σ H vs us Q I rus ⟨β, S, xs, d, S', r, rv, e, k⟩
  unfold tupleC at e
  split at e
  · cases e
    obtain ⟨v, rfl, r1⟩ := rvs1 rv
    obtain ⟨a, ws, rfl, h, qq⟩ := rv_tup r1
    exact call_tuple_of pins s σ H _ us Q I rus ⟨a, ws, rfl, .inr ⟨by rw [hK]; exact h, k.self r (.tup h qq)⟩⟩
  · rename_i x _
    cases hx : asL S x with
    | none => rw [hx] at e; cases e
    | some ys =>
      rw [hx] at e
      cases e
      obtain ⟨v, rfl, r1⟩ := rvs1 rv
      obtain ⟨a, ws, rfl, h, qq⟩ := asL_of r r1 hx
      exact call_tuple_of pins s σ H _ us Q I rus ⟨a, ws, rfl, .inl ⟨by rw [hK]; exact h, fun l hn => k.tup r hn qq⟩⟩
  · cases e

/-! ### isinstance of a built-in class -/
def tyN (S : Store) : D → Option String
  | .non => some "NoneType"
  | .bl _ => some "bool"
  | .int _ => some "int"
  | .str _ => some "str"
  | .tup _ => some "tuple"
  | .lst _ => some "list"
  | .rol _ => some "list"
  | .dct _ => some "dict"
  | .ref n => match S[n]? with
    | some (.lst _) => some "list"
    | some (.dct _) => some "dict"
    | _ => none
  | _ => none
def isiC : EvC := fun xs S => match xs with
  | [d, .ty T] => match tyN S d with
    | some t => match kitB t T with
      | some b => .ok (.bl b) S
      | none => .bad
    | none => .bad
  | _ => .bad
theorem tyX_of {β : Bt} {H : Hp} {S : Store} {v : V} {d : D} {t : String} (r : RepSt Γ β S H) (rv : RV Γ β H v d) (e : tyN S d = some t) : TyX Γ.K H v (.type t) := by
  cases rv with
  | non => cases e; exact .base .non
  | bl b => cases e; exact .base (.bl b)
  | int i => cases e; exact .base (.int i)
  | str x => cases e; exact .base (.str x)
  | tup h q =>
    cases e
    rcases h with (h | ⟨o, h⟩) | ⟨o, its, n, hk, hc, _⟩
    · exact .base (.tup h)
    · exact .fTuple h
    · exact .kTuple hk hc
  | lst n h q => cases e; exact .base (.lst h)
  | rol n h q =>
    cases e
    rcases h with h | ⟨o, h⟩
    · exact .base (.lst h)
    · exact .base (.frz h)
  | rolK h q => cases e; obtain ⟨o, its, n, hk, hc, _⟩ := h; exact .kList hk hc
  | dct n h q =>
    cases e
    rcases h with h | ⟨o, h⟩
    · exact .base (.dK h)
    · exact .fDict h
  | kd h q => cases e
  | ref h =>
    simp only [tyN] at e
    split at e
    · rename_i xs hs
      cases e
      obtain ⟨vs, h1, q⟩ := r.cellOf h hs
      exact .base (.lst h1)
    · rename_i xs hs
      cases e
      obtain ⟨vs, h1, q⟩ := r.cellOf h hs
      exact .base (.dK h1)
    · cases e
  | fn g => cases e
  | ty n => cases e
theorem cr_isi (hK : X.K = Γ.K) : CallR X (.builtin "isinstance") (rFC Γ isiC) := by
  intro pins s σ H vs us Q I rus ⟨β, S, xs, d, S', r, rv, e, k⟩
  unfold isiC at e
  split at e
  case h_2 => cases e
  rename_i x T
  cases ht : tyN S x with
  | none => rw [ht] at e; cases e
  | some t =>
    rw [ht] at e
    cases hb : kitB t T with
    | none => simp only [hb] at e; cases e
    | some b =>
      simp only [hb] at e
      cases e
      obtain ⟨v, w', rfl, r1, rt⟩ := rvs2 rv
      cases rt
      exact call_isi pins s σ H _ us Q I rus ⟨v, .ty T, .type t, .type T, b, rfl, .ty T, by rw [hK]; exact tyX_of r r1 ht, kit_ty hb, k.self r (.bl b)⟩

/-! ### all, any, sum -/
def bools : List D → Option (List Bool)
  | [] => some []
  | .bl b :: r => (bools r).map (b :: ·)
  | _ :: _ => none
theorem bools_of {β : Bt} {H : Hp} : ∀ {vs : List V} {ds : List D} {bs : List Bool}, RVs Γ β H vs ds → bools ds = some bs → vs = bs.map V.bl
  | _, _, _, .nil, e => by cases e; rfl
  | _, _, _, .cons (d := d) h r, e => by
    cases d <;> simp only [bools] at e <;> first | cases e | skip
    obtain ⟨bs, e1, rfl⟩ := Option.map_eq_some_iff.mp e
    rw [List.map_cons, rv_bl h, bools_of r e1]
def allC : EvC := fun xs S => match xs with
  | [d] => match asL S d with
    | some ys => match bools ys with
      | some bs => .ok (.bl (bs.all id)) S
      | none => .bad
    | none => .bad
  | _ => .bad
def anyC : EvC := fun xs S => match xs with
  | [d] => match asL S d with
    | some ys => match bools ys with
      | some bs => .ok (.bl (bs.any id)) S
      | none => .bad
    | none => .bad
  | _ => .bad
theorem cr_allD (hK : X.K = Γ.K) (hc : X.calm = true) : CallR X (.builtin "all") (rFC Γ allC) := by
  intro pins s σ H vs us Q I rus ⟨β, S, xs, d, S', r, rv, e, k⟩
  unfold allC at e
  split at e
  case h_2 => cases e
  rename_i x
  cases hx : asL S x with
  | none => rw [hx] at e; cases e
  | some ys =>
    rw [hx] at e
    cases hb : bools ys with
    | none => simp only [hb] at e; cases e
    | some bs =>
      simp only [hb] at e
      cases e
      obtain ⟨v, rfl, r1⟩ := rvs1 rv
      obtain ⟨a, ws, rfl, h, qq⟩ := asL_of r r1 hx
      rw [bools_of qq hb] at h
      exact cr_all hc pins s σ H _ us Q I rus ⟨a, bs, rfl, by rw [hK]; exact h, k.self r (.bl _)⟩
theorem cr_anyD (hK : X.K = Γ.K) (hc : X.calm = true) : CallR X (.builtin "any") (rFC Γ anyC) := by
  intro pins s σ H vs us Q I rus ⟨β, S, xs, d, S', r, rv, e, k⟩
  unfold anyC at e
  split at e
  case h_2 => cases e
  rename_i x
  cases hx : asL S x with
  | none => rw [hx] at e; cases e
  | some ys =>
    rw [hx] at e
    cases hb : bools ys with
    | none => simp only [hb] at e; cases e
    | some bs =>
      simp only [hb] at e
      cases e
      obtain ⟨v, rfl, r1⟩ := rvs1 rv
      obtain ⟨a, ws, rfl, h, qq⟩ := asL_of r r1 hx
      rw [bools_of qq hb] at h
      exact cr_any hc pins s σ H _ us Q I rus ⟨a, bs, rfl, by rw [hK]; exact h, k.self r (.bl _)⟩
def intsD : List D → Option (List Int)
  | [] => some []
  | .int b :: r => (intsD r).map (b :: ·)
  | _ :: _ => none
theorem intsD_of {β : Bt} {H : Hp} : ∀ {vs : List V} {ds : List D} {bs : List Int}, RVs Γ β H vs ds → intsD ds = some bs → vs = bs.map V.int
  | _, _, _, .nil, e => by cases e; rfl
  | _, _, _, .cons (d := d) h r, e => by
    cases d <;> simp only [intsD] at e <;> first | cases e | skip
    obtain ⟨bs, e1, rfl⟩ := Option.map_eq_some_iff.mp e
    rw [List.map_cons, rv_int h, intsD_of r e1]
def sumC : EvC := fun xs S => match xs with
  | [d] => match asL S d with
    | some ys => match intsD ys with
      | some bs => .ok (.int bs.sum) S
      | none => .bad
    | none => .bad
  | _ => .bad
theorem cr_sumD (hK : X.K = Γ.K) (hc : X.calm = true) : CallR X (.builtin "sum") (rFC Γ sumC) := by
  intro pins s σ H vs us Q I rus ⟨β, S, xs, d, S', r, rv, e, k⟩
  unfold sumC at e
  split at e
  case h_2 => cases e
  rename_i x
  cases hx : asL S x with
  | none => rw [hx] at e; cases e
  | some ys =>
    rw [hx] at e
    cases hb : intsD ys with
    | none => simp only [hb] at e; cases e
    | some bs =>
      simp only [hb] at e
      cases e
      obtain ⟨v, rfl, r1⟩ := rvs1 rv
      obtain ⟨a, ws, rfl, h, qq⟩ := asL_of r r1 hx
      rw [intsD_of qq hb] at h
      exact cr_sum hc pins s σ H _ us Q I rus ⟨a, bs, rfl, by rw [hK]; exact h, k.self r (.int _)⟩
def maxC : EvC := fun xs S => match xs with
  | [.int i, .int j] => .ok (.int (if j > i then j else i)) S
  | _ => .bad
def minC : EvC := fun xs S => match xs with
  | [.int i, .int j] => .ok (.int (if j < i then j else i)) S
  | _ => .bad
theorem cr_max2 (hc : X.calm = true) : CallR X (.builtin "max") (rFC Γ maxC) := by
  intro pins s σ H vs us Q I rus ⟨β, S, xs, d, S', r, rv, e, k⟩
  unfold maxC at e
  split at e
  case h_2 => cases e
  cases e
  obtain ⟨v, w', rfl, r1, rt⟩ := rvs2 rv
  cases rv_int r1
  cases rv_int rt
  exact call_max2 hc pins s σ H _ us Q I rus ⟨_, _, rfl, k.self r (.int _)⟩
theorem cr_min2 (hc : X.calm = true) : CallR X (.builtin "min") (rFC Γ minC) := by
  intro pins s σ H vs us Q I rus ⟨β, S, xs, d, S', r, rv, e, k⟩
  unfold minC at e
  split at e
  case h_2 => cases e
  cases e
  obtain ⟨v, w', rfl, r1, rt⟩ := rvs2 rv
  cases rv_int r1
  cases rv_int rt
  exact call_min2 hc pins s σ H _ us Q I rus ⟨_, _, rfl, k.self r (.int _)⟩

/-! ### repr -/
def reprC : EvC := fun xs S => match xs with
  | [d] => match toPS S d with
    | some p => if p.showable = true ∧ p.shown.length ≤ sizeLine ∧ p.depth ≤ 64 ∧ p.hasDict = false then .ok (.str p.shown) S else .bad
    | none => .bad
  | _ => .bad
theorem cr_repr (hK : X.K = Γ.K) (hg : X.A.guards = some []) (hu : X.A.units + 66 < cLine) : CallR X (.builtin "repr") (rFC Γ reprC) := by
  intro pins s σ H vs us Q I rus ⟨β, S, xs, d, S', r, rv, e, k⟩
  unfold reprC at e
  split at e
  case h_2 => cases e
  rename_i x
  cases hp : toPS S x with
  | none => rw [hp] at e; cases e
  | some p =>
    simp only [hp] at e
    split at e
    case isFalse => cases e
    rename_i hh
    cases e
    obtain ⟨hs, hz, hd, hn⟩ := hh
    obtain ⟨v, rfl, r1⟩ := rvs1 rv
    obtain ⟨u, rfl, ru⟩ := vals1 rus
    have q : Q (.str p.shown) H := k.self r (.str _)
    have dp : Dp X.K H v p := by rw [hK]; exact dpS_of r r1 hp
    have fin : ∀ (h' : Heap) (tk : Nat) (t : Tok), (∀ b o, s.heap.get? b = some o → h'.get? b = some o) → EP X pins σ Q (.str p.shown t) { s with heap := h', toks := tk } := fun h' tk t hk =>
      ⟨.str p.shown, H, I.kept (h' := h') (t' := tk) hk, ⟨t, rfl⟩, q⟩
    obtain ⟨as, rd⟩ := Dp.reads I p v u dp ru
    by_cases hr : ∃ a, v = .ref a
    · obtain ⟨a, rfl⟩ := hr
      obtain rfl : u = Value.ref a := ru
      exact repr_of_reads' rd hs (fun z => by rw [hn] at z; cases z) hg (by omega) (fun _ _ z => z) (fun h' t tk hk => fin h' tk t hk) hz
    · cases dp with
      | non => cases ru; exact call_repr_gives (typeIs_none s) F.slot_NoneType_repr F.entry_NoneType_repr (F.args_NoneType_repr_1 _) gives_none_repr (fin s.heap _ _ fun _ _ z => z)
      | bl b =>
        cases ru
        exact call_repr_gives (PySem.typeIs_bool s b) F.slot_bool_repr F.entry_bool_repr (F.args_bool_repr_1 _) (gives_bool_repr b) (fin s.heap _ _ fun _ _ z => z) (hx := by cases b <;> decide)
      | int i =>
        obtain ⟨t, rfl⟩ := ru
        exact PySem.P.repr_of_int (by simpa [PyData.showable] using hs) (fin s.heap _ _ fun _ _ z => z)
      | str z =>
        obtain ⟨t, rfl⟩ := ru
        exact call_repr_gives (typeIs_str s z t) F.slot_str_repr F.entry_str_repr (F.args_str_repr_1 _) (gives_str_repr z t) (fin s.heap _ _ fun _ _ z => z) (hx := hz)
      | lst _ _ => exact absurd ⟨_, rfl⟩ hr
      | tup _ _ => exact absurd ⟨_, rfl⟩ hr
end
end Rk

namespace Rk
open PySem PySem.Spec PyProof.Rows L2

/-! ### comprehensions as values -/
section
variable {Γ : Gm} {X : Cx} {pos : Pos}
theorem pf_lc {elt tg iter : Expr} {ifs : List Expr} {scope : Scope} {own : List (Str × Nat)} {wi : EvI} {ws : List Nat} {g : EvG} {tt : EvT} {te : EvE} (hc : X.calm = true) (hN : X.N.Nodup) (hw : ∀ j ∈ ws, j ∈ own.map (·.2)) (hi : PI X tg iter (tFI Γ wi)) (ok : BlkOk X.N X.env.scope scope own)
    (hg : ∀ (s : Shared) (H : Hp) (C : Addr) (cl : List (Str × Addr)) (fp : List Addr), PG (X.blk s H scope (compEnvC scope cl C X.env) fp) tg (gF Γ ws g)) (ht : ∀ (s : Shared) (H : Hp) (C : Addr) (cl : List (Str × Addr)) (fp : List Addr), PTs (X.blk s H scope (compEnvC scope cl C X.env) fp) ifs (tFT Γ tt))
    (he : ∀ (s : Shared) (H : Hp) (C : Addr) (cl : List (Str × Addr)) (fp : List Addr), PE (X.blk s H scope (compEnvC scope cl C X.env) fp) elt (tF Γ te)) (hs : ∀ x, foldedSetIterable iter X.env x = pure x := by intro _; rfl) :
    PE X (.ListComp elt [⟨tg, iter, ifs, 0⟩] scope pos) (tF Γ (fComp wi (own.map (·.2)) g tt te)) :=
  pe_imp (pe_lc hc hN hi ok hg ht he hs) fun _ _ _ h => tLc_of hw h
theorem pf_setLc {i : Nat} {y : Str} {py : Pos} {elt tg iter : Expr} {ifs : List Expr} {scope : Scope} {own : List (Str × Nat)} {spos : Pos} {wi : EvI} {ws : List Nat} {g : EvG} {tt : EvT} {te : EvE} (hc : X.calm = true) (hN : X.N.Nodup) (hw : ∀ j ∈ ws, j ∈ own.map (·.2)) (hy : X.N[i]? = some y) (hyl : X.env.scope.names.lookup y = some .local)
    (hsw : swapsWith (.ListComp elt [⟨tg, iter, ifs, 0⟩] scope pos) (some (.Name y py)) spos.line X.env = pure true) (hi : PI X tg iter (tFI Γ wi)) (ok : BlkOk X.N X.env.scope scope own)
    (hg : ∀ (s : Shared) (H : Hp) (C : Addr) (cl : List (Str × Addr)) (fp : List Addr), PG (X.blk s H scope (compEnvC scope cl C X.env) fp) tg (gF Γ ws g)) (ht : ∀ (s : Shared) (H : Hp) (C : Addr) (cl : List (Str × Addr)) (fp : List Addr), PTs (X.blk s H scope (compEnvC scope cl C X.env) fp) ifs (tFT Γ tt))
    (he : ∀ (s : Shared) (H : Hp) (C : Addr) (cl : List (Str × Addr)) (fp : List Addr), PE (X.blk s H scope (compEnvC scope cl C X.env) fp) elt (tF Γ te)) (hs : ∀ x, foldedSetIterable iter X.env x = pure x := by intro _; rfl) :
    PS X (.Assign [.Name y py] (.ListComp elt [⟨tg, iter, ifs, 0⟩] scope pos) spos) (tFS Γ (sSet i (fComp wi (own.map (·.2)) g tt te))) :=
  ps_imp (ps_setLc hc hN hy hyl hsw hi ok hg ht he hs) fun D σ H h => by
    obtain ⟨β, ds, S, rep, h⟩ := h
    obtain ⟨d, S1, e1, h⟩ := go_inv h
    exact tLc_of hw ⟨β, ds, S, d, S1, rep, e1, fun β1 v H1 g r rv => h β1 _ H1 g ⟨r, (rep.env.mono g).set rv i⟩⟩

/-! ### calls with keywords -/
def gLast (xs ys : List D) : List D := xs ++ ys
end
section
variable {Γ : Gm} {X : Cx} {CX : CXT} {k n : Nat} {f : Addr} {fd : FuncData} {ps ks : List Str} {E : XK} {x : Str} {p pos : Pos} {e : Expr} {es : List Expr} {kws : List Keyword} {c : EvC} {ga gk : EvA} {g : List Value → List Value → List Value} {gV : List V → List V → List V} {gD : List D → List D → List D}
theorem tCallK_of (hl : ∀ xs S d S', c xs S = .ok d S' → xs.length = n) (hr : ∀ β H vs zs xs ys, RVs Γ β H vs xs → RVs Γ β H zs ys → RVs Γ β H (gV vs zs) (gD xs ys)) {σ : L2.St} {H : Hp} {Q : VK} (h : tF Γ (fCallK c gD ga gk) σ H Q) : tCallK (spF Γ n c) gV E (tFA Γ ga) (tFA Γ gk) σ H Q := by
  obtain ⟨β, ds, S, d, S', rep, ee, k⟩ := h
  obtain ⟨xs, S1, e1, ee⟩ := R.bind_inv ee
  obtain ⟨ys, S2, e2, ee⟩ := R.bind_inv ee
  refine ⟨β, ds, S, xs, S1, rep, e1, fun β1 vs H1 g1 r1 rv => ⟨β1, ds, S1, ys, S2, rep.go g1 r1, e2, fun β2 zs H2 g2 r2 rz => ?_⟩⟩
  have q := hr _ _ _ _ _ _ (rv.mono g2) rz
  exact ⟨by rw [q.length]; exact hl _ _ _ _ ee, β2, S2, gD xs ys, d, S', r2, q, ee, k.from (g1.trans g2)⟩
theorem pf_callK (F : FnG X.prog X.w X.K X.mg X.base CX k f fd ps (spF Γ n c)) (hl : ∀ xs S d S', c xs S = .ok d S' → xs.length = n) (hrr : ∀ β H vs zs xs ys, RVs Γ β H vs xs → RVs Γ β H zs ys → RVs Γ β H (gV vs zs) (gD xs ys)) (hgd : X.A.guards = some []) (hr : Room k X.A) (hg : Gl X x) (hm : X.mg x = some (.ref f)) (hk : PySem.W.keepIn X.K (.ref f) = true) (hb : KBinds X.K fd ps ks g gV) (hx : Passes CX X E)
    (ha : PA X (e :: es) (tFA Γ ga)) (hkw : PK X kws (tFA Γ gk)) (hall : (backToKw pos (keywordEach kws X.env)).all (·.1.isSome) = true := by rfl) (hks : (backToKw pos (keywordEach kws X.env)).filterMap (·.1) = ks := by rfl)
    (hdb : (x == ("__debug__" : Str)) = false := by decide) (he : starEach (e :: es) X.env = (false, eval e X.env) :: starEach es X.env := by rfl)
    (hpl : ((backTo pos (starEach (e :: es) X.env)).any (·.1) || (backToKw pos (keywordEach kws X.env)).any (·.1.isNone)) = false := by rfl) :
    PE X (.Call (.Name x p) (e :: es) kws pos) (tF Γ (fCallK c gD ga gk)) :=
  pe_imp (pg_callK F hgd hr hg hm hk hb hx ha hkw hall hks hdb he hpl) fun _ _ _ h => tCallK_of hl hrr h
/-- f(n=b, ..) -/
theorem pf_callK0 (F : FnG X.prog X.w X.K X.mg X.base CX k f fd ps (spF Γ n c)) (hl : ∀ xs S d S', c xs S = .ok d S' → xs.length = n) (hrr : ∀ β H vs zs xs ys, RVs Γ β H vs xs → RVs Γ β H zs ys → RVs Γ β H (gV vs zs) (gD xs ys)) (hgd : X.A.guards = some []) (hr : Room k X.A) (hg : Gl X x) (hm : X.mg x = some (.ref f)) (hk : PySem.W.keepIn X.K (.ref f) = true) (hb : KBinds X.K fd ps ks g gV) (hx : Passes CX X E)
    (hkw : PK X kws (tFA Γ gk)) (hall : (backToKw pos (keywordEach kws X.env)).all (·.1.isSome) = true := by rfl) (hks : (backToKw pos (keywordEach kws X.env)).filterMap (·.1) = ks := by rfl)
    (hdb : (x == ("__debug__" : Str)) = false := by decide)
    (hpl : ((backTo pos (starEach [] X.env)).any (·.1) || (backToKw pos (keywordEach kws X.env)).any (·.1.isNone)) = false := by rfl) :
    PE X (.Call (.Name x p) [] kws pos) (tF Γ (fCallK c gD fNil gk)) := by
  refine ⟨fun pins s σ H Q I h => wpAny_Call_Name_kw (ld_glob I hg hm ?_ hdb)⟩
  have h2 : tCallK (spF Γ n c) gV E (tFA Γ fNil) (tFA Γ gk) σ H Q := tCallK_of hl hrr h
  obtain ⟨β, ds, S, xs, S', rep, ee, k⟩ := h2
  cases ee
  have q := k β [] H (.refl β H) rep.st .nil
  refine PySem.W.callWith_KW0 (h₀ := X.base) I.ok.mod.kin hk hall (thn (hkw.run pos pins s σ H _ I q) fun ws s2 ⟨zs, H2, I2, rz, q2⟩ => ⟨I2.kIn, ?_⟩) hpl
  rw [hks]
  exact run_g (args := ⟨[], ks.zip ws⟩) F hgd hr (fun hl => hb.to s2 [] ws I2.kIn hl) hx I2 (hb.rel .nil rz) q2
theorem pfk_nil : PK X [] (tFA Γ fNil) := ⟨fun pos pins s σ H Q I ⟨β, ds, S, xs, S', rep, e, k⟩ => by
  cases e
  exact (pk_nil (X := X)).run pos pins s σ H Q I (k β [] H (.refl β H) rep.st .nil)⟩
theorem pfk_cons {nm : Option Str} {kpos : Pos} {fe : EvE} (ha : PE X e (tF Γ fe)) (hr : PK X kws (tFA Γ ga)) : PK X (⟨nm, e, kpos⟩ :: kws) (tFA Γ (fCons fe ga)) := ⟨fun pos pins s σ H Q I h => (pk_cons ha hr).run pos pins s σ H Q I (tCons_of h)⟩
end

/-! ### methods of built-in types -/
def tyM (S : Store) : D → String
  | .str _ => "str"
  | .lst _ => "list"
  | .rol _ => "list"
  | .ref n => match S[n]? with
    | some (.lst _) => "list"
    | some (.dct _) => "dict"
    | _ => ""
  | _ => ""
abbrev EvM := D → List D → Store → R D
def rFM (Γ : Gm) (m : EvM) : V → List V → Hp → VK → Prop := fun v vs H Q => ∃ β S x xs d S', RepSt Γ β S H ∧ RV Γ β H v x ∧ RVs Γ β H vs xs ∧ m x xs S = .ok d S' ∧ K1 Γ β H d S' Q
def fBM (T : String) (m : EvM) (fo : EvE) (g : EvA) : EvE := fun ds S => (fo ds S).bind fun x S1 => if tyM S1 x = T then (g ds S1).bind fun xs S2 => m x xs S2 else .bad
section
variable {Γ : Gm} {X : Cx} {pos : Pos} {o e : Expr} {es : List Expr} {fo : EvE} {g : EvA} {m : EvM} {name : Str} {apos cpos : Pos} {T id : String}
theorem tyV_of {β : Bt} {H : Hp} {S : Store} {v : V} {d : D} (r : RepSt Γ β S H) (rv : RV Γ β H v d) (h : tyM S d = T) (hT : T ≠ "") : tyV Γ.K T v H := by
  cases rv with
  | str x => exact h.symm
  | lst n h1 q => exact .inl ⟨h.symm, _, SqL.of h1⟩
  | rol n h1 q => exact .inl ⟨h.symm, _, .inl h1⟩
  | rolK h1 q => exact .inl ⟨h.symm, _, h1.sq⟩
  | ref ha =>
    simp only [tyM] at h
    split at h
    · rename_i xs hs
      obtain ⟨vs, h1, q⟩ := r.cellOf ha hs
      exact .inl ⟨h.symm, _, SqL.of h1⟩
    · rename_i xs hs
      obtain ⟨vs, h1, q⟩ := r.cellOf ha hs
      exact .inr (.inr (.inl ⟨h.symm, .inl ⟨_, h1⟩⟩))
    · exact absurd h.symm hT
  | _ => exact absurd h.symm hT
theorem tBM_of (hK : X.K = Γ.K) (hT : T ≠ "") {σ : L2.St} {H : Hp} {Q : VK} (h : tF Γ (fBM T m fo g) σ H Q) : tBM X.K T (rFM Γ m) (tF Γ fo) (tFA Γ g) σ H Q := by
  obtain ⟨β, ds, S, d, S', rep, ee, k⟩ := h
  obtain ⟨x, S1, e1, ee⟩ := R.bind_inv ee
  split at ee
  case isFalse => cases ee
  rename_i ht
  obtain ⟨xs, S2, e2, ee⟩ := R.bind_inv ee
  refine ⟨β, ds, S, x, S1, rep, e1, fun β1 v H1 g1 r1 rv => ⟨by rw [hK]; exact tyV_of r1 rv ht hT, β1, ds, S1, xs, S2, rep.go g1 r1, e2, fun β2 vs H2 g2 r2 rvs => ?_⟩⟩
  exact ⟨β2, S2, x, xs, d, S', r2, rv.mono g2, rvs, ee, k.from (g1.trans g2)⟩
theorem pf_bm (hK : X.K = Γ.K) (hT : T ≠ "") (pa : PlainAttrs T) (slot : Slot T name id) (hty : typeOf (.builtin id) = pure (.type "method_descriptor")) (hm : MtR X id (rFM Γ m)) (ho : PE X o (tF Γ fo)) (ha : PA X (e :: es) (tFA Γ g))
    (hbase : attributeBase o name X.env (eval o X.env) = eval o X.env := by rfl)
    (hfew : ((backTo cpos (starEach (e :: es) X.env)).all (fun x => !x.1) && (backToKw cpos (keywordEach [] X.env)).all (fun x => x.1.isSome)
      && decide ((e :: es).length + ([] : List Keyword).length + (if ([] : List Keyword).isEmpty then 0 else 1) < 30)) = true := by rfl)
    (hline : (apos.endLine == cpos.line) = true := by rfl) (hs : starEach (e :: es) X.env = (false, eval e X.env) :: starEach es X.env := by rfl) (hplain : (backTo cpos (starEach es X.env)).any (·.1) = false := by rfl) :
    PE X (.Call (.Attribute o name apos) (e :: es) [] cpos) (tF Γ (fBM T m fo g)) :=
  pe_imp (pe_bm pa slot hty hm ho ha hbase hfew hline hs hplain) fun _ _ _ h => tBM_of hK hT h
theorem pf_bm0 (hK : X.K = Γ.K) (hT : T ≠ "") (pa : PlainAttrs T) (slot : Slot T name id) (hty : typeOf (.builtin id) = pure (.type "method_descriptor")) (hm : MtR X id (rFM Γ m)) (ho : PE X o (tF Γ fo))
    (hbase : attributeBase o name X.env (eval o X.env) = eval o X.env := by rfl) (hline : (apos.endLine == cpos.line) = true := by rfl) : PE X (.Call (.Attribute o name apos) [] [] cpos) (tF Γ (fBM T m fo fNil)) :=
  pe_imp (pe_bm0 pa slot hty hm ho hbase hline) fun σ H Q h => by
    obtain ⟨β, ds, S, d, S', rep, ee, k⟩ := h
    obtain ⟨x, S1, e1, ee⟩ := R.bind_inv ee
    split at ee
    case isFalse => cases ee
    rename_i ht
    exact ⟨β, ds, S, x, S1, rep, e1, fun β1 v H1 g1 r1 rv => ⟨by rw [hK]; exact tyV_of r1 rv ht hT, β1, S1, x, [], d, S', r1, rv, .nil, ee, k.from g1⟩⟩
def appM : EvM := fun x xs S => match x, xs with
  | .ref n, [y] => match S[n]? with
    | some (.lst ys) => if ys.length < sizeLine then .ok .non (S.set n (.lst (ys ++ [y]))) else .bad
    | _ => .bad
  | _, _ => .bad
theorem K1.put {β : Bt} {H : Hp} {d : D} {S S2 : Store} {Q : VK} {n : Nat} {a : Addr} {xs : List D} {vs : List V} {v : V} (k : K1 Γ β H d (S.set n (.lst xs)) Q) (r : RepSt Γ β S H) (ha : β.c[n]? = some a) (rx : RVs Γ β H vs xs) (rv : RV Γ β H v d) : Q v (upd H a (.lst vs)) :=
  let g := grow_write (o := .lst vs) r (List.mem_of_getElem? ha)
  k β v _ g (r.write ha ⟨_, upd_same, rx.mono g⟩) (rv.mono g)
theorem md_append : MtR X "list.append" (rFM Γ appM) := by
  intro pins s σ H x vs v us Q I rx rus ⟨β, S, dx, xs, d, S', r, rv, rvs, e, k⟩
  unfold appM at e
  split at e
  case h_2 => cases e
  rename_i n y
  cases hs : S[n]? with
  | none => simp only [hs] at e; cases e
  | some c =>
    cases c with
    | dct ys => simp only [hs] at e; cases e
    | ins _ _ => simp only [hs] at e; cases e
    | lst ys =>
      simp only [hs] at e
      split at e
      case isFalse => cases e
      rename_i hl
      cases e
      cases rv
      rename_i a ha
      obtain ⟨w, rfl, r1⟩ := rvs1 rvs
      obtain ⟨ws, h1, q⟩ := r.cellOf ha hs
      exact mt_append pins s σ H _ _ v us Q I rx rus ⟨a, ws, w, rfl, rfl, h1, by rw [q.length]; exact hl, K1.put (S2 := S) k r ha (q.append (.cons r1 .nil)) .non⟩
def strsD : List D → Option (List Str)
  | [] => some []
  | .str z :: r => (strsD r).map (z :: ·)
  | _ :: _ => none
theorem strsD_of {β : Bt} {H : Hp} : ∀ {vs : List V} {ds : List D} {zs : List Str}, RVs Γ β H vs ds → strsD ds = some zs → vs = zs.map V.str
  | _, _, _, .nil, e => by cases e; rfl
  | _, _, _, .cons (d := d) h r, e => by
    cases d <;> simp only [strsD] at e <;> first | cases e | skip
    obtain ⟨bs, e1, rfl⟩ := Option.map_eq_some_iff.mp e
    rw [List.map_cons, rv_str h, strsD_of r e1]
def joinM : EvM := fun x xs S => match x, xs with
  | .str a, [y] => match asSeq S y with
    | some ds => match strsD ds with
      | some zs => if (zs.map (·.length)).sum + zs.length * a.length ≤ 16777216 then .ok (.str (Txt.join a zs)) S else .bad
      | none => .bad
    | none => .bad
  | _, _ => .bad
theorem md_join (hK : X.K = Γ.K) : MtR X "str.join" (rFM Γ joinM) := by
  intro pins s σ H x vs v us Q I rx rus ⟨β, S, dx, xs, d, S', r, rv, rvs, e, k⟩
  unfold joinM at e
  split at e
  case h_2 => cases e
  rename_i a y
  cases hs : asSeq S y with
  | none => simp only [hs] at e; cases e
  | some ds =>
    simp only [hs] at e
    cases hz : strsD ds with
    | none => simp only [hz] at e; cases e
    | some zs =>
      simp only [hz] at e
      split at e
      case isFalse => cases e
      rename_i hl
      cases e
      obtain ⟨w, rfl, r1⟩ := rvs1 rvs
      obtain ⟨p, ws, rfl, h1, q⟩ := asSeq_of r r1 hs
      cases rv_str rv
      rw [strsD_of q hz] at h1
      exact mt_join pins s σ H _ _ v us Q I rx rus ⟨a, p, zs, rfl, rfl, by rw [hK]; exact h1, hl, k.self r (.str _)⟩

/-! ### globals and built-in classes as values -/
theorem pf_glob {x : Str} {v : V} {u : Value} {d : D} (hg : Gl X x) (hm : X.mg x = some u) (r : RelV v u) (rd : ∀ β H, RV Γ β H v d) (hd : (x == ("__debug__" : Str)) = false := by decide) : PE X (.Name x pos) (tF Γ (fC d)) :=
  pf_c (pe_glob hg hm r hd) rd

/-! ### dict displays -/
def fPairs : List (EvE × EvE) → Env → Store → R (List (Key × D))
  | [], _, S => .ok [] S
  | (fk, fv) :: r, ds, S => (fk ds S).bind fun x S1 => match keyD x with
    | some kk => (fv ds S1).bind fun y S2 => (fPairs r ds S2).bind fun ps S3 => .ok ((kk, y) :: ps) S3
    | none => .bad
def mergeD (kvs more : List (Key × D)) : List (Key × D) := more.foldl (fun acc kv => putD acc kv.1 kv.2) kvs
def fDisp (fs : List (EvE × EvE)) : EvE := fun ds S => (fPairs fs ds (S ++ [.dct []])).bind fun ps S2 => if ps.length ≤ 15 then match S2[S.length]? with
    | some (.dct []) => .ok (.ref S.length) (S2.set S.length (.dct (mergeD [] ps)))
    | _ => .bad
  else .bad
theorem RKs.merge {β : Bt} {H : Hp} : ∀ {ms : List (Key × V)} {md : List (Key × D)} {vs : List (Key × V)} {ds : List (Key × D)}, RKs Γ β H ms md → RKs Γ β H vs ds → RKs Γ β H (mergeK vs ms) (mergeD ds md)
  | _, _, _, _, .nil, h => h
  | (k, v) :: ms, (_, d) :: md, vs, ds, .cons rv r, h => by
    have q : RKs Γ β H (putK vs k v) (putD ds k d) := h.put rv
    have := RKs.merge r q
    exact this
theorem tPairs_of : ∀ {fs : List (EvE × EvE)} {β : Bt} {ds : Env} {S S' : Store} {σ : L2.St} {H : Hp} {ps : List (Key × D)} {Q : List (V × V) → Hp → Prop}, Rep Γ β ds S σ H → fPairs fs ds S = .ok ps S' →
    (∀ β' kvs H', Grow β H β' H' → RepSt Γ β' S' H' → RKs Γ β' H' kvs ps → Q (kvs.map fun kv => (kV kv.1, kv.2)) H') → tPairs (fs.map fun f => (tF Γ f.1, tF Γ f.2)) σ H Q
  | [], β, ds, S, S', σ, H, ps, Q, rep, e, k => by cases e; exact k β [] H (.refl β H) rep.st .nil
  | (fk, fv) :: fs, β, ds, S, S', σ, H, ps, Q, rep, e, k => by
    obtain ⟨x, S1, e1, e⟩ := R.bind_inv e
    cases hk : keyD x with
    | none => simp only [hk] at e; cases e
    | some kk =>
      simp only [hk] at e
      obtain ⟨y, S2, e2, e⟩ := R.bind_inv e
      obtain ⟨ps', S3, e3, e⟩ := R.bind_inv e
      cases e
      refine ⟨β, ds, S, x, S1, rep, e1, fun β1 v H1 g1 r1 rv => ⟨β1, ds, S1, y, S2, rep.go g1 r1, e2, fun β2 w H2 g2 r2 rw' => ?_⟩⟩
      refine tPairs_of (β := β2) (S := S2) ⟨r2, (rep.env.mono g1).mono g2⟩ e3 fun β3 kvs H3 g3 r3 rk => ?_
      have := k β3 ((kk, w) :: kvs) H3 ((g1.trans g2).trans g3) r3 (.cons (rw'.mono g3) rk)
      rw [rv_key rv hk]
      exact this
theorem pf_disp {keys : List (Option Expr)} {values : List Expr} {fs : List (EvE × EvE)} (h : PPs X pos keys values (fs.map fun f => (tF Γ f.1, tF Γ f.2))) (hall : keys.all (·.isSome) = true) (hl : keys.length = values.length) (h0 : keys ≠ []) (h15 : keys.length ≤ 15) :
    PE X (.Dict keys values pos) (tF Γ (fDisp fs)) := by
  refine pe_imp (pe_disp h hall hl h0 h15) fun σ H Q ⟨β, ds, S, d, S', rep, e, k⟩ p hp => ?_
  obtain ⟨ps, S2, e1, e⟩ := R.bind_inv e
  split at e
  case isFalse => cases e
  rename_i hlen
  have r0 : RepSt Γ (β.snoc p) (S ++ [.dct []]) (upd H p (.dK [])) := rep.st.cell hp ⟨[], upd_same, .nil⟩
  have g0 := grow_cell (o := .dK []) rep.st hp
  refine tPairs_of (β := β.snoc p) ⟨r0, rep.env.mono g0⟩ e1 fun β1 kvs H1 g1 r1 rk => ?_
  split at e
  case h_2 => cases e
  rename_i hs
  cases e
  have hn : (β.snoc p).c[S.length]? = some p := by
    show (β.c ++ [p])[S.length]? = some p
    rw [rep.st.len]; simp
  have hn1 := g1.get hn
  obtain ⟨vs, h1, q⟩ := r1.cellOf hn1 hs
  cases q
  have gw := grow_write (o := .dK (mergeK [] kvs)) r1 (List.mem_of_getElem? hn1)
  refine ⟨h1, kvs, rfl, by rw [rk.length]; exact hlen, k β1 _ _ ((g0.trans g1).trans gw) (r1.write hn1 ⟨_, upd_same, (rk.merge .nil).mono gw⟩) (.ref hn1)⟩
/-- {} that may change -/
def fDict0 : EvE := fun _ S => .ok (.ref S.length) (S ++ [.dct []])
theorem pf_dict0 : PE X (.Dict [] [] pos) (tF Γ fDict0) := pe_imp pe_dnewK fun σ H Q ⟨β, ds, S, d, S', rep, e, k⟩ p hp => by
  cases e
  exact k.cellD rep.st hp .nil
theorem pfp_nil : PPs X pos [] [] (([] : List (EvE × EvE)).map fun f => (tF Γ f.1, tF Γ f.2)) := pps_nil
theorem pfp_cons {k v : Expr} {ks : List (Option Expr)} {vs : List Expr} {fk fv : EvE} {fs : List (EvE × EvE)} (hk : PE X k (tF Γ fk)) (hv : PE X v (tF Γ fv)) (hr : PPs X pos ks vs (fs.map fun f => (tF Γ f.1, tF Γ f.2))) :
    PPs X pos (some k :: ks) (v :: vs) (((fk, fv) :: fs).map fun f => (tF Γ f.1, tF Γ f.2)) := pps_cons hk hv hr
end
end Rk

namespace Rk
open PySem PySem.Spec PyProof.Rows L2

/-! ### a table of defs, and what they compute -/
/-- keep: a fresh list or dict that is handed back may be changed; m names, n of them parameters -/
structure FD where
  keep : Bool
  m : Nat
  n : Nat
  body : (Nat → EvC) → EvS
noncomputable def callB (keep : Bool) (m n : Nat) (body : EvS) : EvC := fun xs S => if xs.length = n then match body (xs.map some ++ List.replicate (m - n) none) S with
  | .rt d S' => fin keep S d S'
  | .nx _ S' => fin keep S .non S'
  | _ => .bad
  else .bad
noncomputable def evC (tab : Nat → FD) : Nat → Nat → EvC
  | 0, _ => fun _ _ => .bad
  | k + 1, g => callB (tab g).keep (tab g).m (tab g).n ((tab g).body (evC tab k))
theorem evC_len {tab : Nat → FD} : ∀ {k g : Nat} {xs : List D} {S S' : Store} {d : D}, evC tab k g xs S = .ok d S' → xs.length = (tab g).n
  | 0, _, _, _, _, _, e => by cases e
  | k + 1, g, xs, S, S', d, e => by
    unfold evC callB at e
    split at e
    · assumption
    · cases e
section
variable {Γ : Gm} {P : Program} {w : World} {K : PySem.W.Frag} {mg : Str → Option Value} {base : Heap}
theorem start_rep {β : Bt} {H : Hp} {N : List Str} {vs : List V} {xs : List D} (r : RVs Γ β H vs xs) : RepEnv Γ β H (L2.start N vs) (xs.map some ++ List.replicate (N.length - xs.length) none) := by
  refine ⟨by simp [L2.start, r.length], fun i d h => ?_⟩
  unfold L2.start
  by_cases hi : i < xs.length
  · rw [List.getElem?_append_left (by simpa using hi), List.getElem?_map] at h
    rw [List.getElem?_append_left (by simpa [r.length] using hi), List.getElem?_map]
    obtain ⟨x, h1, h2⟩ := Option.map_eq_some_iff.mp h
    cases h2
    obtain ⟨v, h3, h4⟩ := r.get h1
    exact ⟨v, by rw [h3]; rfl, h4⟩
  · rw [List.getElem?_append_right (by simpa using hi)] at h
    simp only [List.length_map] at h
    rw [List.getElem?_replicate] at h
    split at h <;> cases h
theorem fng_step {x qual : Str} {st : Stmt} {f : Addr} {fd : FuncData} {N ps : List Str} {k m n : Nat} {keep : Bool} {body : EvS} {c : EvC} (F : Fun K x qual st f fd) (S : FnScope N ps (defScope st)) (hm : N.length = m) (hn : ps.length = n) (hc : c = callB keep m n body)
    (hd : ∀ (cdv : Value), fd.code = cdv → ∀ (A : Around) (outer : List PySem.Env) (s : Shared) (H : Hp) (E : XK), (A.deeper (envOfC qual (defScope st) s.heap.objs.size f cdv)).guards = some [] → Room k (A.deeper (envOfC qual (defScope st) s.heap.objs.size f cdv)) →
      PSs (cxOf CX0 P w K mg base N qual (defScope st) f cdv A outer s H E).nox (defBody st) (tFS Γ body)) : FnG P w K mg base CX0 (k + 1) f fd ps (spF Γ n c) := by
  subst hm hn hc
  refine fng_of F S (fun vs H Q E h => h.1) fun cdv hcd A outer s H vs Q E hg hr h => ⟨_, (hd cdv hcd A outer s H E hg hr).nox, ?_⟩
  obtain ⟨hl, β, S0, xs, d, S', rst, rvs, e, k1⟩ := h
  have hx : xs.length = ps.length := rvs.length.symm.trans hl
  unfold callB at e
  rw [if_pos hx, ← hx] at e
  refine ⟨β, _, S0, ⟨rst, start_rep rvs⟩, ?_⟩
  split at e
  · rename_i d0 S1 hb
    rw [hb]
    intro β' v H' g r rv
    obtain ⟨β2, g2, r2, rv2⟩ := fin_sound rst g r rv e
    exact k1 β2 v H' g2 r2 rv2
  · rename_i ds S1 hb
    rw [hb]
    intro β' σ' H' g r
    obtain ⟨β2, g2, r2, rv2⟩ := fin_sound rst g r.st .non e
    exact k1 β2 .non H' g2 r2 rv2
  · cases e
theorem fng_zero {f : Addr} {fd : FuncData} {ps : List Str} {n : Nat} {tab : Nat → FD} {g : Nat} (hn : ps.length = n) {j : Nat} : FnG P w K mg base CX0 j f fd ps (spF Γ n (evC tab 0 g)) := by
  subst hn
  refine ⟨fun vs H Q E h => h.1, fun A outer s H args us vs Q E _ _ _ _ _ h => ?_⟩
  obtain ⟨_, β, S0, xs, d, S', _, _, e, _⟩ := h
  cases e
/-- constants of the module -/
theorem pf_globE {X : Cx} {pos : Pos} {x : Str} {v : V} {d : D} (hg : Gl X x) (hm : ∃ u, X.mg x = some u ∧ RelV v u) (rd : ∀ β H, RV Γ β H v d) (hd : (x == ("__debug__" : Str)) = false := by decide) : PE X (.Name x pos) (tF Γ (fC d)) := by
  obtain ⟨u, hm, r⟩ := hm
  exact pf_glob hg hm r rd hd
theorem pf_tyv {X : Cx} {pos : Pos} {x : Str} {T : String} (hg : Gl X x) (hm : X.mg x = none) (hv : bootBuiltins x = some (.type T)) (hn : x ≠ "__name__" := by decide) (hd : (x == ("__debug__" : Str)) = false := by decide) : PE X (.Name x pos) (tF Γ (fC (.ty T))) :=
  pf_c (v := .ty T) (pe_bltn hg hm hv rfl hn hd) fun _ _ => .ty T

theorem kb_mk {x qual : Str} {st : Stmt} {f : Addr} {fd : FuncData} {ps ks : List Str} {g : List Value → List Value → List Value} {gV : List V → List V → List V} (F : Fun K x qual st f fd)
    (h : ∀ (kV doc pm : Value) (an : Option Addr) (cdv ct : Value) (us ws : List Value), (g us ws).length = ps.length → bindArgs (PySem.W.fnOf x qual (defArgs st) (defBody st) (defScope st) .none kV doc pm an cdv ct) ⟨us, ks.zip ws⟩ = pure (ps.zip (g us ws)))
    (rel : ∀ {vs : List V} {us : List Value} {zs : List V} {ws : List Value}, Vals vs us → Vals zs ws → Vals (gV vs zs) (g us ws)) : KBinds K fd ps ks g gV := by
  obtain ⟨oc, od, kV, doc, pm, an, cdv, ct, osl, rfl, lk, hcd⟩ := F.ex
  exact ⟨fun s us ws _ hl => .of_eq (h kV doc pm an cdv ct us ws hl), rel⟩
theorem units_of {A : Around} {k : Nat} (hr : Room k A) : A.units + 1 < cLine ∧ A.units + 64 < cLine ∧ A.units + 65 < cLine ∧ A.units + 66 < cLine := by
  have := hr.un
  exact ⟨by omega, by omega, by omega, by omega⟩
theorem bt_len : bootBuiltins "len" = some (.builtin "len") := by decide +kernel
theorem bt_int : bootBuiltins "int" = some (.type "int") := by decide +kernel
theorem bt_str : bootBuiltins "str" = some (.type "str") := by decide +kernel
theorem bt_bool : bootBuiltins "bool" = some (.type "bool") := by decide +kernel
theorem bt_list : bootBuiltins "list" = some (.type "list") := by decide +kernel
theorem bt_tuple : bootBuiltins "tuple" = some (.type "tuple") := by decide +kernel
theorem bt_dict : bootBuiltins "dict" = some (.type "dict") := by decide +kernel
theorem bt_isinstance : bootBuiltins "isinstance" = some (.builtin "isinstance") := by decide +kernel
theorem bt_all : bootBuiltins "all" = some (.builtin "all") := by decide +kernel
theorem bt_any : bootBuiltins "any" = some (.builtin "any") := by decide +kernel
theorem bt_sum : bootBuiltins "sum" = some (.builtin "sum") := by decide +kernel
theorem bt_max : bootBuiltins "max" = some (.builtin "max") := by decide +kernel
theorem bt_min : bootBuiltins "min" = some (.builtin "min") := by decide +kernel
theorem bt_repr : bootBuiltins "repr" = some (.builtin "repr") := by decide +kernel

/-! ### the law's own call -/
theorem call_head {mb : Str → Option Value} {k : Nat} {fa a : Addr} {fd : FuncData} {x : Str} {sp : Sp} {s1 : Shared} {vs : List Value} {ns : List Int} (KX : K.In s1.heap) (hns : s1.heap.Ns mainGlobals mg) (hb : s1.heap.Ns builtinsNs mb) (hbb : ∀ x : Str, x ≠ "__name__" → mb x = bootBuiltins x) (lim : s1.heap.NoLimit) (hg : s1.gens = #[])
    (ha : s1.heap.get? a = some { cls := .type "list", data := .seq vs.toArray }) (hi : IntsAre vs ns) (hl : ns.length ≤ sizeLine) (hr : Room k callerA) (F : ∀ base : Heap, FnG P w K mg base CX0 k fa fd [x] sp) (bind : ∀ (s : Shared) (u : Value), BindsTo s fd ⟨[u], []⟩ [(x, u)])
    (hsp : ∀ H : Hp, SqL K H a (ns.map V.int) → ((∃ b, H = fun c => if c = b then some (.frz { cls := .type "list", data := .seq vs.toArray } (.lst (ns.map V.int))) else none) ∨ H = fun _ => none) → sp [.ref a] H (fun v _ => v = .bl true) E0) :
    codeAny (model P w) callerA (.call (.ref fa) ⟨[.ref a], []⟩) (fun r s' => r = .ok (.ret (.bool true)) ∧ OldK s1.heap s'.heap ∧ s'.os = s1.os ∧ AllBare s'.gens) s1 := by
  have rv := vals_ints hi
  have key : ∀ H : Hp, SqL K H a (ns.map V.int) → ((∃ b, H = fun c => if c = b then some (.frz { cls := .type "list", data := .seq vs.toArray } (.lst (ns.map V.int))) else none) ∨ H = fun _ => none) → HOk P w H s1.heap → (∀ b, H b = none ∨ (b = a ∧ K.lookup a = none ∧ ∃ o xs, H b = some (.frz o (.lst xs)))) →
      codeAny (model P w) callerA (.call (.ref fa) ⟨[.ref a], []⟩) (fun r s' => r = .ok (.ret (.bool true)) ∧ OldK s1.heap s'.heap ∧ s'.os = s1.os ∧ AllBare s'.gens) s1 := by
    intro H hS hH ok only
    have up : ∀ {b : Addr} {o : Obj}, s1.heap.get? b = some o → H b = none → (hidT s1.heap H).get? b = some o := fun e n => hidT_get e n
    have kx : K.In (hidT s1.heap H) := fun b o e => by
      rcases only b with n | ⟨rfl, n, _⟩
      · exact up (KX b o e) n
      · rw [e] at n; cases n
    have nsx : ∀ {b : Addr} {m : Str → Option Value}, s1.heap.Ns b m → (hidT s1.heap H).Ns b m := fun {b m} h => by
      obtain ⟨o, es, ep, e, dd, r⟩ := h
      rcases only b with n | ⟨rfl, n, _⟩
      · exact ⟨o, es, ep, up e n, dd, r⟩
      · rw [ha] at e
        cases e
        cases (show Data.seq vs.toArray _ = Data.dict es ep from dd)
    have md : Mod K mg (hidT s1.heap H) := by
      obtain ⟨mc, h1, h2⟩ := lim
      exact ⟨kx, nsx hns, ⟨mb, nsx hb, hbb⟩, ⟨mc, nsx h1, h2⟩⟩
    have e0 : Env0 P w K mg (hidT s1.heap H) callerA [] s1 H := ⟨rfl, md, fun b o e => of_hidT e, Nat.le_of_eq (hidT_size _ _), trivial, (fun b hb => by cases (show b ∈ ([] : List Addr) from hb)), ok, .of_eq hg⟩
    have run := (F (hidT s1.heap H)).run callerA [] s1 H ⟨[.ref a], []⟩ [.ref a] [.ref a] _ _ rfl hr e0 (bind s1 (.ref a)) (.cons rfl .nil) (hsp H hS hH)
    refine codeAny_mono run fun r s' h => ?_
    match r, h with
    | .error e, h => exact h.elim
    | .ok .next, h => exact h.elim
    | .ok .brk, h => exact h.elim
    | .ok .cont, h => exact h.elim
    | .ok (.ret u), h =>
      obtain ⟨v, H', os, bare, un, ok', r', q⟩ := h
      cases (show v = .bl true from q)
      cases (show u = Value.bool true from r')
      refine ⟨rfl, OldK.of_keep fun b o e => ?_, os, bare⟩
      rcases only b with n | ⟨rfl, _, ob, xs, z⟩
      · exact un.keep b o e n (by intro z; cases (show b ∈ ([] : List Addr) from z)) (by simp)
      · obtain ⟨e1, _⟩ := ok _ _ z
        obtain ⟨e2, _⟩ := ok' _ _ (un.frzs _ ob _ z)
        rw [e] at e1
        cases e1
        exact e2
  cases hk : K.lookup a with
  | some o =>
    have e := KX a o hk
    rw [ha] at e
    cases e
    exact key (fun _ => none) (.inr ⟨_, vs.toArray, _, hk, rfl, rfl, rfl, by rw [List.size_toArray, hi.length]; exact hl, by simpa using rv⟩) (.inr rfl) (fun b u z => by cases (show (none : Option HO) = some u from z)) fun b => .inl rfl
  | none =>
    refine key _ (.inl (.inr ⟨{ cls := .type "list", data := .seq vs.toArray }, if_pos rfl⟩)) (.inl ⟨a, rfl⟩) (fun b u z => ?_) fun b => ?_
    · have z : (if b = a then some (HO.frz { cls := .type "list", data := .seq vs.toArray } (.lst (ns.map V.int))) else none) = some u := z
      split at z
      · rename_i hb
        cases z
        subst hb
        exact ⟨ha, by rw [List.length_map]; exact hl, vs, _, rv, ha⟩
      · cases z
    · by_cases h : b = a
      · exact .inr ⟨h, hk, _, _, if_pos h⟩
      · exact .inl (if_neg h)
end
/-- the script, and the store at the start: nothing -/
theorem rv_script {Γ : Gm} {H : Hp} {a : Addr} {ns : List Int} (h : SqL Γ.K H a (ns.map V.int)) (hH : (∃ b o, H = fun c => if c = b then some (.frz o (.lst (ns.map V.int))) else none) ∨ H = fun _ => none) : RV Γ ⟨[], []⟩ H (.ref a) (.rol (ns.map D.int)) := by
  have q : RVs Γ ⟨[], []⟩ H (ns.map V.int) (ns.map D.int) := by
    clear h hH
    induction ns with
    | nil => exact .nil
    | cons n ns ih => exact .cons (.int n) ih
  have no : Bt.out ⟨[], []⟩ a := ⟨by simp, by simp⟩
  rcases h with h | h
  · exact .rol no h q
  · exact .rolK h q
theorem rep_nil {Γ : Gm} {H : Hp} (hT : LamX.Tabs Γ.T H) : RepSt Γ ⟨[], []⟩ [] H := ⟨rfl, List.nodup_nil, fun n a c h _ => by simp at h, fun a h => (by cases h), hT⟩
/-- THE END: the walk that the row's head asks, from the law's answer in plain Lean -/
theorem walk_rk {l : PySem.W.OpenLaw} {n k g : Nat} {q : Program} {loose : List Str} {XP : (Str → Option Value) → Heap → Prop} {YP : World → Heap → Prop} {d : DefRec} {K : Params → PySem.W.Frag} {tab : Nat → FD} {x : Str}
    (hn : l.most = some n) (hn2 : n ≤ sizeLine) (hdf : d.params.defaults = []) (hr : Room k callerA) (hY : ∀ (w : World) (h : Heap), YP w h → (K w.params).In h)
    (F : ∀ (w : World) (mg : Str → Option Value) (fa : Addr) (h : Heap), (K w.params).In h → h.Ns mainGlobals mg → mg d.name = some (.ref fa) →
      ∃ fd : FuncData, (∀ (s : Shared) (u : Value), BindsTo s fd ⟨[u], []⟩ [(x, u)]) ∧ ∃ Γ : Gm, Γ.K = K w.params ∧ Γ.T = [] ∧ ∀ base : Heap, FnG l.prog w (K w.params) mg base CX0 k fa fd [x] (spF Γ 1 (evC tab k g)))
    (ans : ∀ ns : List Int, ns.length ≤ n → (∀ z ∈ ns, Builtin.Int.intBits z ≤ 1048576) → ∃ S, evC tab k g [.rol (ns.map D.int)] [] = .ok (.bl true) S) :
    PySem.W.WalkO q loose XP YP l.row.toRowW d [] (fun f vs => PySem.call f vs) := by
  refine Att.attach_callB hn hdf fun w s0 s1 mg mb fa o pm cd doc a vs ns G Y ho hd hcd hmg hobj hints hlen hbits hg => ?_
  have KX := hY w _ Y
  obtain ⟨fd, hb, Γ, hΓ, hT, hF⟩ := F w mg fa _ KX G.T.g hmg
  obtain ⟨S, ev⟩ := ans ns hlen hbits
  refine call_head KX G.T.g G.T.b G.T.builtins G.T.nolimit hg hobj hints (Nat.le_trans hlen hn2) hr hF hb fun H hS hH => ⟨rfl, ⟨[], []⟩, [], _, .bl true, S, rep_nil (by rw [hT]; intro p hp; cases hp), .cons (rv_script (by rw [hΓ]; exact hS) ?_) .nil, ev, fun β v H' _ _ rv => rv_bl rv⟩
  rcases hH with ⟨b, e⟩ | e
  · exact .inl ⟨b, _, e⟩
  · exact .inr e
end Rk

namespace Rk
open PySem PySem.Spec PyProof.Rows L2 LamX

/-! ### a lambda of one parameter -/
structure Lam1 (sc scope : Scope) (x : Str) : Prop where
  kind : scope.kind = .function
  co : scope.isCoroutine = false
  gen : scope.isGenerator = false
  par : scope.names.lookup x = some .local
  own : ∀ y ∈ scope.names, y.2 ≠ .cell ∧ (y.2 = .local → y.1 = x)
  free : ∀ y ∈ scope.names, y.2 = .free → sc.names.lookup y.1 = some .cell ∨ sc.names.lookup y.1 = some .free
def lam1B (sc scope : Scope) (x : Str) : Bool :=
  decide (scope.kind = .function) && !scope.isCoroutine && !scope.isGenerator && decide (scope.names.lookup x = some .local) && scope.names.all fun y => !decide (y.2 = .cell) && (!decide (y.2 = .local) || decide (y.1 = x)) && (!decide (y.2 = .free) || decide (sc.names.lookup y.1 = some .cell) || decide (sc.names.lookup y.1 = some .free))
theorem lam1_by {sc scope : Scope} {x : Str} (h : lam1B sc scope x = true) : Lam1 sc scope x := by
  unfold lam1B at h
  simp only [Bool.and_eq_true, Bool.or_eq_true, Bool.not_eq_true', decide_eq_true_eq, decide_eq_false_iff_not, List.all_eq_true] at h
  obtain ⟨⟨⟨⟨h1, h2⟩, h3⟩, hp⟩, h4⟩ := h
  refine ⟨h1, h2, h3, hp, fun y hy => ⟨(h4 y hy).1.1, fun e => (h4 y hy).1.2.resolve_left fun n => n e⟩, fun y hy e => ?_⟩
  rcases (h4 y hy).2 with (z | z) | z
  · exact absurd e z
  · exact .inl z
  · exact .inr z
theorem Lam1.has {X : Cx} {scope : Scope} {x : Str} (L : Lam1 X.env.scope scope x) (ok : X.Ok) : ∀ y ∈ scope.names, y.2 = .free → ∃ c, X.env.cells.lookup y.1 = some c := fun y hy e => by
  rcases L.free y hy e with k | k
  · exact ok.has _ (.inl k)
  · exact ok.has _ (.inr k)
section
variable {X : Cx} {pins : List (Addr × Obj)} {σ : L2.St} {H : Hp} {s : Shared}
theorem lam_start1 {A : Around} {E : XK} {scope : Scope} {f c' : Addr} {h₁ : Heap} {tk i : Nat} {x : Str} {v : V} {u : Value} (I : L2.Inv X pins σ H s) (L : Lam1 X.env.scope scope x) (hN : X.N.Nodup) (hi : X.N[i]? = some x) (r : RelV v u) (e0 : Env0 X.prog X.w X.K X.mg X.base A X.stack s H) (hd : A.handled = none)
    (hns : h₁.Ns s.heap.objs.size fun y => ([(x, u)] : List (Str × Value)).reverse.lookup y) (kept_ : ∀ b o, s.heap.get? b = some o → h₁.get? b = some o) :
    L2.Inv (lamCx X A X.stack s H E scope f c') [] (σ.set i (some v)) H { s with heap := h₁, toks := tk } := by
  have caught := L.has I.ok
  have inn : ∀ {y c}, (cloFrom X.env.cells scope.names []).lookup y = some c → X.env.cells.lookup y = some c := fun {y c} e => by
    rcases cloFrom_mem (PySem.mem_of_lookup e) with hm | ⟨h1, h2⟩
    · cases hm
    · obtain ⟨d1, hc⟩ := caught _ h1 rfl
      have hc : X.env.cells.lookup y = some d1 := hc
      have w2 : c = d1 := by
        rw [h2, hc] <;> rfl
      rw [w2]
      exact hc
  have outn : ∀ {y}, scope.names.lookup y = some .free → ∃ c, (cloFrom X.env.cells scope.names []).lookup y = some c := fun {y} low => by
    have yy : (y, NameKind.free) ∈ scope.names := PySem.mem_of_lookup low
    exact mem_lookup (cloFrom_has (cells := X.env.cells) (acc := []) yy)
  have ck : ∀ {c : Addr} {v : Option Value}, s.heap.IsCell c v → h₁.IsCell c v := fun {c v} ⟨o, ho, hd⟩ => ⟨_, kept_ _ _ ho, hd⟩
  have nix : ∀ b : Addr, b ∉ (lamCx X A X.stack s H E scope f c').ex := fun b zz => absurd (show b ∈ ([] : List Addr) from zz) (by simp)
  refine ⟨⟨e0.mod, L.kind, rfl, rfl, Nat.le_refl _, fun y zz c w1 w2 => I.ok.inj y zz c (inn w1) (inn w2), fun y yy => ?_, fun y c zz _ => ?_, fun _ => hd, Around.frames_deeper e0.frames, .inr ⟨rfl, rfl⟩, fun b zz => absurd zz (nix b), e0.bs, e0.bsz, fun b _ _ => nix b,
      fun b zz => absurd zz (nix b), e0.funs, e0.frf⟩,
    rfl, e0.bare, Un.kept kept_, ⟨_, hns, fun j y v' w1 w2 w3 => ?_⟩, fun y c e => ?_, e0.hok.fresh (Nat.le_refl _), fun y c e => I.freeC y c (inn e), fun q got => absurd (show q ∈ ([] : List (Addr × Obj)) ++ [] from got) (by simp), e0.hok.kept kept_, by rw [List.length_set]; exact I.len⟩
  · have yy : scope.names.lookup y = some .cell ∨ scope.names.lookup y = some .free := yy
    rcases yy with yy | yy
    · exact absurd rfl (L.own _ (PySem.mem_of_lookup yy)).1
    · exact outn yy
  · have zz : false = true := zz
    cases zz
  · have w1 : X.N[j]? = some y := w1
    have w3 : Vis scope y := w3
    rcases w3 with kk | kk | kk
    · have yy : y = x := (L.own _ (PySem.mem_of_lookup kk)).2 rfl
      subst yy
      have hij : i = j := by
        obtain ⟨l1, q1⟩ := List.getElem?_eq_some_iff.mp hi
        obtain ⟨l2, q2⟩ := List.getElem?_eq_some_iff.mp w1
        exact (List.getElem_inj hN).mp (q1.trans q2.symm)
      subst hij
      have low : i < σ.length := by
        have := (List.getElem?_eq_some_iff.mp w1).1
        rw [I.len]; exact this
      rw [List.getElem?_set_self low] at w2
      cases w2
      exact ⟨u, r, .inl ⟨kk, by simp⟩⟩
    · exact absurd rfl (L.own _ (PySem.mem_of_lookup kk)).1
    · have dif : i ≠ j := fun zz => by
        subst zz
        rw [hi] at w1
        cases w1
        rw [L.par] at kk
        cases kk
      rw [List.getElem?_set_ne dif] at w2
      obtain ⟨m, nn, low⟩ := I.loc
      have vis : Vis X.env.scope y := (L.free _ (PySem.mem_of_lookup kk) rfl).elim (fun kk => .inr (.inl kk)) (fun kk => .inr (.inr kk))
      obtain ⟨wv, rv', q⟩ := low j y v' w1 w2 vis
      obtain ⟨d2, h2⟩ := outn kk
      refine ⟨wv, rv', .inr ⟨.inr kk, d2, h2, ?_⟩⟩
      have d1 := inn h2
      rcases q with ⟨kk', _⟩ | ⟨_, d3, eq', zz⟩
      · have kk' : X.env.scope.names.lookup y = some .local := kk'
        rcases L.free _ (PySem.mem_of_lookup kk) rfl with k2 | k2 <;> rw [show X.env.scope.names.lookup y = _ from k2] at kk' <;> cases kk'
      · rw [d1] at eq'
        cases eq'
        exact ck zz
  · obtain ⟨wv, zz⟩ := I.cell y c (inn e)
    exact ⟨wv, ck zz⟩
/-- the lambda is called -/
theorem lam_call {scope : Scope} {f c' : Addr} {pm ctv : Value} {params : Arguments} {body : Expr} {kk i : Nat} {x : Str} {v : V} {u : Value} {tb : TE} {Q : VK} {A : Around} (I : L2.Inv X pins σ H s) (hfrm : A.frames = some X.stack) (L : Lam1 X.env.scope scope x) (hN : X.N.Nodup) (hi : X.N[i]? = some x) (r : RelV v u)
    (hf : s.heap.get? f = some (PySem.W.kla_obj "<lambda>" (X.env.qual ++ "<lambda>") params body scope (cloFrom X.env.cells scope.names []) pm c' ctv)) (hc : H c' = some (CodeO c' (X.env.qual ++ "<lambda>"))) (hr : Room (kk + 1) A)
    (hbind : bindArgs (PySem.W.kla_fn "<lambda>" (X.env.qual ++ "<lambda>") params body scope (cloFrom X.env.cells scope.names []) pm (.ref c') ctv) ⟨[u], []⟩ = pure [(x, u)])
    (hbody : ∀ (E : XK), Room kk (A.deeper (lamEnv X scope s.heap.objs.size f c')) → PE (lamCx X A X.stack s H E scope f c') body tb) (h : tb (σ.set i (some v)) H Q) :
    codeAny (model X.prog X.w) A (.call (.ref f) ⟨[u], []⟩) (CR C8.CX0 X.stack X.prog X.w H s Q C8.E0) s := by
  obtain ⟨⟨oc, vs, t, hoc, hdc, hvc⟩, _, _⟩ := I.hok c' _ hc
  have e0 : Env0 X.prog X.w X.K X.mg X.base A X.stack s H := { I.env0 with frames := hfrm }
  refine PySem.W.kla_callFunE hr.depth hf rfl L.co L.gen rfl ⟨c', oc, vs, t, rfl, hoc, hdc, hvc⟩ ?_
  rw [hbind]
  refine wpAny_pure (wpAny_newFunctionEnv (fun y yy => (L.own y yy).1) (fun y yy => ?_) (fun h₁ hns hsb => ⟨I.nolimit.fresh _ hsb, ?_⟩) L.kind)
  · have : y = (x, u) := by simpa using yy
    rw [this]
    exact L.par
  · show codeAny _ _ (.expr body (lamEnv X scope s.heap.objs.size f c')) _ _
    have kept_ : ∀ b o, s.heap.get? b = some o → h₁.get? b = some o := fun b o e => hsb.extBut b o (Nat.ne_of_lt (Heap.lt_size e)) (Heap.get?_push_of_some _ e)
    have J := lam_start1 (A := A) (E := fun _ _ _ => False) (f := f) (c' := c') (tk := s.toks + ([(x, u)] : List (Str × Value)).length) I L hN hi r e0 hr.hd hns kept_
    refine PySem.W.kla_codeExpr (wpAny_mono ((hbody _ (hr.deeper _)).run [] _ _ H Q J h) (fun v s' got => ?_) fun e s' got => wpAny_mono got (fun _ s'' zz => ?_) fun eq' s'' zz => ?_)
    · obtain ⟨wv, H', J', rv, q⟩ := got
      exact ⟨wv, H', J'.os, J'.bare, J'.base, J'.hok, rv, q⟩
    · obtain ⟨_, _, _, _, _, _, _, _, _, _, _, _, zz⟩ := zz
      exact zz
    · obtain ⟨_, _, _, _, _, _, _, _, _, _, _, _, zz⟩ := zz
      exact zz
end
end Rk

namespace Rk
open PySem
open Sem (wp)

/-! ### max(x, key=f), with what is known of the heap at each turn (g): the loops of KE.DataMinKey, told for such a g -/
structure KRun {γ : Type} (prog : Program) (w : World) (A : Around) (q : Value) (op : CmpOp) (S : Addr) (wr : List Addr) (G : Array GenState → Array GenState → Prop) (n : Nat) (P : Nat → Value → Prop) (St : Nat → Shared → Prop) (J : γ → Shared → Prop) (V : γ → Nat → Value → Prop) (bt : Nat → Nat → Bool) : Prop where
  keep : ∀ g s s', J g s → Moved (S :: wr) G s s' → J g s'
  turn : ∀ i v g (s : Shared) (o : Obj) (Q : Value → Shared → Prop) (E : Value → Shared → Prop), i < n → P i v → J g s → St (i + 1) s → s.heap.get? S = some o →
    (∀ k g' s', J g' s' → St (i + 1) s' → s'.heap.get? S = some o → V g' i k → (∀ j k', V g j k' → V g' j k') → Q k s') → wpAny (model prog w) A (call q [v]) Q E s
  cmp : ∀ i j ki kj g (s : Shared) (Q : Value → Shared → Prop) (E : Value → Shared → Prop), J g s → V g i ki → V g j kj → Q (.bool (bt i j)) s → wpAny (model prog w) A (richCompare op ki kj) Q E s
section
variable {γ : Type} {prog : Program} {w : World} {A : Around} {R : Result → Shared → Prop} {I : Addr} {fp wr : List Addr} {G : Array GenState → Array GenState → Prop} {n : Nat} {P : Nat → Value → Prop} {St : Nat → Shared → Prop} {J : γ → Shared → Prop} {V : γ → Nat → Value → Prop} {bt : Nat → Nat → Bool} {q : Addr}
theorem max_loopG (W : WalksS prog w A.in1 I fp wr G n P St) (T : Addr) (tf : T ∉ fp) (K : KRun prog w A.in1 (.ref q) .Gt T wr G n P St J V bt) (kw : List (Str × Value)) :
    ∀ (k j : Nat) (g : γ) (s : Shared) (best bestk : Value) (c : Nat), n - (j + 1) = k → j + 1 ≤ n → J g s → St (j + 1) s → P (argBest bt j) best → V g (argBest bt j) bestk →
    s.heap.get? T = some { cls := .type "list", dict := none, data := .seq #[best, bestk] c, slots := #[] } →
    (∀ v g s', P (argBest bt (n - 1)) v → J g s' → R (.ok (.ret v)) s') → codeAny (model prog w) A (.builtin "max.loop" ⟨[.ref I, (.ref q), .ref T], kw⟩) R s := by
  have tw : T ∉ wr := fun h => tf (W.sub _ h)
  have wsub : ∀ b ∈ wr, b ∈ T :: wr := fun b eb => List.mem_cons_of_mem _ eb
  have nm : (toString "max" ++ toString ".loop" : String) = "max.loop" := by decide
  have neT : ∀ {b : Addr}, b ∉ T :: wr → T ≠ b := fun eb h => eb (by rw [h]; exact List.mem_cons_self)
  intro k
  induction k with
  | zero =>
    intro j g s best bestk c lk lj jg wst pvb kvb tS done_
    have eqn : j + 1 = n := by omega
    refine codeAny_builtin F.entry_max_loop ?_
    rw [Around.under_plainId F.plain_max_loop _]
    show wpAny _ A.in1 (seqItems? (.ref T) >>= _) _ _ s
    refine wpAny_bind (wpAny_seqItems tS rfl ?_)
    show wpAny _ A.in1 (tryCatch (pyNext (.ref I)) _ >>= _) _ _ s
    refine wpAny_bind (wpAny_tryCatch (W.done s _ _ (eqn ▸ wst) fun s' mv => ?_))
    have tS' := mv.heap T _ tw tS
    show wpAny _ A.in1 (updateSeq T (fun _ => #[]) >>= _) _ _ _
    refine wpAny_bind ?_
    refine wpAny_updateSeq tS' rfl (wpAny_bind (wpAny_letGo (wpAny_pure ?_)))
    exact done_ best g _ (by rw [← eqn]; exact pvb) (K.keep _ _ _ jg ((mv.mono wsub).then_heap (tk := s'.toks) (Nat.le_refl _) fun b o eb e => (Heap.get?_update_other _ _ (neT eb)).trans e))
  | succ k ih =>
    intro j g s best bestk c lk lj jg wst pvb kvb tS done_
    have lt_ : j + 1 < n := by omega
    refine codeAny_builtin F.entry_max_loop ?_
    rw [Around.under_plainId F.plain_max_loop _]
    show wpAny _ A.in1 (seqItems? (.ref T) >>= _) _ _ s
    refine wpAny_bind (wpAny_seqItems tS rfl ?_)
    show wpAny _ A.in1 (tryCatch (pyNext (.ref I)) _ >>= _) _ _ s
    refine wpAny_bind (wpAny_tryCatch (W.item (j + 1) s _ _ lt_ wst fun v s' pv wst' mv => ?_))
    have tS' := mv.heap T _ tw tS
    have jg' := K.keep _ _ _ jg (mv.mono wsub)
    show wpAny _ A.in1 (tryCatch (holding [v] (call (.ref q) [v])) _ >>= _) _ _ _
    refine wpAny_bind (wpAny_tryCatch (wpAny_holding (K.turn (j + 1) v g s' _ _ _ lt_ pv jg' wst' tS' fun newk g2 s2 jg2 wst2 tS2 kvx kvk => ?_)))
    show wpAny _ A.in1 (tryCatch (holding [v, newk] (richCompare .Gt newk bestk >>= _)) _ >>= _) _ _ _
    refine wpAny_bind (wpAny_tryCatch (wpAny_holding (wpAny_bind (K.cmp (j + 1) (argBest bt j) newk bestk g2 s2 _ _ jg2 kvx (kvk _ _ kvb) ?_))))
    refine wpAny_bind (wpAny_holding (wpAny_truthy_bool ?_))
    refine wpAny_bind (wpAny_letGo (wpAny_pure ?_))
    cases eb : bt (j + 1) (argBest bt j) with
    | true =>
      simp only [if_true]
      refine wpAny_bind ?_
      refine wpAny_updateSeq tS2 rfl (wpAny_bind (wpAny_letGo ?_))
      rw [nm]
      have mv2 : Moved (T :: wr) G s2 { s2 with heap := s2.heap.update T (Obj.mapSeq fun _ => #[v, newk]), toks := s2.toks } := (Moved.refl W.grefl).then_heap (tk := s2.toks) (Nat.le_refl _) fun b o eb e => (Heap.get?_update_other _ _ (neT eb)).trans e
      refine wpAny_pure ⟨plainId_quiet F.plain_max_loop _, ih (j + 1) g2 _ v newk _ (by omega) lt_ (K.keep _ _ _ jg2 mv2) (W.frame _ s2 _ s2.toks wst2 (Nat.le_refl _) fun b bfp o e => ?_) (by simp only [argBest, eb, if_true]; exact pv) (by simp only [argBest, eb, if_true]; exact kvx) (Heap.get?_update_self _ tS2 rfl) done_⟩
      exact (Heap.get?_update_other _ _ (fun h : T = b => tf (by rw [h]; exact bfp))).trans e
    | false =>
      simp only [Bool.false_eq_true, if_false]
      refine wpAny_bind (wpAny_letGo ?_)
      rw [nm]
      exact wpAny_pure ⟨plainId_quiet F.plain_max_loop _, ih (j + 1) g2 _ best bestk c (by omega) lt_ jg2 wst2 (by simp only [argBest, eb, Bool.false_eq_true, if_false]; exact pvb) (by simp only [argBest, eb, Bool.false_eq_true, if_false]; exact kvk _ _ kvb) tS2 done_⟩

theorem max_firstG (W : WalksS prog w A.in1 I fp wr G n P St) (T : Addr) (tf : T ∉ fp) (K : KRun prog w A.in1 (.ref q) .Gt T wr G n P St J V bt) (kw : List (Str × Value)) (np : 0 < n) {g : γ} {s : Shared} {c : Nat} (jg : J g s) (wst : St 0 s)
    (tS : s.heap.get? T = some { cls := .type "list", dict := none, data := .seq #[] c, slots := #[] })
    (done_ : ∀ v g' s', P (argBest bt (n - 1)) v → J g' s' → R (.ok (.ret v)) s') : codeAny (model prog w) A (.builtin "max.loop" ⟨[.ref I, (.ref q), .ref T], kw⟩) R s := by
  have tw : T ∉ wr := fun h => tf (W.sub _ h)
  have wsub : ∀ b ∈ wr, b ∈ T :: wr := fun b eb => List.mem_cons_of_mem _ eb
  have nm : (toString "max" ++ toString ".loop" : String) = "max.loop" := by decide
  have neT : ∀ {b : Addr}, b ∉ T :: wr → T ≠ b := fun eb h => eb (by rw [h]; exact List.mem_cons_self)
  refine codeAny_builtin F.entry_max_loop ?_
  rw [Around.under_plainId F.plain_max_loop _]
  show wpAny _ A.in1 (seqItems? (.ref T) >>= _) _ _ s
  refine wpAny_bind (wpAny_seqItems tS rfl ?_)
  show wpAny _ A.in1 (tryCatch (pyNext (.ref I)) _ >>= _) _ _ s
  refine wpAny_bind (wpAny_tryCatch (W.item 0 s _ _ np wst fun v s' pv wst' mv => ?_))
  have tS' := mv.heap T _ tw tS
  have jg' := K.keep _ _ _ jg (mv.mono wsub)
  show wpAny _ A.in1 (tryCatch (holding [v] (call (.ref q) [v])) _ >>= _) _ _ _
  refine wpAny_bind (wpAny_tryCatch (wpAny_holding (K.turn 0 v g s' _ _ _ np pv jg' wst' tS' fun newk g2 s2 jg2 wst2 tS2 kvx _ => ?_)))
  show wpAny _ A.in1 (updateSeq T (fun _ => #[v, newk]) >>= _) _ _ _
  refine wpAny_bind ?_
  refine wpAny_updateSeq tS2 rfl ?_
  rw [nm]
  have mv2 : Moved (T :: wr) G s2 { s2 with heap := s2.heap.update T (Obj.mapSeq fun _ => #[v, newk]), toks := s2.toks } := (Moved.refl W.grefl).then_heap (tk := s2.toks) (Nat.le_refl _) fun b o eb e => (Heap.get?_update_other _ _ (neT eb)).trans e
  refine wpAny_pure ⟨plainId_quiet F.plain_max_loop _, max_loopG W T tf K kw _ 0 g2 _ v newk _ rfl np (K.keep _ _ _ jg2 mv2) (W.frame _ s2 _ s2.toks wst2 (Nat.le_refl _) fun b bfp o e => ?_) pv kvx (Heap.get?_update_self _ tS2 rfl) done_⟩
  exact (Heap.get?_update_other _ _ (fun h : T = b => tf (by rw [h]; exact bfp))).trans e

end
section
variable {γ : Type} {prog : Program} {w : World} {A : Around} {E : Value → Shared → Prop} {s : Shared}
theorem call_maxG {x : Value} {q : Addr} {Q : Value → Shared → Prop}
    (h : wpAny (model prog w) A.in1 (pyIter x) (fun it s₂ => ∃ I fp wr G n P St, ∃ (J : γ → Shared → Prop) (V : γ → Nat → Value → Prop) (bt : Nat → Nat → Bool) (g : γ), it = .ref I ∧ WalksS prog w A.in1 I fp wr G n P St ∧ St 0 s₂ ∧ (∀ b ∈ fp, b < s₂.heap.objs.size) ∧ 0 < n ∧ 
      KRun prog w A.in1 (.ref q) .Gt s₂.heap.objs.size wr G n P St J V bt ∧ J g s₂ ∧ ∀ v g' s', P (argBest bt (n - 1)) v → J g' s' → Q v s') E s) :
    wpAny (model prog w) A (call (.builtin "max") [x] [(Str.ofString "key", .ref q)]) Q E s := by
  have nm : (toString "max" ++ toString ".loop" : String) = "max.loop" := by decide
  refine PyProof.Rows.kmk_tree F.kind_max F.plain_max F.entry_max (PyProof.Rows.kmk_max_key _ _) ?_
  show wpAny _ A.in1 (Builtin.Builtins.bindParams "max" ["key", "default"] 0 ⟨[], [(Str.ofString "key", .ref q)]⟩ >>= _) _ _ s
  refine wpAny_bind (wpAny_of_eq (show Builtin.Builtins.bindParams "max" ["key", "default"] 0 ⟨[], [(Str.ofString "key", .ref q)]⟩ = pure [some (.ref q), none] from rfl) ?_)
  refine wpAny_bind (wpAny_pure ?_)
  refine wpAny_bind (wpAny_mono h (fun it s₂ h₂ => ?_) fun _ _ e => e)
  obtain ⟨I, fp, wr, G, n, P, St, J, V, bt, g, rfl, W, wst, lfp, np, K, jg, qd⟩ := h₂
  refine wpAny_bind (wpAny_newObj_type ?_)
  have tf : s₂.heap.objs.size ∉ fp := fun mv => Nat.lt_irrefl _ (lfp _ mv)
  rw [nm]
  have mv0 : Moved (s₂.heap.objs.size :: wr) G s₂ { s₂ with heap := s₂.heap.push { cls := .type "list", data := .seq #[] 0 }, toks := s₂.toks } := (Moved.refl W.grefl).then_heap (tk := s₂.toks) (Nat.le_refl _) fun b o _ e => Heap.get?_push_of_some _ e
  have wst' := W.frame 0 s₂ (s₂.heap.push { cls := .type "list", data := .seq #[] 0 }) s₂.toks wst (Nat.le_refl _) fun b _ o e => Heap.get?_push_of_some _ e
  exact wpAny_pure ⟨plainId_quiet F.plain_max_loop _, max_firstG W s₂.heap.objs.size tf K _ np (K.keep _ _ _ jg mv0) wst' (Heap.get?_push_size _ rfl) qd⟩

end
end Rk

namespace Rk
open PySem PySem.Spec PyProof.Rows L2 LamX

/-! ### a list that is walked, its items told by what they stand for -/
theorem walk_vals {P : Program} {w : World} {A : Around} (hh : A.handled = none) (it l : Addr) (hne : l ≠ it) (vs : List V) :
    WalksS P w A it [it, l] [it] (fun a b => b = a) vs.length (fun i v => ∃ x, vs[i]? = some x ∧ RelV x v) (fun i s => ∃ items : Array Value, Vals vs items.toList ∧ s.heap.IsListIter it l i ∧ s.heap.IsList l items) := by
  have W := fun items : Array Value => (Walks.list (prog := P) (w := w) hh it l hne items).toS
  have sz : ∀ {items : Array Value}, Vals vs items.toList → vs.length = items.size := fun r => by rw [r.length, Array.length_toList]
  refine ⟨(W #[]).sub, (W #[]).grefl, (W #[]).gtrans, fun i s h' tk ⟨items, r, st⟩ ht hk => ⟨items, r, (W items).frame i s h' tk st ht hk⟩, fun i s Q E hi ⟨items, r, st⟩ hQ => ?_, fun s Q E ⟨items, r, st⟩ hQ => ?_, fun i s Q E ⟨items, r, st⟩ hQ => (W items).self i s Q E st hQ⟩
  · refine (W items).item i s Q E (by rw [← sz r]; exact hi) st fun v s' pv st' mv => hQ v s' ?_ ⟨items, r, st'⟩ mv
    have q : items.toList[i]? = some v := by rw [Array.getElem?_toList]; exact pv
    have hx : vs[i]? = some vs[i] := List.getElem?_eq_getElem hi
    obtain ⟨u, e1, e2⟩ := r.get hx
    rw [q] at e1
    cases e1
    exact ⟨_, hx, e2⟩
  · refine (W items).done s Q E (by rw [← sz r]; exact st) hQ
/-- comparing keys that are pairs of numbers -/
def gtK (a b : Int × Int) : Bool := PySem.W.dataLt (.tuple [.int b.1, .int b.2]) (.tuple [.int a.1, .int a.2])
theorem reads_pair {h : Heap} {a : Addr} {its : Array Value} {p q : Int} (ht : IsTup h a its) (r : Vals [.int p, .int q] its.toList) : ∃ as, Reads h (.ref a) (.tuple [.int p, .int q]) as := by
  obtain ⟨o, ho, hc, n, hd⟩ := ht
  have : ∃ t u, its.toList = [.int p t, .int q u] := by
    cases h1 : its.toList with
    | nil => rw [h1] at r; cases r
    | cons x xs =>
      rw [h1] at r
      cases r with
      | cons r1 r2 =>
        cases r2 with
        | cons r3 r4 =>
          cases r4
          obtain ⟨t, rfl⟩ := r1
          obtain ⟨u, rfl⟩ := r3
          exact ⟨t, u, rfl⟩
  obtain ⟨t, u, e⟩ := this
  exact ⟨_, .tuple ho hc hd (by rw [e]; exact .cons (.int _ _) (.cons (.int _ _) .nil))⟩

/-! ### max(e, key=lambda x: ..) -/
def keyOf (fb : EvE) (i : Nat) (ds : Env) (S : Store) (x : D) : Int × Int := match fb (ds.set i (some x)) S with
  | .ok (.tup [.int p, .int q]) _ => (p, q)
  | _ => (0, 0)
def pairAt (fb : EvE) (i : Nat) (ds : Env) (S : Store) (x : D) : Prop := ∃ p q, fb (ds.set i (some x)) S = .ok (.tup [.int p, .int q]) S
open Classical in
noncomputable def bestK (i : Nat) (fb : EvE) (ds : Env) : D → Store → R D := fun d S1 => match d with
  | .lst xs => if ∀ x ∈ xs, pairAt fb i ds S1 x then match xs[argBest (fun a b => gtK (keyOf fb i ds S1 (xs.getD a .non)) (keyOf fb i ds S1 (xs.getD b .non))) (xs.length - 1)]? with
      | some x => .ok x S1
      | none => .bad
    else .bad
  | _ => .bad
noncomputable def fMaxKey (i : Nat) (fe fb : EvE) : EvE := fun ds S => (fe ds S).bind (bestK i fb ds)
theorem keyOf_eq {fb : EvE} {i : Nat} {ds : Env} {S : Store} {x : D} (h : pairAt fb i ds S x) : fb (ds.set i (some x)) S = .ok (.tup [.int (keyOf fb i ds S x).1, .int (keyOf fb i ds S x).2]) S := by
  obtain ⟨p, q, e⟩ := h
  unfold keyOf
  rw [e]
theorem grow_ext {Γ : Gm} {β : Bt} {H H1 : Hp} {S : Store} (r : RepSt Γ β S H) (e : ExtN H H1) : Grow β H β H1 := by
  have rd : ∀ a o, (∀ ps, o ≠ HO.tbl ps) → Rd H a o → Rd H1 a o := fun a o t h => by
    rcases h with h | ⟨w, h⟩
    · exact .inl (e _ _ h t)
    · exact .inr ⟨w, e _ _ h fun ps z => (nomatch z)⟩
  refine ⟨⟨[], by simp⟩, rfl, fun a ha => ?_, fun a xs h => rd _ _ (fun ps z => (nomatch z)) h, fun a o t n h => ⟨rd _ _ t h, n⟩, fun a xs _ h => e _ _ h ntl, fun a o u h => e _ _ h (fun ps z => (nomatch z)), fun a x h => e _ _ h (fun ps z => (nomatch z)), fun a q h => e _ _ h codeO_ne⟩
  obtain ⟨⟨xs, q⟩, _⟩ := r.zt a ha
  exact (e _ _ q ntl).trans q.symm
theorem RepSt.ext {Γ : Gm} {β : Bt} {H H1 : Hp} {S : Store} (r : RepSt Γ β S H) (e : ExtN H H1) (t : Tabs Γ.T H1) : RepSt Γ β S H1 :=
  r.keep (grow_ext r e) (fun a ha => let ⟨_, q, c⟩ := r.there ha; (e _ _ q c.tbl).trans q.symm) t
section
variable {Γ : Gm} {X : Cx} {p pos lpos kpos : Pos} {e body : Expr} {params : Arguments} {scope : Scope} {x : Str} {i k : Nat} {fe fb : EvE} {c P : Addr}
/-- the lambda has come, and the list -/
theorem max_key {pins : List (Addr × Obj)} {σ : L2.St} {H0 H : Hp} {s : Shared} {f c' l : Addr} {pm ctv : Value} {β0 β : Bt} {ds : Env} {S1 : Store} {xs : List D} {vs : List V} {Q : VK} {d : D} {S' : Store}
    (hK : X.K = Γ.K) (hc : X.calm = true) (hr : Room (k + 2) X.A) (L : Lam1 X.env.scope scope x) (hN : X.N.Nodup) (hi : X.N[i]? = some x)
    (hbind : ∀ (q : Str) (cl : List (Str × Addr)) (pm cv ctv u : Value), bindArgs (PySem.W.kla_fn "<lambda>" q params body scope cl pm cv ctv) ⟨[u], []⟩ = pure [(x, u)])
    (hbody : ∀ (A : Around) (s : Shared) (H : Hp) (E : XK) (f c' : Addr), Room k (A.deeper (lamEnv X scope s.heap.objs.size f c')) → PE (lamCx X A X.stack s H E scope f c') body (tF Γ fb))
    (I : L2.Inv X pins σ H s) (hf : s.heap.get? f = some (PySem.W.kla_obj "<lambda>" (X.env.qual ++ "<lambda>") params body scope (cloFrom X.env.cells scope.names []) pm c' ctv)) (hfn : H f = none) (hfr : f ∉ frs X.stack) (hco : H c' = some (CodeO c' (X.env.qual ++ "<lambda>")))
    (g0 : Grow β0 H0 β H) (env : RepEnv Γ β0 H0 σ ds) (rst : RepSt Γ β S1 H) (out : β.out l) (hl : H l = some (.lst vs)) (rvs : RVs Γ β H vs xs) (ee : bestK i fb ds (.lst xs) S1 = .ok d S') (k1 : K1 Γ β H d S' Q) :
    wpAny (model X.prog X.w) X.A (call (.builtin "max") [.ref l] [(Str.ofString "key", .ref f)]) (EP X pins σ Q) X.xe s := by
  have hh : X.A.in1.handled = none := hr.hd
  simp only [bestK] at ee
  split at ee
  case isFalse => cases ee
  rename_i hk
  generalize hbt : (fun a b => gtK (keyOf fb i ds S1 (xs.getD a .non)) (keyOf fb i ds S1 (xs.getD b .non))) = bt at ee
  cases hx : xs[argBest bt (xs.length - 1)]? with
  | none => rw [hx] at ee; cases ee
  | some xb =>
  rw [hx] at ee
  cases ee
  have hpos : 0 < xs.length := by have := (List.getElem?_eq_some_iff.mp hx).1; omega
  obtain ⟨its, rv0, pl0, _⟩ := I.list (SqL.of (K := X.K) hl)
  have llt : l < s.heap.objs.size := by obtain ⟨_, _, q, _⟩ := pl0; exact Heap.lt_size q
  have flt : f < s.heap.objs.size := Heap.lt_size hf
  refine call_maxG (γ := Bt × Hp) (PySem.W.iter_listW (A := X.A.in1) hh pl0.isList fun s3 e3 W st hfp hw hkp => ?_)
  generalize hit : s.heap.objs.size = it at *
  have s3z : s3.heap.objs.size = it + 1 := by rw [e3]; show (s.heap.push _).objs.size = _; rw [Heap.size_push, hit]
  have I3 : L2.Inv X pins σ H s3 := by
    have := I.kept (t' := s.toks) (h' := s3.heap) hkp
    rw [e3] at this ⊢
    exact this
  have fpI : FpOk X pins H it := I.fpOk (by rw [hit]; exact Nat.le_refl _) (I.hok.fresh (by rw [hit]; exact Nat.le_refl _))
  have fpT : FpOk X pins H s3.heap.objs.size := I3.fpOk (Nat.le_refl _) (I3.hok.fresh (Nat.le_refl _))
  refine ⟨it, [it, l], [it], _, vs.length, _, _, fun g s' => L2.Inv X pins σ g.2 s' ∧ Grow β H g.1 g.2 ∧ RepSt Γ g.1 S1 g.2 ∧ FpOk X pins g.2 it ∧ FpOk X pins g.2 s3.heap.objs.size ∧ s'.heap.get? f = some (PySem.W.kla_obj "<lambda>" (X.env.qual ++ "<lambda>") params body scope (cloFrom X.env.cells scope.names []) pm c' ctv) ∧ g.2 f = none,
    fun g j kv => ∃ a, kv = .ref a ∧ SqT Γ.K g.2 a [.int (keyOf fb i ds S1 (xs.getD j .non)).1, .int (keyOf fb i ds S1 (xs.getD j .non)).2], bt, (β, H), rfl, walk_vals hh it l (Nat.ne_of_lt llt) vs, ⟨its.toArray, rv0, st⟩, hfp, by rw [rvs.length]; exact hpos, ⟨?_, ?_, ?_⟩, ⟨I3, .refl _ _, rst, fpI, fpT, hkp _ _ hf, hfn⟩, ?_⟩
  · intro g s1 s2 ⟨J1, J2, J3, J4, J5, J6, J7⟩ mv
    obtain ⟨h2, g2, d2, t2, o2⟩ := s2
    have eg : g2 = s1.gens := mv.gens
    have ed : d2 = s1.drawn := mv.drawn
    have eo : o2 = s1.os := mv.os
    subst eg ed eo
    refine ⟨J1.turnedL (t' := t2) (ch := [s3.heap.objs.size, it]) mv.heap (fun b hb => ?_), J2, J3, J4, J5, mv.heap f _ (fun hb => ?_) J6, J7⟩
    · simp only [List.mem_cons, List.not_mem_nil, or_false] at hb
      rcases hb with rfl | rfl
      · exact J5
      · exact J4
    · simp only [List.mem_cons, List.not_mem_nil, or_false] at hb
      rcases hb with hb | hb
      · exact Nat.ne_of_lt (Nat.lt_trans flt (by rw [s3z]; exact Nat.lt_succ_self _)) hb
      · exact Nat.ne_of_lt flt hb
  · intro j v g s1 o Qd E hj ⟨xv, hxv, rx⟩ ⟨J1, J2, J3, J4, J5, J6, J7⟩ wst hT cont
    obtain ⟨items, vi, wit, wl⟩ := wst
    have hj' : j < xs.length := by rw [← rvs.length]; exact hj
    obtain ⟨xv', q1, q2⟩ := (rvs.mono J2).get (List.getElem?_eq_getElem hj')
    rw [hxv] at q1
    cases q1
    have hpair := keyOf_eq (hk xs[j] (List.getElem_mem hj'))
    have egd : xs.getD j .non = xs[j] := by simp [List.getD, List.getElem?_eq_getElem hj']
    have nfr : ∀ b, FpOk X pins g.2 b → b ∉ frs X.stack := fun b hb z => by
      rcases List.mem_cons.mp (J1.stkSub _ z) with q | q
      · exact hb.2.1 q
      · exact hb.2.2.1 q
    refine wpAny_call (codeAny_mono (lam_call (A := X.A.in1) (kk := k) (tb := tF Γ fb) (Q := fun v' H' => ∃ β', Grow g.1 g.2 β' H' ∧ RepSt Γ β' S1 H' ∧ RV Γ β' H' v' (.tup [.int (keyOf fb i ds S1 xs[j]).1, .int (keyOf fb i ds S1 xs[j]).2])) J1 I.ok.frames L hN hi rx J6 (J2.co _ _ hco) hr.in1 (hbind _ _ _ _ _ _) (fun E h => hbody X.A.in1 s1 g.2 E f c' h)
      ⟨g.1, ds.set i (some xs[j]), S1, _, S1, ⟨J3, (env.mono (g0.trans J2)).set q2 i⟩, hpair, fun β' v' H' gr r rv => ⟨β', gr, r, rv⟩⟩) fun r s2 hq => ?_)
    cases r with
    | error e => exact (show False from hq).elim
    | ok fl =>
      cases fl with
      | next => exact (show False from hq).elim
      | brk => exact (show False from hq).elim
      | cont => exact (show False from hq).elim
      | ret u =>
        obtain ⟨v2, H2, os, bare, un, hok2, rv2, β2, gr, rst2, rvt⟩ := hq
        obtain ⟨v3, H3, J', _, e1, e2⟩ := J1.after (Q := fun v H => v = v2 ∧ H = H2) ⟨v2, H2, os, bare, un, hok2, rv2, rfl, rfl⟩
        subst e1 e2
        obtain ⟨ka, vt, ek, sq, qv⟩ := rv_tup rvt
        subst ek
        have evt : vt = [.int (keyOf fb i ds S1 xs[j]).1, .int (keyOf fb i ds S1 xs[j]).2] := by
          cases qv with
          | cons r1 r2 => cases r2 with
            | cons r3 r4 =>
              cases r4
              rw [rv_int r1, rv_int r3]
        subst evt
        obtain rfl : u = Value.ref ka := rv2
        obtain ⟨oit, hoit, _⟩ := id wit
        have kit := un.keep it oit hoit J4.1 (nfr it J4) (by simp)
        obtain ⟨its2, r2, pl2, _⟩ := J'.list (SqL.of (K := X.K) ((J2.trans gr).lst _ _ out hl))
        have nfrf : f ∉ frs X.stack := hfr
        refine cont (.ref ka) (β2, H3) s2 ⟨J', J2.trans gr, rst2, ⟨un.free it oit hoit J4.1 (by simp), J4.2⟩, ⟨un.free _ o hT J5.1 (by simp), J5.2⟩, un.keep f _ J6 J7 hfr (by simp), un.free f _ J6 J7 (by simp)⟩
          ⟨its2.toArray, r2, wit.at fun o' e' => ?_, pl2.isList⟩ (un.keep _ o hT J5.1 (nfr _ J5) (by simp)) ⟨ka, rfl, by rw [egd]; exact sq⟩ fun j' k' ⟨a, e, q⟩ => ⟨a, e, gr.sqT q⟩
        rw [hoit] at e'
        cases e'
        exact kit
  · intro a b ka kb g s1 Qd E ⟨J1, _⟩ ⟨ta, ea, sa⟩ ⟨tb, eb, sb⟩ hq
    subst ea eb hbt
    obtain ⟨i1, r1, t1, _⟩ := J1.tuple (by rw [hK]; exact sa)
    obtain ⟨i2, r2, t2, _⟩ := J1.tuple (by rw [hK]; exact sb)
    obtain ⟨as, ra⟩ := reads_pair t1 (by simpa using r1)
    obtain ⟨bs, rb⟩ := reads_pair t2 (by simpa using r2)
    refine PySem.W.rcGt_alike _ _ X.A.in1 s1 _ _ _ _ ra rb rfl (fun z => (nomatch z)) ?_ _ _ _ _ hq
    have := hr.un
    show X.A.units + 1 + min 1 1 < cLine
    omega
  · intro v g s' ⟨xv, hxv, rx⟩ ⟨J1, J2, J3, _⟩
    obtain ⟨xv', q1, q2⟩ := (rvs.mono J2).get hx
    rw [← rvs.length, hxv] at q1
    cases q1
    exact ⟨xv, g.2, J1, rx, k1 g.1 xv g.2 J2 J3 q2⟩
theorem pf_maxKey (hK : X.K = Γ.K) (hc : X.calm = true) (hr : Room (k + 2) X.A) (TB : TabB X.base X.mg c P) (hcode : X.env.code = .ref c) (hmT : (P, X.env.qual ++ "<lambda>") ∈ Γ.T) (hu : ∀ p ∈ Γ.T, p.1 = P → p.2 = X.env.qual ++ "<lambda>")
    (L : Lam1 X.env.scope scope x) (hN : X.N.Nodup) (hi : X.N[i]? = some x)
    (hbind : ∀ (q : Str) (cl : List (Str × Addr)) (pm cv ctv u : Value), bindArgs (PySem.W.kla_fn "<lambda>" q params body scope cl pm cv ctv) ⟨[u], []⟩ = pure [(x, u)])
    (hg : Gl X "max") (hm : X.mg "max" = none) (ha : PA X [e] (tFA Γ (fCons fe fNil)))
    (hbody : ∀ (A : Around) (s : Shared) (H : Hp) (E : XK) (f c' : Addr), Room k (A.deeper (lamEnv X scope s.heap.objs.size f c')) → PE (lamCx X A X.stack s H E scope f c') body (tF Γ fb))
    (hdef : defaultsOf params X.env = ([], []) := by rfl) (hbm : bootBuiltins "max" = some (.builtin "max") := by decide +kernel)
    (hse : backTo pos (starEach [e] X.env) = (false, eval e X.env) :: backTo pos (starEach [] X.env) := by rfl) (hpl : (backTo pos (starEach [e] X.env)).any (·.1) = false := by rfl) :
    PE X (.Call (.Name "max" p) [e] [⟨some "key", .Lambda params body scope lpos, kpos⟩] pos) (tF Γ (fMaxKey i fe fb)) := by
  refine ⟨fun pins s σ H Q I ⟨β, ds, S, d, S', rep, ee, k1⟩ => ?_⟩
  obtain ⟨xd, S1, e1, ee⟩ := R.bind_inv ee
  have h : tFA Γ (fCons fe fNil) σ H fun vs H1 => ∃ β1, Grow β H β1 H1 ∧ RepSt Γ β1 S1 H1 ∧ RVs Γ β1 H1 vs [xd] := ⟨β, ds, S, [xd], S1, rep, by
    show (fe ds S).bind _ = _
    rw [e1]
    rfl, fun β' vs H' g r q => ⟨β', g, r, q⟩⟩
  refine wpAny_Call_Name_kw (ld_blt I hg hm hbm (PyProof.Rows.callWith_kw (thn (ha.run pos pins s σ H _ I h) fun us s1 ⟨vs, H1, I1, r1, β1, g1, rs, rv⟩ => ?_) hse hpl))
  obtain ⟨v, rfl, rw1⟩ := rvs1 rv
  obtain ⟨u, rfl, ru⟩ := r1.one
  refine kws_cons (lam_make2 I1 TB hcode hmT hu rs.tb hdef (L.has I.ok) fun f c' pm' ctv H2 s2 I2 eN T1 hf hfn hfr hco => kws_nil ?_)
  cases xd <;> simp only [bestK] at ee <;> first | cases ee | skip
  cases rw1 with
  | @lst a ws _ n h1 q =>
    obtain rfl : u = Value.ref a := ru
    have gx := grow_ext rs eN
    exact max_key (k := k) hK hc hr L hN hi hbind hbody I2 hf hfn hfr hco (g1.trans gx) rep.env (rs.ext eN T1) n (eN _ _ h1 ntl) (q.mono gx) ee (k1.from (g1.trans gx))
end
end Rk

namespace Rk
open PySem PySem.Spec PyProof.Rows L2

/-! ### built-in functions with keywords -/
abbrev EvB := List D → List D → Store → R D
def fCallB (m : EvB) (g k : EvA) : EvE := fun ds S => (g ds S).bind fun xs S1 => (k ds S1).bind fun ys S2 => m xs ys S2
def rFB (Γ : Gm) (m : EvB) : List V → List V → Hp → VK → Prop := fun vs zs H Q => ∃ β S xs ys d S', RepSt Γ β S H ∧ RVs Γ β H vs xs ∧ RVs Γ β H zs ys ∧ m xs ys S = .ok d S' ∧ K1 Γ β H d S' Q
section
variable {Γ : Gm} {X : Cx} {x : Str} {p pos : Pos} {e : Expr} {es : List Expr} {kws : List Keyword} {id : String} {ks : List Str} {m : EvB} {g k : EvA}
theorem pf_callKB (hc : CallRK X (.builtin id) ks (rFB Γ m)) (hg : Gl X x) (hm : X.mg x = none) (hv : bootBuiltins x = some (.builtin id)) (ha : PA X (e :: es) (tFA Γ g)) (hk : PK X kws (tFA Γ k)) (hn : x ≠ "__name__" := by decide) (hdb : (x == ("__debug__" : Str)) = false := by decide)
    (he : backTo pos (starEach (e :: es) X.env) = (false, eval e X.env) :: backTo pos (starEach es X.env) := by rfl) (hpl : (backTo pos (starEach (e :: es) X.env)).any (·.1) = false := by rfl)
    (hall : (backToKw pos (keywordEach kws X.env)).all (·.1.isSome) = true := by rfl) (hnone : (backToKw pos (keywordEach kws X.env)).any (·.1.isNone) = false := by rfl) (hks : (backToKw pos (keywordEach kws X.env)).filterMap (·.1) = ks := by rfl) :
    PE X (.Call (.Name x p) (e :: es) kws pos) (tF Γ (fCallB m g k)) :=
  pe_imp (pe_callBK hc hg hm hv ha hk hn hdb he hpl hall hnone hks) fun σ H Q ⟨β, ds, S, d, S', rep, ee, k1⟩ => by
    obtain ⟨xs, S1, e1, ee⟩ := R.bind_inv ee
    obtain ⟨ys, S2, e2, ee⟩ := R.bind_inv ee
    exact ⟨β, ds, S, xs, S1, rep, e1, fun β1 vs H1 g1 r1 rv => ⟨β1, ds, S1, ys, S2, rep.go g1 r1, e2, fun β2 zs H2 g2 r2 rz => ⟨β2, S2, xs, ys, d, S', r2, rv.mono g2, rz, ee, k1.from (g1.trans g2)⟩⟩⟩
end
/-! ### min(xs, default=d), numbers -/
theorem reads_ints {h : Heap} : ∀ {ns : List Int} {its : List Value}, Vals (ns.map V.int) its → ∃ as, ReadsAll h its (ns.map PyData.int) as
  | [], _, r => by cases r; exact ⟨_, .nil⟩
  | n :: ns, _, r => by
    cases r with
    | cons r1 r2 =>
      obtain ⟨t, rfl⟩ := r1
      obtain ⟨as, ra⟩ := reads_ints r2
      exact ⟨_, .cons (.int n t) ra⟩
def minDB : EvB := fun xs ks S => match xs, ks with
  | [.lst ys], [d] => match intsD ys with
    | some [] => .ok d S
    | some (n :: ns) => .ok (.int (ns.foldl min n)) S
    | none => .bad
  | _, _ => .bad
theorem depth_ints (ns : List Int) : PyData.depthAll (ns.map PyData.int) = 0 := by
  induction ns with
  | nil => rfl
  | cons n ns ih => simp [PyData.depthAll, ih, PyData.depth]
theorem alike_ints (ns : List Int) : PySem.W.AlikeAll (ns.map PyData.int) := by
  refine ⟨fun x hx y hy => ?_, fun x hx => ?_⟩
  · obtain ⟨a, _, rfl⟩ := List.mem_map.mp hx
    obtain ⟨b, _, rfl⟩ := List.mem_map.mp hy
    rfl
  · obtain ⟨a, _, rfl⟩ := List.mem_map.mp hx
    exact fun z => (nomatch z)
theorem cr_minD {Γ : Gm} {X : Cx} (hK : X.K = Γ.K) (hc : X.calm = true) (hu : X.A.units + 64 < cLine) : CallRK X (.builtin "min") [Str.ofString "default"] (rFB Γ minDB) := by
  intro pins s σ H vs zs us ws Q I ru rw_ ⟨β, S, xs, ys, d, S', r, rv, rz, e, k1⟩
  unfold minDB at e
  split at e
  case h_2 => cases e
  rename_i ls dd
  obtain ⟨v, rfl, r1⟩ := rvs1 rv
  obtain ⟨z, rfl, r2⟩ := rvs1 rz
  obtain ⟨u, rfl, q1⟩ := ru.one
  obtain ⟨w, rfl, q2⟩ := rw_.one
  cases r1 with
  | @lst a vl _ n h1 qv =>
    obtain rfl : u = Value.ref a := q1
    obtain ⟨its, rl, pl, _⟩ := I.list (SqL.of (K := X.K) h1)
    cases hi : intsD ls with
    | none => rw [hi] at e; cases e
    | some ns =>
      have ev := intsD_of qv hi
      subst ev
      obtain ⟨as, ra⟩ := reads_ints (h := s.heap) rl
      refine PySem.W.min_list_default (I.ok.hd hc) pl.isList (by simpa using ra) (alike_ints ns) (by rw [depth_ints]; omega) (fun h0 h' tk hk => ?_) (fun y yl i v' h' tk bs hy hv hr hk => ?_)
      · have : ns = [] := by simpa using h0
        subst this
        rw [hi] at e
        cases e
        exact ⟨z, H, I.kept hk, q2, k1 β z H (.refl β H) r r2⟩
      · cases ns with
        | nil => cases hy
        | cons n ns =>
          rw [hi] at e
          cases e
          cases hy
          rw [PySem.W.minD_ints] at hr
          cases hr with
          | int _ t => exact ⟨.int (ns.foldl min n), H, I.kept hk, ⟨t, rfl⟩, k1 β _ H (.refl β H) r (.int _)⟩
end Rk

namespace Rk
open PySem PySem.Spec PyProof.Rows L2 LamX

abbrev tab0 : Obj := { cls := .none, data := .fields #[] }
/-! ### the start, where code objects have tables -/
section
variable {P : Program} {w : World} {K : PySem.W.Frag} {mg : Str → Option Value}
theorem call_headT {mb : Str → Option Value} {cs : List (Addr × Addr)} {k : Nat} {fa a : Addr} {fd : FuncData} {x : Str} {sp : Sp} {s1 : Shared} {vs : List Value} {ns : List Int} (KX : K.In s1.heap) (hns : s1.heap.Ns mainGlobals mg) (hb : s1.heap.Ns builtinsNs mb) (hbb : ∀ x : Str, x ≠ "__name__" → mb x = bootBuiltins x) (lim : s1.heap.NoLimit) (hg : s1.gens = #[])
    (hT : ∀ p ∈ cs, s1.heap.get? p.2 = some tab0) (nT : ∀ p ∈ cs, K.lookup p.2 = none) (hC : ∀ p ∈ cs, PySem.W.CodeHd s1.heap p.1 p.2)
    (hbm : ∃ (bm : Addr) (ob : Obj), mg "__builtins__" = some (.ref bm) ∧ bm ≠ builtinsNs ∧ s1.heap.get? bm = some ob ∧ ob.cls = .type "module" ∧ ob.dict = some builtinsNs ∧ ob.data = .plain)
    (ha : s1.heap.get? a = some { cls := .type "list", data := .seq vs.toArray }) (hi : IntsAre vs ns) (hl : ns.length ≤ sizeLine) (hr : Room k callerA) (F : ∀ base : Heap, (∀ p ∈ cs, TabB base mg p.1 p.2) → FnG P w K mg base CX0 k fa fd [x] sp) (bind : ∀ (s : Shared) (u : Value), BindsTo s fd ⟨[u], []⟩ [(x, u)])
    (hsp : ∀ H : Hp, SqL K H a (ns.map V.int) → (∀ p ∈ cs, H p.2 = some (.tbl #[])) → sp [.ref a] H (fun v _ => v = .bl true) E0) :
    codeAny (model P w) callerA (.call (.ref fa) ⟨[.ref a], []⟩) (fun r s' => r = .ok (.ret (.bool true)) ∧ OldK s1.heap s'.heap ∧ s'.os = s1.os ∧ AllBare s'.gens) s1 := by
  have rv := vals_ints hi
  have inT : ∀ {b : Addr}, b ∈ cs.map (·.2) → s1.heap.get? b = some tab0 := fun hb => by
    obtain ⟨p, hp, rfl⟩ := List.mem_map.mp hb
    exact hT p hp
  have aT : a ∉ cs.map (·.2) := fun z => by
    have q := inT z
    rw [ha] at q
    cases q
  have key : ∀ H : Hp, SqL K H a (ns.map V.int) → HOk P w H s1.heap → (∀ b, b ∈ cs.map (·.2) → H b = some (.tbl #[])) → (∀ b, b ∉ cs.map (·.2) → H b = none ∨ (b = a ∧ K.lookup a = none ∧ ∃ o xs, H b = some (.frz o (.lst xs)))) →
      codeAny (model P w) callerA (.call (.ref fa) ⟨[.ref a], []⟩) (fun r s' => r = .ok (.ret (.bool true)) ∧ OldK s1.heap s'.heap ∧ s'.os = s1.os ∧ AllBare s'.gens) s1 := by
    intro H hS ok tH only
    -- what stands in the heap and is no table, nor the script
    have up : ∀ {b : Addr} {o : Obj}, s1.heap.get? b = some o → H b = none → (hidT s1.heap H).get? b = some o := fun e n => hidT_get e n
    have pl : ∀ {b : Addr} {o : Obj}, s1.heap.get? b = some o → o.data ≠ .fields #[] → o.data ≠ .seq vs.toArray → H b = none := fun {b o} e n1 n2 => by
      by_cases hb : b ∈ cs.map (·.2)
      · rw [inT hb] at e
        cases e
        exact absurd rfl n1
      · rcases only b hb with n | ⟨rfl, _⟩
        · exact n
        · rw [ha] at e
          cases e
          exact absurd rfl n2
    have kx : K.In (hidT s1.heap H) := fun b o e => up (KX b o e) (by
      by_cases hb : b ∈ cs.map (·.2)
      · obtain ⟨p, hp, rfl⟩ := List.mem_map.mp hb
        rw [nT p hp] at e
        cases e
      · rcases only b hb with n | ⟨rfl, n, _⟩
        · exact n
        · rw [n] at e
          cases e)
    have nsx : ∀ {b : Addr} {m : Str → Option Value}, s1.heap.Ns b m → (hidT s1.heap H).Ns b m := fun {b m} h => by
      obtain ⟨o, es, ep, e, dd, r⟩ := h
      exact ⟨o, es, ep, up e (pl e (by rw [dd]; exact fun z => by cases z) (by rw [dd]; exact fun z => by cases z)), dd, r⟩
    have md : Mod K mg (hidT s1.heap H) := by
      obtain ⟨mc, h1, h2⟩ := lim
      exact ⟨kx, nsx hns, ⟨mb, nsx hb, hbb⟩, ⟨mc, nsx h1, h2⟩⟩
    have e0 : Env0 P w K mg (hidT s1.heap H) callerA [] s1 H := ⟨rfl, md, fun b o e => of_hidT e, Nat.le_of_eq (hidT_size _ _), trivial, (fun b hb => by cases (show b ∈ ([] : List Addr) from hb)), ok, .of_eq hg⟩
    have tb : ∀ p ∈ cs, TabB (hidT s1.heap H) mg p.1 p.2 := fun p hp => by
      refine ⟨?_, ?_, fun z => ?_⟩
      · obtain ⟨o, us, r1, r2, r3, r4, r5, r6, r7, e, q1, q2, q3, q4⟩ := hC p hp
        exact ⟨o, us, r1, r2, r3, r4, r5, r6, r7, up e (pl e (by rw [q2]; rintro z; cases z; simp at q3) (by rw [q2]; exact fun z => by cases z)), q1, q2, q3, q4⟩
      · obtain ⟨bm, ob, b1, b2, b3, b4, b5, b6⟩ := hbm
        refine ⟨bm, ob, b1, b2, ?_, ?_, up b3 (pl b3 (by rw [b6]; exact fun z => by cases z) (by rw [b6]; exact fun z => by cases z)), b4, b5, b6⟩
        · rintro rfl
          obtain ⟨o, es, ep, e, dd, _⟩ := hns
          rw [b3] at e
          cases e
          rw [b6] at dd
          cases dd
        · rintro rfl
          rw [hT p hp] at b3
          cases b3
          cases b6
      · obtain ⟨o, es, ep, e, dd, _⟩ := hns
        rw [z, hT p hp] at e
        cases e
        cases dd
    have run := (F (hidT s1.heap H) tb).run callerA [] s1 H ⟨[.ref a], []⟩ [.ref a] [.ref a] _ _ rfl hr e0 (bind s1 (.ref a)) (.cons rfl .nil) (hsp H hS fun p hp => tH _ (List.mem_map.mpr ⟨p, hp, rfl⟩))
    refine codeAny_mono run fun r s' h => ?_
    match r, h with
    | .error e, h => exact h.elim
    | .ok .next, h => exact h.elim
    | .ok .brk, h => exact h.elim
    | .ok .cont, h => exact h.elim
    | .ok (.ret u), h =>
      obtain ⟨v, H', os, bare, un, ok', r', q⟩ := h
      cases (show v = .bl true from q)
      cases (show u = Value.bool true from r')
      have same : ∀ b o, b ∉ cs.map (·.2) → s1.heap.get? b = some o → s'.heap.get? b = some o := fun b o nb e => by
        rcases only b nb with n | ⟨rfl, _, ob, xs, zz⟩
        · exact un.keep b o e n (by intro z; cases (show b ∈ ([] : List Addr) from z)) (by simp)
        · obtain ⟨w1, _⟩ := ok _ _ zz
          obtain ⟨w2, _⟩ := ok' _ _ (un.frzs _ ob _ zz)
          rw [e] at w1
          cases w1
          exact w2
      have more : ∀ p ∈ cs, ∃ ps : Array Value, s'.heap.get? p.2 = some { cls := .none, data := .fields ps } := fun p hp => by
        obtain ⟨ps, z⟩ := un.tbls p.2 #[] (tH _ (List.mem_map.mpr ⟨p, hp, rfl⟩))
        exact ⟨_, ok' p.2 _ z⟩
      refine ⟨rfl, ⟨fun b o e => ?_, fun b o e => ?_⟩, os, bare⟩
      · by_cases hb : b ∈ cs.map (·.2)
        · obtain ⟨p, hp, rfl⟩ := List.mem_map.mp hb
          obtain ⟨ps, hm⟩ := more p hp
          rw [hT p hp] at e
          cases e
          refine .inr (.inl ⟨((hC p hp).tab (hT p hp)).isCodeTable, rfl, #[], ps, rfl, ?_⟩)
          rw [Array.empty_append]
          exact hm
        · exact .inl (same b o hb e)
      · by_cases hb : b ∈ cs.map (·.2)
        · obtain ⟨p, hp, rfl⟩ := List.mem_map.mp hb
          obtain ⟨ps, hm⟩ := more p hp
          exact ⟨_, hm⟩
        · exact ⟨o, same b o hb e⟩
  have tabOk : ∀ {H : Hp} {b : Addr} {u : HO}, b ∈ cs.map (·.2) → some (HO.tbl #[]) = some u → ObjOk P w H s1.heap b u := fun hb z => by
    cases z
    exact inT hb
  cases hk : K.lookup a with
  | some o =>
    have e := KX a o hk
    rw [ha] at e
    cases e
    refine key (fun b => if b ∈ cs.map (·.2) then some (.tbl #[]) else none) (.inr ⟨_, vs.toArray, _, hk, rfl, rfl, rfl, by rw [List.size_toArray, hi.length]; exact hl, by simpa using rv⟩) (fun b u z => ?_) (fun b hb => if_pos hb) fun b hb => .inl (if_neg hb)
    by_cases hb : b ∈ cs.map (·.2)
    · exact tabOk hb ((if_pos hb).symm.trans z)
    · cases (if_neg hb).symm.trans z
  | none =>
    refine key (fun b => if b ∈ cs.map (·.2) then some (.tbl #[]) else if b = a then some (.frz { cls := .type "list", data := .seq vs.toArray } (.lst (ns.map V.int))) else none) (.inl (.inr ⟨{ cls := .type "list", data := .seq vs.toArray }, (if_neg aT).trans (if_pos rfl)⟩)) (fun b u z => ?_) (fun b hb => if_pos hb) fun b hb => ?_
    · by_cases hb : b ∈ cs.map (·.2)
      · exact tabOk hb ((if_pos hb).symm.trans z)
      · have z2 := (if_neg hb).symm.trans z
        by_cases h : b = a
        · cases (if_pos h).symm.trans z2
          subst h
          exact ⟨ha, by rw [List.length_map]; exact hl, vs, _, rv, ha⟩
        · cases (if_neg h).symm.trans z2
    · by_cases h : b = a
      · exact .inr ⟨h, hk, _, _, (if_neg hb).trans (if_pos h)⟩
      · exact .inl ((if_neg hb).trans (if_neg h))
theorem rv_script2 {Γ : Gm} {H : Hp} {a : Addr} {ns : List Int} (h : SqL Γ.K H a (ns.map V.int)) : RV Γ ⟨[], []⟩ H (.ref a) (.rol (ns.map D.int)) := by
  have q : RVs Γ ⟨[], []⟩ H (ns.map V.int) (ns.map D.int) := by
    clear h
    induction ns with
    | nil => exact .nil
    | cons n ns ih => exact .cons (.int n) ih
  have no : Bt.out ⟨[], []⟩ a := ⟨by simp, by simp⟩
  rcases h with h | h
  · exact .rol no h q
  · exact .rolK h q
/-- THE END, with tables -/
theorem walk_rkT {l : PySem.W.OpenLaw} {n k g : Nat} {q : Program} {loose : List Str} {XP : (Str → Option Value) → Heap → Prop} {YP : World → Heap → Prop} {d : DefRec} {K : Params → PySem.W.Frag} {tab : Nat → FD} {x : Str} {ts : List Addr}
    (hn : l.most = some n) (hn2 : n ≤ sizeLine) (hdf : d.params.defaults = []) (hr : Room (k + 2) callerA) (hY : ∀ (w : World) (h : Heap), YP w h → (K w.params).In h ∧ ∀ P ∈ ts, h.get? P = some tab0)
    (F : ∀ (w : World) (mg : Str → Option Value) (fa : Addr) (h : Heap), (K w.params).In h → (∀ P ∈ ts, h.get? P = some tab0) → h.Ns mainGlobals mg → mg d.name = some (.ref fa) →
      ∃ (K' : PySem.W.Frag) (cs : List (Addr × Addr)) (fd : FuncData), K'.In h ∧ (∀ p ∈ cs, h.get? p.2 = some tab0) ∧ (∀ p ∈ cs, K'.lookup p.2 = none) ∧ (∀ p ∈ cs, PySem.W.CodeHd h p.1 p.2) ∧ (∀ (s : Shared) (u : Value), BindsTo s fd ⟨[u], []⟩ [(x, u)]) ∧
        ∃ Γ : Gm, Γ.K = K' ∧ (∀ p ∈ Γ.T, p.1 ∈ cs.map (·.2)) ∧ ∀ base : Heap, (∀ p ∈ cs, TabB base mg p.1 p.2) → FnG l.prog w K' mg base CX0 (k + 2) fa fd [x] (spF Γ 1 (evC tab k g)))
    (ans : ∀ ns : List Int, ns.length ≤ n → (∀ z ∈ ns, Builtin.Int.intBits z ≤ 1048576) → ∃ S, evC tab k g [.rol (ns.map D.int)] [] = .ok (.bl true) S) :
    PySem.W.WalkO q loose XP YP l.row.toRowW d [] (fun f vs => PySem.call f vs) := by
  refine Att.attach_callB hn hdf fun w s0 s1 mg mb fa o pm cd doc a vs ns G Y ho hd hcd hmg hobj hints hlen hbits hg => ?_
  obtain ⟨K', cs, fd, KX, hT, nT, hC, hb, Γ, hΓ, hΓT, hF⟩ := F w mg fa _ (hY w _ Y).1 (hY w _ Y).2 G.T.g hmg
  obtain ⟨S, ev⟩ := ans ns hlen hbits
  refine call_headT KX G.T.g G.T.b G.T.builtins G.T.nolimit hg hT nT hC G.T.bmain hobj hints (Nat.le_trans hlen hn2) hr hF hb fun H hS hTH => ⟨rfl, ⟨[], []⟩, [], _, .bl true, S, rep_nil fun p hp => ?_, .cons (rv_script2 (by rw [hΓ]; exact hS)) .nil, ev, fun β v H' _ _ rv => rv_bl rv⟩
  obtain ⟨t, ht, e⟩ := List.mem_map.mp (hΓT p hp)
  exact TabS.nil (by rw [← e]; exact hTH t ht)
end
end Rk

namespace Rk
open PySem PySem.Spec PyProof.Rows L2 LamX
/-- THE END, with room j for fuel k -/
theorem walk_rkJ {l : PySem.W.OpenLaw} {n k j g : Nat} {q : Program} {loose : List Str} {XP : (Str → Option Value) → Heap → Prop} {YP : World → Heap → Prop} {d : DefRec} {K : Params → PySem.W.Frag} {tab : Nat → FD} {x : Str} {ts : List Addr}
    (hn : l.most = some n) (hn2 : n ≤ sizeLine) (hdf : d.params.defaults = []) (hr : Room j callerA) (hY : ∀ (w : World) (h : Heap), YP w h → (K w.params).In h ∧ ∀ P ∈ ts, h.get? P = some tab0)
    (F : ∀ (w : World) (mg : Str → Option Value) (fa : Addr) (h : Heap), (K w.params).In h → (∀ P ∈ ts, h.get? P = some tab0) → h.Ns mainGlobals mg → mg d.name = some (.ref fa) →
      ∃ (K' : PySem.W.Frag) (cs : List (Addr × Addr)) (fd : FuncData), K'.In h ∧ (∀ p ∈ cs, h.get? p.2 = some tab0) ∧ (∀ p ∈ cs, K'.lookup p.2 = none) ∧ (∀ p ∈ cs, PySem.W.CodeHd h p.1 p.2) ∧ (∀ (s : Shared) (u : Value), BindsTo s fd ⟨[u], []⟩ [(x, u)]) ∧
        ∃ Γ : Gm, Γ.K = K' ∧ (∀ p ∈ Γ.T, p.1 ∈ cs.map (·.2)) ∧ ∀ base : Heap, (∀ p ∈ cs, TabB base mg p.1 p.2) → FnG l.prog w K' mg base CX0 j fa fd [x] (spF Γ 1 (evC tab k g)))
    (ans : ∀ ns : List Int, ns.length ≤ n → (∀ z ∈ ns, Builtin.Int.intBits z ≤ 1048576) → ∃ S, evC tab k g [.rol (ns.map D.int)] [] = .ok (.bl true) S) :
    PySem.W.WalkO q loose XP YP l.row.toRowW d [] (fun f vs => PySem.call f vs) := by
  refine Att.attach_callB hn hdf fun w s0 s1 mg mb fa o pm cd doc a vs ns G Y ho hd hcd hmg hobj hints hlen hbits hg => ?_
  obtain ⟨K', cs, fd, KX, hT, nT, hC, hb, Γ, hΓ, hΓT, hF⟩ := F w mg fa _ (hY w _ Y).1 (hY w _ Y).2 G.T.g hmg
  obtain ⟨S, ev⟩ := ans ns hlen hbits
  refine call_headT KX G.T.g G.T.b G.T.builtins G.T.nolimit hg hT nT hC G.T.bmain hobj hints (Nat.le_trans hlen hn2) hr hF hb fun H hS hTH => ⟨rfl, ⟨[], []⟩, [], _, .bl true, S, rep_nil fun p hp => ?_, .cons (rv_script2 (by rw [hΓ]; exact hS)) .nil, ev, fun β v H' _ _ rv => rv_bl rv⟩
  obtain ⟨t, ht, e⟩ := List.mem_map.mp (hΓT p hp)
  exact TabS.nil (by rw [← e]; exact hTH t ht)
end Rk

namespace Rk
open PySem PySem.Spec PyProof.Rows L2

/-! ### x, *rest = a tuple -/
section
variable {prog : Program} {w : World} {A : Around} {E : Value → Shared → Prop} {s : Shared}
theorem star_items {l : Addr} {items : Array Value} {Q : List Value → Shared → Prop} (hl : IsTup s.heap l items) (hh : A.handled = none) (h1 : 1 ≤ items.size) (hz : items.size ≤ 16384)
    (h : ∀ D h' tk, s.heap.get? D = none → (∃ hm : Heap, (∀ b o, s.heap.get? b = some o → hm.get? b = some o) ∧ hm.objs.size ≤ D) → (∀ b o, s.heap.get? b = some o → h'.get? b = some o) → h'.get? D = some { cls := .type "list", data := .seq (items.toList.drop 1).toArray } → Q (items.toList.take 1 ++ [.ref D]) { s with heap := h', toks := tk }) :
    wpAny (model prog w) A (unpackItems (.ref l) 2 (some 1)) Q E s := by
  have hlt : l ≠ s.heap.objs.size := by obtain ⟨o, ho, _⟩ := hl; exact Nat.ne_of_lt (Heap.lt_size ho)
  unfold unpackItems
  refine wpAny_bind ?_
  unfold notIterableAtAll
  refine wpAny_bind (wpAny_specialOf hl.typeIs slot_tuple_iter.lookup (wpAny_pure ?_))
  simp only [Bool.false_eq_true, if_false]
  refine wpAny_bind (wpAny_holding (iter_tuple hl ?_))
  refine wpAny_bind (wpAny_holding (draw_tuple hlt 1 0 _ _ ⟨_, Heap.get?_push_size _ rfl, rfl, rfl⟩ (hl.push _) (by omega) fun h₁ it1 s1 => ?_))
  have hl1 : IsTup h₁ l items := (hl.push _).extBut s1.extBut hlt
  rw [Nat.zero_add] at it1
  obtain ⟨oi, hoi, _⟩ := id it1
  obtain ⟨ol, hol, _⟩ := id hl1
  rw [List.drop_zero]
  have e1 : (items.toList.take 1).length = 1 := by rw [List.length_take, Array.length_toList]; omega
  rw [if_neg (show ¬ ((items.toList.take 1).length < 1) by omega)]
  refine wpAny_bind (wpAny_holding (PySem.W.kun_collect (s := { s with heap := h₁ }) (T := "tuple_iterator") (.inr (.inr (.inr rfl))) (Walks.tuple (A := A.in1) hh s.heap.objs.size l hlt items) (fun j u st => st.1.typeIs) (k := 1) h1 ⟨it1, hl1⟩ (Heap.lt_size hoi) (Heap.lt_size hol) (fun h₂ tk hk => ?_) (by rw [sizeLine_eq]; omega)))
  have e2 : (items.toList.drop 1).length = items.size - 1 := by rw [List.length_drop, Array.length_toList]
  show wpAny _ _ (if (items.toList.drop 1).length < 0 then _ else _) _ _ _
  rw [if_neg (Nat.not_lt_zero _)]
  show wpAny _ _ (newList ((items.toList.drop 1).take ((items.toList.drop 1).length - 0)) >>= fun d => pure (items.toList.take 1 ++ [d] ++ (items.toList.drop 1).drop ((items.toList.drop 1).length - 0))) _ _ _
  rw [Nat.sub_zero, List.take_length, List.drop_length]
  have keep : ∀ b o, s.heap.get? b = some o → h₂.get? b = some o := fun b o e => by
    have hb : b ≠ s.heap.objs.size := Nat.ne_of_lt (Heap.lt_size e)
    exact hk b o hb (s1.extBut b o hb (Heap.get?_push_of_some _ e))
  refine wpAny_bind (wpAny_newList ?_ (by rw [e2, sizeLine_eq]; omega))
  refine wpAny_pure ?_
  have q := h h₂.objs.size (h₂.push { cls := .type "list", data := .seq (items.toList.drop 1).toArray }) tk ?_ ⟨h₂, keep, Nat.le_refl _⟩ (fun b o e => Heap.get?_push_of_some _ (keep b o e)) (Heap.get?_push_size _ rfl)
  · rw [show items.toList.take 1 ++ [Value.ref h₂.objs.size] ++ [] = items.toList.take 1 ++ [Value.ref h₂.objs.size] from List.append_nil _]
    exact q
  · cases hx : s.heap.get? h₂.objs.size with
    | none => rfl
    | some o => exact absurd (Heap.lt_size (keep _ _ hx)) (Nat.lt_irrefl _)
end
section
variable {Γ : Gm} {X : Cx} {pos p1 : Pos}
/-- the first one, and a new list of the rest -/
def gStar (K : PySem.W.Frag) (t : TGs) : TG := fun v σ H Q => ∃ a x xs, v = .ref a ∧ SqT K H a (x :: xs) ∧ xs.length ≤ 16000 ∧ ∀ D, H D = none → t [x, .ref D] σ (upd H D (.lst xs)) Q
theorem pg_star {e1 e2 : Expr} {k : Nat} {t : TGs} (hc : X.calm = true) (h : PGs X [e1, e2] t)
    (hn : assignEach [e1, .Starred e2 p1] X.env = [(false, assign e1 X.env), (true, assign e2 X.env)] := by rfl) (hn2 : (assignEach [e1, e2] X.env).map (·.2) = [assign e1 X.env, assign e2 X.env] := by rfl) : PG X (.Tuple [e1, .Starred e2 p1] k pos) (gStar X.K t) := by
  refine ⟨fun pins s σ H v u Q I r ⟨a, x, xs, e, hq, hl, hw⟩ => ?_⟩
  subst e
  cases r
  obtain ⟨its, rv, ht, hz⟩ := I.tuple hq
  have hlen := rv.length
  rw [List.length_cons] at hlen
  rw [assign_Tuple, hn]
  refine wpAny_bind (wpAny_standAt ?_)
  unfold unpack
  refine wpAny_bind (wpAny_holding (star_items ht (I.ok.hd hc) (by rw [List.size_toArray]; omega) (by rw [List.size_toArray]; omega) fun D h' tk n hm k' hD => ?_))
  cases rv with
  | @cons _ u _ us r1 rr =>
    have nD : H D = none := by
      cases hx : H D with
      | none => rfl
      | some o =>
        obtain ⟨h2, k2, l2⟩ := hm
        have ok2 : HOk X.prog X.w H h2 := HOk.kept I.hok k2
        exact absurd (ok2 D o hx).lt (Nat.not_lt.mpr l2)
    have I1 : Inv X pins σ (upd H D (.lst xs)) { s with heap := h', toks := tk } := I.laidN k' n nD ⟨by rw [sizeLine_eq]; omega, us, 0, rr, hD⟩
    have := h.run pins _ σ _ [x, .ref D] [u, .ref D] Q I1 (.cons r1 (.cons rfl .nil)) (hw D nD)
    rw [hn2] at this
    exact this
def tgStar (i j : Nat) : EvG := fun d ds => match d with
  | .tup (x :: xs) => if xs.length ≤ 16000 then some ((ds.set i (some x)).set j (some (.lst xs))) else none
  | _ => none
theorem pfg_star {e1 e2 : Expr} {k i j : Nat} (hK : X.K = Γ.K) (hc : X.calm = true) (h : PGs X [e1, e2] (gCons (gName i) (gCons (gName j) gNil)))
    (hn : assignEach [e1, .Starred e2 p1] X.env = [(false, assign e1 X.env), (true, assign e2 X.env)] := by rfl) (hn2 : (assignEach [e1, e2] X.env).map (·.2) = [assign e1 X.env, assign e2 X.env] := by rfl) : PG X (.Tuple [e1, .Starred e2 p1] k pos) (gF Γ [i, j] (tgStar i j)) :=
  pg_imp (pg_star hc h hn hn2) fun v σ H Q ⟨β, ds, S, d, ds', rep, rv, e, k⟩ => by
    unfold tgStar at e
    split at e
    · split at e
      · rename_i x xs hl
        cases e
        obtain ⟨a, vs, rfl, h1, q⟩ := rv_tup rv
        cases q with
        | @cons v vs _ _ r1 rr =>
          refine ⟨a, v, vs, rfl, by rw [hK]; exact h1, by rw [rr.length]; exact hl, fun D hD => ⟨_, _, rfl, ⟨_, _, rfl, rfl, ?_⟩⟩⟩
          have g := grow_new (o := .lst vs) rep.st hD
          refine k β _ _ ((Sb.set σ i (some v)).trans (Sb.set _ j (some (.ref D)))) g ⟨rep.st.new hD, ?_⟩
          exact ((rep.env.mono g).set (r1.mono g) i).set (.lst (rep.st.new_out hD) upd_same (rr.mono g)) j
      · cases e
    · cases e
end
end Rk

namespace Rk
open PySem PySem.Spec PyProof.Rows L2
open Sem (wp)

/-! ### zip(.., strict=True), in the machine's own words -/
/-- the object at z is such a zip; m: its first field -/
abbrev IsZs (h : Heap) (z TI TO : Addr) (m : Value) : Prop := h.get? z = some { cls := .type "zip", dict := none, data := .fields #[m, .bool false, .bool true, .ref TI, .ref TO], slots := #[] }
section
variable {prog : Program} {w : World} {A : Around} {E : Value → Shared → Prop} {s : Shared} {z TI TO i1 i2 : Addr} {f1 f2 : List Addr} {n i : Nat} {P1 P2 : Nat → Value → Prop} {T1 T2 : Nat → Heap → Prop} {u1 u2 : Value}
theorem noe_item {it : Addr} {fp : List Addr} {P : Nat → Value → Prop} {T : Nat → Heap → Prop} {Q : Option Value → Shared → Prop} (D : Draws prog w A it fp n P T) (st : T i s.heap) (hi : i < n)
    (h : ∀ x h' tk, P i x → T (i + 1) h' → Heap.SameBut it s.heap h' → Q (some x) { s with heap := h', toks := tk }) : wpAny (model prog w) A (Builtin.SmallTypes.nextOrEnd (.ref it)) Q E s := by
  unfold Builtin.SmallTypes.nextOrEnd
  exact wpAny_bind (wpAny_attempt (D.item i _ _ _ hi st fun x h' tk hp ht hs => wpAny_pure (h x h' tk hp ht hs)))
theorem noe_end {it : Addr} {fp : List Addr} {P : Nat → Value → Prop} {T : Nat → Heap → Prop} {Q : Option Value → Shared → Prop} (D : Draws prog w A it fp n P T) (st : T n s.heap)
    (h : ∀ h', Heap.ExtBut it s.heap h' → Q none { s with heap := h' }) : wpAny (model prog w) A (Builtin.SmallTypes.nextOrEnd (.ref it)) Q E s := by
  unfold Builtin.SmallTypes.nextOrEnd
  refine wpAny_bind (wpAny_attempt (D.done s _ _ st fun h' e hk ⟨o, ho, hc⟩ => ?_))
  exact wpAny_bind (wpAny_isInstance (T := "StopIteration") (b := true) ⟨o, ho, hc⟩ isSubtype_stop (wpAny_pure (h h' hk)))
theorem zs_item {Q : Value → Shared → Prop} (S : ZipSep2 z TI TO i1 i2 f1 f2) (D1 : Draws prog w A i1 f1 n P1 T1) (D2 : Draws prog w A i2 f2 n P2 T2)
    (hz : IsZs s.heap z TI TO .none) (hI : IsTupOf2 s.heap TI (.ref i1) (.ref i2)) (hO : IsTupOf2 s.heap TO u1 u2) (t1 : T1 i s.heap) (t2 : T2 i s.heap) (hi : i < n)
    (hQ : ∀ x y h' tk, P1 i x → P2 i y → IsZs h' z TI TO (rawInt s.heap.objs.size) → IsTupOf2 h' TO x y → T1 (i + 1) h' → T2 (i + 1) h' → IsTupOf2 h' s.heap.objs.size x y → h'.objs.size = s.heap.objs.size + 1 →
      (∀ b o, b ≠ z → b ≠ TO → b ≠ i1 → b ≠ i2 → s.heap.get? b = some o → h'.get? b = some o) → Q (.ref s.heap.objs.size) { s with heap := h', toks := tk }) :
    wpAny (model prog w) A (Builtin.«zip.__next__» ⟨[.ref z], []⟩) (fun r s' => ∃ v, r = .done (.ret v) ∧ Q v s') E s := by
  obtain ⟨hp, gs, dr, tk0, os⟩ := s
  show wpAny _ _ (field (.ref z) 2 >>= _) _ _ _
  refine wpAny_bind (wpAny_field hz rfl (x := .bool true) rfl ?_)
  show wpAny _ _ (field (.ref z) 3 >>= _) _ _ _
  refine wpAny_bind (wpAny_field hz rfl (x := .ref TI) rfl (wpAny_bind (wpAny_seqItems hI rfl ?_)))
  show wpAny _ _ (Builtin.SmallTypes.ownedTupleIsFree (.ref z) >>= _) _ _ _
  refine wpAny_bind ?_
  unfold Builtin.SmallTypes.ownedTupleIsFree
  refine wpAny_bind (wpAny_field hz rfl (x := .none) rfl (wpAny_pure ?_))
  simp only [if_true]
  refine wpAny_bind (wpAny_rule (wpAny_bind (wpAny_field hz rfl (x := .ref TO) rfl (wpAny_bind (wpAny_setField_rec hz (by simp) fun k0 z0 b0 => ?_)))))
  replace z0 : IsZs k0 z TI TO .ellipsis := z0
  replace b0 : Heap.SameBut z hp k0 := b0
  refine wpAny_bind ?_
  simp only [List.zipIdx_cons, List.zipIdx_nil, List.forIn_cons, List.forIn_nil]
  refine wpAny_bind (wpAny_bind (wpAny_onRaise ?_))
  show wpAny _ _ (Builtin.SmallTypes.nextOrEnd (.ref i1)) _ _ ⟨k0, gs, dr, tk0, os⟩
  refine noe_item D1 (D1.over t1 b0 S.zf1) hi fun x1 p1 tk1 hx1 m1 c1 => ?_
  replace c1 : Heap.SameBut i1 k0 p1 := c1
  have o1 : IsTupOf2 p1 TO u1 u2 := c1.extBut _ _ S.Ti1 (b0.extBut _ _ S.TOz hO)
  refine wpAny_bind (wpAny_seqItems (s := ⟨p1, gs, dr, tk1, os⟩) o1 rfl (wpAny_bind (updateSeq_IsTupOf2 (s := ⟨p1, gs, dr, tk1, os⟩) o1 fun k1 y1 b1 => wpAny_bind (wpAny_letGo (wpAny_pure ?_)))))
  replace y1 : IsTupOf2 k1 TO x1 u2 := y1
  replace b1 : Heap.SameBut TO p1 k1 := b1
  refine wpAny_bind (wpAny_bind (wpAny_onRaise ?_))
  show wpAny _ _ (Builtin.SmallTypes.nextOrEnd (.ref i2)) _ _ ⟨k1, gs, dr, tk1, os⟩
  refine noe_item D2 (D2.over (D2.over (D2.over t2 b0 S.zf2) c1 S.sep1_2) b1 S.Tf2) hi fun x2 p2 tk2 hx2 m2 c2 => ?_
  replace c2 : Heap.SameBut i2 k1 p2 := c2
  have o2 : IsTupOf2 p2 TO x1 u2 := c2.extBut _ _ S.Ti2 y1
  refine wpAny_bind (wpAny_seqItems (s := ⟨p2, gs, dr, tk2, os⟩) o2 rfl (wpAny_bind (updateSeq_IsTupOf2 (s := ⟨p2, gs, dr, tk2, os⟩) o2 fun k2 y2 b2 => wpAny_bind (wpAny_letGo (wpAny_pure (wpAny_pure ?_))))))
  replace y2 : IsTupOf2 k2 TO x1 x2 := y2
  replace b2 : Heap.SameBut TO p2 k2 := b2
  refine wpAny_bind (wpAny_seqItems (s := ⟨k2, gs, dr, tk2, os⟩) y2 rfl (wpAny_bind (wpAny_newTuple ?_)))
  have sz : k2.objs.size = hp.objs.size := by rw [b2.1, c2.1, b1.1, c1.1, b0.1]
  have zz : IsZs k2 z TI TO .ellipsis := b2.extBut _ _ S.TOz.symm (c2.extBut _ _ S.zi2 (b1.extBut _ _ S.TOz.symm (c1.extBut _ _ S.zi1 z0)))
  have kk : ∀ b o, b ≠ z → b ≠ TO → b ≠ i1 → b ≠ i2 → hp.get? b = some o → k2.get? b = some o := fun b o q1 q2 q3 q4 e => b2.extBut _ _ q2 (c2.extBut _ _ q4 (b1.extBut _ _ q2 (c1.extBut _ _ q3 (b0.extBut _ _ q1 e))))
  have j1 : T1 (i + 1) k2 := D1.over (D1.over (D1.over m1 b1 S.Tf1) c2 S.sep2_1) b2 S.Tf1
  have j2 : T2 (i + 1) k2 := D2.over m2 b2 S.Tf2
  have zl : z < k2.objs.size := Heap.lt_size zz
  show wpAny _ _ (Builtin.SmallTypes.ownedTupleHandOut (.ref z) (.ref k2.objs.size) >>= _) _ _ ⟨k2.push { cls := .type "tuple", data := .seq #[x1, x2] }, gs, dr, tk2, os⟩
  refine wpAny_bind ?_
  unfold Builtin.SmallTypes.ownedTupleHandOut
  have z6 : IsZs (k2.push { cls := .type "tuple", data := .seq #[x1, x2] }) z TI TO .ellipsis := Heap.get?_push_of_some _ zz
  refine wpAny_bind (wpAny_setField_rec z6 (by simp) fun k7 z7 b7 => ?_)
  replace z7 : IsZs k7 z TI TO (rawInt k2.objs.size) := z7
  refine wpAny_setField_rec z7 (by simp) fun k8 z8 b8 => ?_
  replace z8 : IsZs k8 z TI TO (rawInt k2.objs.size) := z8
  replace b7 : Heap.SameBut z (k2.push { cls := .type "tuple", data := .seq #[x1, x2] }) k7 := b7
  replace b8 : Heap.SameBut z k7 k8 := b8
  have up : ∀ b o, b ≠ z → k2.get? b = some o → k8.get? b = some o := fun b o q e => b8.extBut _ _ q (b7.extBut _ _ q (Heap.get?_push_of_some _ e))
  have p8 : IsTupOf2 k8 k2.objs.size x1 x2 := b8.extBut _ _ (Nat.ne_of_gt zl) (b7.extBut _ _ (Nat.ne_of_gt zl) (Heap.get?_push_size _ rfl))
  have s8 : k8.objs.size = k2.objs.size + 1 := by rw [b8.1, b7.1, Heap.size_push]
  rw [sz] at z8 p8 s8
  refine wpAny_pure ⟨_, rfl, ?_⟩
  show Q (.ref k2.objs.size) ⟨k8, gs, dr, tk2, os⟩
  rw [sz]
  exact hQ x1 x2 k8 tk2 hx1 hx2 z8 (up _ _ S.TOz y2) (D1.frame _ _ _ j1 fun b hb o e => up b o (fun q => S.zf1 (q ▸ hb)) e) (D2.frame _ _ _ j2 fun b hb o e => up b o (fun q => S.zf2 (q ▸ hb)) e) p8 s8 fun b o q1 q2 q3 q4 e => up b o q1 (kk b o q1 q2 q3 q4 e)
theorem zs_end {Q : PySem.Fin → Shared → Prop} (hh : A.handled = none) (S : ZipSep2 z TI TO i1 i2 f1 f2) (D1 : Draws prog w A i1 f1 n P1 T1) (D2 : Draws prog w A i2 f2 n P2 T2)
    (hz : IsZs s.heap z TI TO .none) (hI : IsTupOf2 s.heap TI (.ref i1) (.ref i2)) (hO : IsTupOf2 s.heap TO u1 u2) (t1 : T1 n s.heap) (t2 : T2 n s.heap)
    (hE : ∀ h' e, (∀ b o, b ≠ z → b ≠ TO → b ≠ i1 → b ≠ i2 → s.heap.get? b = some o → h'.get? b = some o) → (∃ o, h'.get? e = some o ∧ o.cls = .type "StopIteration") → E (.ref e) { s with heap := h' }) :
    wpAny (model prog w) A (Builtin.«zip.__next__» ⟨[.ref z], []⟩) Q E s := by
  obtain ⟨hp, gs, dr, tk0, os⟩ := s
  show wpAny _ _ (field (.ref z) 2 >>= _) _ _ _
  refine wpAny_bind (wpAny_field hz rfl (x := .bool true) rfl ?_)
  show wpAny _ _ (field (.ref z) 3 >>= _) _ _ _
  refine wpAny_bind (wpAny_field hz rfl (x := .ref TI) rfl (wpAny_bind (wpAny_seqItems hI rfl ?_)))
  show wpAny _ _ (Builtin.SmallTypes.ownedTupleIsFree (.ref z) >>= _) _ _ _
  refine wpAny_bind ?_
  unfold Builtin.SmallTypes.ownedTupleIsFree
  refine wpAny_bind (wpAny_field hz rfl (x := .none) rfl (wpAny_pure ?_))
  simp only [if_true]
  refine wpAny_bind (wpAny_rule (wpAny_bind (wpAny_field hz rfl (x := .ref TO) rfl (wpAny_bind (wpAny_setField_rec hz (by simp) fun k0 z0 b0 => ?_)))))
  replace z0 : IsZs k0 z TI TO .ellipsis := z0
  replace b0 : Heap.SameBut z hp k0 := b0
  refine wpAny_bind ?_
  simp only [List.zipIdx_cons, List.zipIdx_nil, List.forIn_cons, List.forIn_nil]
  refine wpAny_bind (wpAny_bind (wpAny_onRaise ?_))
  show wpAny _ _ (Builtin.SmallTypes.nextOrEnd (.ref i1)) _ _ ⟨k0, gs, dr, tk0, os⟩
  refine noe_end D1 (D1.over t1 b0 S.zf1) fun p1 c1 => ?_
  replace c1 : Heap.ExtBut i1 k0 p1 := c1
  have z1 : IsZs p1 z TI TO .ellipsis := c1 _ _ S.zi1 z0
  refine wpAny_bind (wpAny_setField_rec (s := ⟨p1, gs, dr, tk0, os⟩) z1 (by simp) fun k2 z2 b2 => ?_)
  replace b2 : Heap.SameBut z p1 k2 := b2
  have t2' : T2 n k2 := D2.over (D2.frame _ _ _ (D2.over t2 b0 S.zf2) fun b hb o e => c1 b o (fun q => S.sep1_2 (q ▸ hb)) e) b2 S.zf2
  refine wpAny_bind ?_
  show wpAny _ _ (forIn (List.zipIdx (List.drop 1 [Value.ref i1, Value.ref i2]) 1) PUnit.unit _ >>= _) _ _ ⟨k2, gs, dr, tk0, os⟩
  refine wpAny_bind ?_
  simp only [List.drop_succ_cons, List.drop_zero, List.zipIdx_cons, List.zipIdx_nil, List.forIn_cons, List.forIn_nil]
  refine wpAny_bind (wpAny_bind (noe_end D2 t2' fun p3 c3 => ?_))
  replace c3 : Heap.ExtBut i2 k2 p3 := c3
  simp only [Option.isSome_none, Bool.false_eq_true, if_false]
  refine wpAny_pure (wpAny_pure (wpAny_bind (wpAny_rule ?_)))
  have kk : ∀ b o, b ≠ z → b ≠ TO → b ≠ i1 → b ≠ i2 → hp.get? b = some o → p3.get? b = some o := fun b o q1 q2 q3 q4 e => c3 _ _ q4 (b2.extBut _ _ q1 (c1 _ _ q3 (b0.extBut _ _ q1 e)))
  unfold Builtin.SmallTypes.stopIteration
  refine wpAny_bind ?_
  simp only [newExc, newTuple]
  refine wpAny_bind (wpAny_newObj_type ?_ (by size_fits))
  refine wpAny_bind (m := firstArgMember _ _) (wpAny_of_eq (a := Value.none) (by first | rfl | (simp only [firstArgMember]; rfl)) (wpAny_newObj_type ?_ (by size_fits)))
  simp only [raiseNew]
  refine wpAny_bind (wpAny_handled ?_)
  rw [show A.handled = none from hh]
  refine wpAny_bind (wpAny_pure (wpAny_throw ?_))
  exact hE _ _ (fun b o q1 q2 q3 q4 e => Heap.get?_push_of_some _ (Heap.get?_push_of_some _ (kk b o q1 q2 q3 q4 e))) ⟨_, Heap.get?_push_size _ rfl, rfl⟩
theorem zs_pyItem {Q : Option Value → Shared → Prop} (S : ZipSep2 z TI TO i1 i2 f1 f2) (D1 : Draws prog w A.in1 i1 f1 n P1 T1) (D2 : Draws prog w A.in1 i2 f2 n P2 T2)
    (hz : IsZs s.heap z TI TO .none) (hI : IsTupOf2 s.heap TI (.ref i1) (.ref i2)) (hO : IsTupOf2 s.heap TO u1 u2) (t1 : T1 i s.heap) (t2 : T2 i s.heap) (hi : i < n)
    (hQ : ∀ x y h' tk, P1 i x → P2 i y → IsZs h' z TI TO (rawInt s.heap.objs.size) → IsTupOf2 h' TO x y → T1 (i + 1) h' → T2 (i + 1) h' → IsTupOf2 h' s.heap.objs.size x y → h'.objs.size = s.heap.objs.size + 1 →
      (∀ b o, b ≠ z → b ≠ TO → b ≠ i1 → b ≠ i2 → s.heap.get? b = some o → h'.get? b = some o) → Q (some (.ref s.heap.objs.size)) { s with heap := h', toks := tk }) : wpAny (model prog w) A (pyNext (.ref z)) Q E s := by
  have ty : s.TypeIs (.ref z) "zip" := ⟨_, hz, rfl⟩
  unfold pyNext
  refine wpAny_bind (wpAny_attempt (wpAny_callSpecial?_slot (name := Str.ofString "__next__") ty F.slot_zip_next (wpAny_call_entry F.slot_zip_next ty F.entry_zip_next ?_ (F.args_zip_next_1 _))))
  exact zs_item S D1 D2 hz hI hO t1 t2 hi fun x y h' tk a1 a2 a3 a4 a5 a6 a7 a8 a9 => wpAny_pure (hQ x y h' tk a1 a2 a3 a4 a5 a6 a7 a8 a9)
theorem zs_pyEnd {Q : Option Value → Shared → Prop} (hh : A.handled = none) (S : ZipSep2 z TI TO i1 i2 f1 f2) (D1 : Draws prog w A.in1 i1 f1 n P1 T1) (D2 : Draws prog w A.in1 i2 f2 n P2 T2)
    (hz : IsZs s.heap z TI TO .none) (hI : IsTupOf2 s.heap TI (.ref i1) (.ref i2)) (hO : IsTupOf2 s.heap TO u1 u2) (t1 : T1 n s.heap) (t2 : T2 n s.heap)
    (hQ : ∀ h', (∀ b o, b ≠ z → b ≠ TO → b ≠ i1 → b ≠ i2 → s.heap.get? b = some o → h'.get? b = some o) → Q none { s with heap := h' }) : wpAny (model prog w) A (pyNext (.ref z)) Q E s := by
  have ty : s.TypeIs (.ref z) "zip" := ⟨_, hz, rfl⟩
  unfold pyNext
  refine wpAny_bind (wpAny_attempt (wpAny_callSpecial?_slot (name := Str.ofString "__next__") ty F.slot_zip_next (wpAny_call_entry F.slot_zip_next ty F.entry_zip_next ?_ (F.args_zip_next_1 _))))
  refine zs_end (A := A.in1) hh S D1 D2 hz hI hO t1 t2 fun h' e hk ⟨o, ho, hc⟩ => ?_
  exact wpAny_bind (wpAny_isInstance (T := "StopIteration") (b := true) ⟨o, ho, hc⟩ isSubtype_stop (wpAny_pure (hQ _ hk)))
theorem zs_letGo {elts : List Expr} {k : Nat} {pos : Pos} {T : Addr} {Q : Unit → Shared → Prop} (hz : IsZs s.heap z TI TO (rawInt T)) (hQ : ∀ h', IsZs h' z TI TO .none → Heap.SameBut z s.heap h' → Q () { s with heap := h' }) :
    wpAny (model prog w) A (letOwnedTupleGo (.Tuple elts k pos) (.ref z) (.ref T)) Q E s := by
  unfold letOwnedTupleGo
  refine wpAny_bind (wpAny_load hz ?_)
  show wpAny _ _ (if (["enumerate", "zip", "dict_itemiterator", "dict_reverseitemiterator", "odict_iterator", "itertools.zip_longest", "itertools.pairwise"].contains "zip" && (#[rawInt T, .bool false, .bool true, .ref TI, .ref TO] : Array Value)[0]? == some (rawInt T)) = true then _ else _) Q E s
  rw [if_pos (by simp)]
  refine wpAny_bind (wpAny_rule ?_)
  exact (show wpAny _ _ (setField (.ref z) 0 .none) Q E s from wpAny_setField_rec hz (by simp) fun h' z' b' => hQ h' z' b')
theorem zs_iter {m : Value} {Q : Value → Shared → Prop} (hz : IsZs s.heap z TI TO m) (h : Q (.ref z) s) : wpAny (model prog w) A (pyIter (.ref z)) Q E s := by
  have ty : s.TypeIs (.ref z) "zip" := ⟨_, hz, rfl⟩
  refine wpAny_pyIter_slot ty F.slot_zip_iter (wpAny_call_entry F.slot_zip_iter ty F.entry_zip_iter ?_ (F.args_zip_iter_1 _))
  exact (show wpAny _ _ (ret (.ref z)) _ _ s from wpAny_pure ⟨_, rfl, "zip", _, ty, F.slot_zip_next.lookup, h⟩)
end
abbrev kwS : List (Str × Value) := [(Str.ofString "strict", .bool true)]
theorem zs_tcall (a b : Value) : checkTypeCall "zip" ⟨[a, b], kwS⟩ = pure () := by kernel_rfl
theorem zs_ncall (a b : Value) : checkBuiltinCall "zip.__new__" ⟨[.type "zip", a, b], kwS⟩ = pure () := by kernel_rfl
theorem zs_icall (a b c : Value) : argsOk "object.__init__" ⟨[a, b, c], kwS⟩ := by
  unfold argsOk
  kernel_rfl
abbrev zsZ (h : Heap) (o1 o2 : Obj) : Heap := (gzO2 h o1 o2).push { cls := .type "zip", data := .fields #[.none, .bool false, .bool true, .ref ((h.push o1).push o2).objs.size, .ref (gzT2 h o1 o2).objs.size] }
theorem zs_new {v1 v2 : Value} {o1 o2 : Obj} {H1 H2 : Heap → Prop} (B1 : Begins v1 o1 H1) (B2 : Begins v2 o2 H2) :
    Meets (Builtin.«zip.__new__» ⟨[.type "zip", v1, v2], kwS⟩) (fun _ R s => (H1 s.heap ∧ H2 s.heap) ∧ R (.ok (.ret (.ref (gzO2 s.heap o1 o2).objs.size))) { s with heap := zsZ s.heap o1 o2 }) :=
  .of_wp fun prog w A R s h => by
    obtain ⟨hp, g, d, tk, os⟩ := s
    obtain ⟨⟨h1, h2⟩, h⟩ := h
    have hsub := sub_zip
    have q1 : ∀ {A' : Around} {E : Value → Shared → Prop} {Q : Value → Shared → Prop}, Q (.ref hp.objs.size) ⟨hp.push o1, g, d, tk, os⟩ → wpAny (model prog w) A' (pyIter v1) Q E ⟨hp, g, d, tk, os⟩ := fun q => B1.iter prog w _ _ _ _ h1 q
    have q2 : ∀ {A' : Around} {E : Value → Shared → Prop} {Q : Value → Shared → Prop}, Q (.ref (hp.push o1).objs.size) ⟨(hp.push o1).push o2, g, d, tk, os⟩ → wpAny (model prog w) A' (pyIter v2) Q E ⟨hp.push o1, g, d, tk, os⟩ :=
      fun q => B2.iter prog w _ _ ⟨hp.push o1, g, d, tk, os⟩ _ (B2.keeps _ _ h2 fun b o' e => Heap.get?_push_of_some _ e) q
    wp_walk using q1, q2
    exact ⟨_, rfl, h⟩
end Rk

namespace Rk
open PySem PySem.Spec PyProof.Rows L2
open Sem (wp)

/-! ### zip of a text and a list or a tuple of that length, strict or not -/
def IsZb (st : Bool) (h : Heap) (z TI TO : Addr) (m : Value) : Prop := h.get? z = some { cls := .type "zip", dict := none, data := .fields #[m, .bool false, .bool st, .ref TI, .ref TO], slots := #[] }
def It2 (l : Bool) (h : Heap) (it b : Addr) (i : Nat) : Prop := if l then h.IsListIter it b i else h.IsTupleIter it b i
def IsS (l : Bool) (h : Heap) (b : Addr) (items : Array Value) : Prop := if l then h.IsList b items else h.IsTuple b items
def Sq2 (l : Bool) (K : PySem.W.Frag) (H : Hp) (b : Addr) (ys : List V) : Prop := if l then SqL K H b ys else SqT K H b ys
theorem It2.at {l : Bool} {h h' : Heap} {it b : Addr} {i : Nat} (x : It2 l h it b i) (k : ∀ o, h.get? it = some o → h'.get? it = some o) : It2 l h' it b i := by
  cases l
  · exact (show h.IsTupleIter it b i from x).at k
  · exact (show h.IsListIter it b i from x).at k
theorem It2.obj {l : Bool} {h : Heap} {it b : Addr} {i : Nat} (x : It2 l h it b i) : ∃ o, h.get? it = some o ∧ ∀ v, o.data ≠ .cell v := by
  cases l
  · obtain ⟨o, e, _, d⟩ := (show h.IsTupleIter it b i from x)
    exact ⟨o, e, fun v q => by rw [d] at q; cases q⟩
  · obtain ⟨o, e, _, d⟩ := (show h.IsListIter it b i from x)
    exact ⟨o, e, fun v q => by rw [d] at q; cases q⟩
theorem draws2 {prog : Program} {w : World} {A : Around} (l : Bool) (hh : A.handled = none) (it b : Addr) (hne : b ≠ it) (items : Array Value) :
    Draws prog w A it [it, b] items.size (fun i v => items[i]? = some v) (fun i h => It2 l h it b i ∧ IsS l h b items) := by
  cases l
  · exact Draws.tuple hh it b hne items
  · exact Draws.list hh it b hne items
section
variable {prog : Program} {w : World} {A : Around} {E : Value → Shared → Prop} {s : Shared} {z TI TO i1 i2 : Addr} {f1 f2 : List Addr} {n i : Nat} {P1 P2 : Nat → Value → Prop} {T1 T2 : Nat → Heap → Prop} {u1 u2 : Value} {st : Bool}
theorem zb_item {Q : Option Value → Shared → Prop} (S : ZipSep2 z TI TO i1 i2 f1 f2) (D1 : Draws prog w A.in1 i1 f1 n P1 T1) (D2 : Draws prog w A.in1 i2 f2 n P2 T2)
    (hz : IsZb st s.heap z TI TO .none) (hI : IsTupOf2 s.heap TI (.ref i1) (.ref i2)) (hO : IsTupOf2 s.heap TO u1 u2) (t1 : T1 i s.heap) (t2 : T2 i s.heap) (hi : i < n)
    (hQ : ∀ x y h' tk, P1 i x → P2 i y → IsZb st h' z TI TO (rawInt s.heap.objs.size) → IsTupOf2 h' TO x y → T1 (i + 1) h' → T2 (i + 1) h' → IsTupOf2 h' s.heap.objs.size x y →
      (∀ b o, b ≠ z → b ≠ TO → b ≠ i1 → b ≠ i2 → s.heap.get? b = some o → h'.get? b = some o) → Q (some (.ref s.heap.objs.size)) { s with heap := h', toks := tk }) : wpAny (model prog w) A (pyNext (.ref z)) Q E s := by
  cases st
  · exact wpAny_pyNext_zipD2_item S D1 D2 hz hI hO t1 t2 hi hi fun x y h' tk a1 a2 a3 a4 a5 a6 a7 a8 a9 => hQ x y h' tk a1 a2 a3 a4 a5 a6 a7 a9
  · exact zs_pyItem S D1 D2 hz hI hO t1 t2 hi fun x y h' tk a1 a2 a3 a4 a5 a6 a7 a8 a9 => hQ x y h' tk a1 a2 a3 a4 a5 a6 a7 a9
theorem zb_end {Q : Option Value → Shared → Prop} (hh : A.handled = none) (S : ZipSep2 z TI TO i1 i2 f1 f2) (D1 : Draws prog w A.in1 i1 f1 n P1 T1) (D2 : Draws prog w A.in1 i2 f2 n P2 T2)
    (hz : IsZb st s.heap z TI TO .none) (hI : IsTupOf2 s.heap TI (.ref i1) (.ref i2)) (hO : IsTupOf2 s.heap TO u1 u2) (t1 : T1 n s.heap) (t2 : T2 n s.heap)
    (hQ : ∀ h' tk, (∀ b o, b ≠ z → b ≠ TO → b ≠ i1 → b ≠ i2 → s.heap.get? b = some o → h'.get? b = some o) → Q none { s with heap := h', toks := tk }) : wpAny (model prog w) A (pyNext (.ref z)) Q E s := by
  cases st
  · exact wpAny_pyNext_zipD2_end S D1 D2 hz hI hO t1 t2 (Nat.le_refl _) (Nat.le_refl _) (.inl rfl) fun h' tk k => hQ h' tk k
  · exact zs_pyEnd hh S D1 D2 hz hI hO t1 t2 fun h' k => hQ h' s.toks k
theorem zb_letGo {elts : List Expr} {k : Nat} {pos : Pos} {T : Addr} {Q : Unit → Shared → Prop} (hz : IsZb st s.heap z TI TO (rawInt T)) (hQ : ∀ h', IsZb st h' z TI TO .none → Heap.SameBut z s.heap h' → Q () { s with heap := h' }) :
    wpAny (model prog w) A (letOwnedTupleGo (.Tuple elts k pos) (.ref z) (.ref T)) Q E s := by
  cases st
  · exact wpAny_letOwnedTupleGo_zip hz hQ
  · exact zs_letGo hz hQ
theorem zb_iter {m : Value} {Q : Value → Shared → Prop} (hz : IsZb st s.heap z TI TO m) (h : Q (.ref z) s) : wpAny (model prog w) A (pyIter (.ref z)) Q E s := by
  cases st
  · exact wpAny_pyIter_zip hz h
  · exact zs_iter hz h
/-- the keywords -/
def kwZ (st : Bool) : List (Str × Value) := if st then kwS else []
theorem zb_call {v1 v2 : Value} {o1 o2 : Obj} {H1 H2 : Heap → Prop} {Q : Value → Shared → Prop} (B1 : Begins v1 o1 H1) (B2 : Begins v2 o2 H2) (h1 : H1 s.heap) (h2 : H2 s.heap)
    (h : ∀ h', IsZb st h' (s.heap.objs.size + 4) (s.heap.objs.size + 2) (s.heap.objs.size + 3) .none → IsTupOf2 h' (s.heap.objs.size + 2) (.ref s.heap.objs.size) (.ref (s.heap.objs.size + 1)) →
      IsTupOf2 h' (s.heap.objs.size + 3) .none .none → h'.get? s.heap.objs.size = some o1 → h'.get? (s.heap.objs.size + 1) = some o2 → (∀ b o, s.heap.get? b = some o → h'.get? b = some o) → Q (.ref (s.heap.objs.size + 4)) { s with heap := h' }) :
    wpAny (model prog w) A (call (.type "zip") [v1, v2] (kwZ st)) Q E s := by
  cases st
  · exact zip_begins2 B1 B2 h1 h2 fun h' a1 a2 a3 a4 a5 a6 a7 => h h' a1 a2 a3 a4 a5 a7
  · refine callType_newKw (kw := kwS) F.called_zip (by decide) (zs_tcall _ _) (zs_ncall _ _) (fun obj => zs_icall obj _ _) F.entry_zip_new (zs_new B1 B2) ⟨⟨h1, h2⟩, ?_⟩
    have n1 : (s.heap.push o1).objs.size = s.heap.objs.size + 1 := by rw [Heap.size_push]
    have n2 : ((s.heap.push o1).push o2).objs.size = s.heap.objs.size + 2 := by rw [Heap.size_push, n1]
    have n3 : (gzT2 s.heap o1 o2).objs.size = s.heap.objs.size + 3 := by rw [Heap.size_push, n2]
    have n4 : (gzO2 s.heap o1 o2).objs.size = s.heap.objs.size + 4 := by rw [Heap.size_push, n3]
    have g4 : (zsZ s.heap o1 o2).get? (gzO2 s.heap o1 o2).objs.size = some { cls := .type "zip", data := .fields #[.none, .bool false, .bool true, .ref ((s.heap.push o1).push o2).objs.size, .ref (gzT2 s.heap o1 o2).objs.size] } := Heap.get?_push_size _ rfl
    have g3 : (zsZ s.heap o1 o2).get? (gzT2 s.heap o1 o2).objs.size = some { cls := .type "tuple", data := .seq #[.none, .none] } := Heap.get?_push_of_some _ (Heap.get?_push_size _ rfl)
    have g2 : (zsZ s.heap o1 o2).get? ((s.heap.push o1).push o2).objs.size = some { cls := .type "tuple", data := .seq #[.ref s.heap.objs.size, .ref (s.heap.push o1).objs.size] } := Heap.get?_push_of_some _ (Heap.get?_push_of_some _ (Heap.get?_push_size _ rfl))
    have g0 : (zsZ s.heap o1 o2).get? s.heap.objs.size = some o1 := Heap.get?_push_of_some _ (Heap.get?_push_of_some _ (Heap.get?_push_of_some _ (Heap.get?_push_of_some _ (Heap.get?_push_size _ B1.free))))
    have g1 : (zsZ s.heap o1 o2).get? (s.heap.push o1).objs.size = some o2 := Heap.get?_push_of_some _ (Heap.get?_push_of_some _ (Heap.get?_push_of_some _ (Heap.get?_push_size _ B2.free)))
    rw [n4, n3, n2] at g4
    rw [n3] at g3
    rw [n2, n1] at g2
    rw [n1] at g1
    show _ ∧ _
    rw [n4]
    exact ⟨⟨_, g4, rfl⟩, h _ g4 g2 g3 g0 g1 fun b o e => Heap.get?_push_of_some _ (Heap.get?_push_of_some _ (Heap.get?_push_of_some _ (Heap.get?_push_of_some _ (Heap.get?_push_of_some _ e))))⟩
end
/-- the pairs of a text's signs and the things at b, each in a new tuple -/
def Itzb (l : Bool) (K : PySem.W.Frag) (x : Str) (b : Addr) : It :=
  ⟨fun i H => ∃ ys : List V, Sq2 l K H b ys ∧ ys.length = x.cps.size ∧ i < x.cps.size,
    fun i H v H' => ∃ T c y, v = .ref T ∧ H T = none ∧ H' = upd H T (.tup [.str ⟨#[c]⟩, y]) ∧ x.cps[i]? = some c ∧ ∀ ys, Sq2 l K H b ys → ys[i]? = some y,
    fun i H => ∃ ys : List V, Sq2 l K H b ys ∧ ys.length = x.cps.size ∧ x.cps.size ≤ i⟩
theorem Inv.seq2 {X : Cx} {pins : List (Addr × Obj)} {σ : L2.St} {H : Hp} {s : Shared} {l : Bool} {b : Addr} {ys : List V} (I : L2.Inv X pins σ H s) (h : Sq2 l X.K H b ys) : ∃ its : List Value, Vals ys its ∧ IsS l s.heap b its.toArray ∧ b < s.heap.objs.size := by
  cases l
  · obtain ⟨its, r, p, _⟩ := I.tuple (show SqT X.K H b ys from h)
    obtain ⟨o, e, _⟩ := id p
    exact ⟨its, r, p, Heap.lt_size e⟩
  · obtain ⟨its, r, p, _⟩ := I.list (show SqL X.K H b ys from h)
    exact ⟨its, r, isList_of p, p.lt⟩
theorem Inv.seq2_inj {X : Cx} {pins : List (Addr × Obj)} {σ : L2.St} {H : Hp} {s : Shared} {l : Bool} {b : Addr} {xs ys : List V} (I : L2.Inv X pins σ H s) (h : Sq2 l X.K H b xs) (h' : Sq2 l X.K H b ys) : xs = ys := by
  cases l
  · exact I.tuple_inj (show SqT X.K H b xs from h) h'
  · exact I.list_inj (show SqL X.K H b xs from h) h'
theorem turn_zb {P : Program} {w : World} {K : PySem.W.Frag} {elts : List Expr} {kk : Nat} {tpos : Pos} {l st : Bool} {x : Str} {t : Tok} {b z TI TO i1 i2 : Addr} (S : ZipSep2 z TI TO i1 i2 [i1] [i2, b]) (hb : b ≠ i2) :
    Turn P w K (.Tuple elts kk tpos) (Itzb l K x b) [z, TI, TO, i1, i2] z (fun i h => i ≤ x.cps.size ∧ IsZb st h z TI TO .none ∧ IsTupOf2 h TI (.ref i1) (.ref i2) ∧ (∃ u v, IsTupOf2 h TO u v) ∧ h.IsStrIter i1 (strIterType x) x t i ∧ It2 l h i2 b i) where
  mem := by simp
  obj := fun i h ⟨_, hz, hI, ⟨u, v, hO⟩, ⟨o1, e1, _, d1⟩, q2⟩ c hc => by
    have e' : c = z ∨ c = TI ∨ c = TO ∨ c = i1 ∨ c = i2 := by simpa using hc
    rcases e' with rfl | rfl | rfl | rfl | rfl
    · exact ⟨_, hz, fun v q => nomatch q⟩
    · exact ⟨_, hI, fun v q => nomatch q⟩
    · exact ⟨_, hO, fun v q => nomatch q⟩
    · exact ⟨o1, e1, fun v q => by rw [d1] at q; cases q⟩
    · exact q2.obj
  keep := fun i h h' ⟨hl, hz, hI, ⟨u, v, hO⟩, ⟨o1, e1, r1⟩, q2⟩ k => ⟨hl, k z (by simp) _ hz, k TI (by simp) _ hI, ⟨u, v, k TO (by simp) _ hO⟩, ⟨o1, k i1 (by simp) _ e1, r1⟩, q2.at fun o q => k i2 (by simp) o q⟩
  item := by
    intro X hP hw hK hc i pins s σ H E I hf ⟨hl, hz, hI, ⟨u, v, hO⟩, q1, q2⟩ ⟨ys, hs, hn, hi⟩
    subst hP hw hK
    obtain ⟨its, rv, pS, _⟩ := Inv.seq2 I hs
    have hsz : its.toArray.size = x.cps.size := by rw [List.size_toArray, ← rv.length, hn]
    have D1 := Draws.text (prog := X.prog) (w := X.w) (A := X.A.in1) (I.ok.hd hc) i1 x t
    have D2 := draws2 (prog := X.prog) (w := X.w) (A := X.A.in1) l (I.ok.hd hc) i2 b hb its.toArray
    rw [hsz] at D2
    have zl : z < s.heap.objs.size := Heap.lt_size hz
    refine zb_item S D1 D2 hz hI hO q1 ⟨q2, pS⟩ hi fun a y h' tk ha hy hz' hO' q1' q2' hT hk => ?_
    obtain ⟨c, ut, hcx, rfl⟩ := ha
    obtain ⟨y', hy1, hy2⟩ : ∃ y', ys[i]? = some y' ∧ RelV y' y := by
      have hlt : i < ys.length := by rw [hn]; exact hi
      obtain ⟨u', hu1, hu2⟩ := rv.get (List.getElem?_eq_getElem hlt)
      refine ⟨ys[i], List.getElem?_eq_getElem hlt, ?_⟩
      have : some u' = some y := by rw [← hu1, ← hy]; simp
      cases this
      exact hu2
    refine ⟨_, rfl, zb_letGo (s := { s with heap := h', toks := tk }) hz' fun h2 z2 sb => ?_⟩
    have hT2 : h2.get? s.heap.objs.size = some { cls := .type "tuple", data := .seq #[.str ⟨#[c]⟩ ut, y] } := (sb.2 _ (Nat.ne_of_gt zl)).trans hT
    have new : ObjOk X.prog X.w (upd H s.heap.objs.size (.tup [.str ⟨#[c]⟩, y'])) h2 s.heap.objs.size (.tup [.str ⟨#[c]⟩, y']) :=
      ⟨by show 2 ≤ sizeLine; decide, [.str ⟨#[c]⟩ ut, y], .cons ⟨ut, rfl⟩ (.cons hy2 .nil), ⟨_, hT2, rfl, _, rfl⟩⟩
    have I1 : L2.Inv X pins σ (upd H s.heap.objs.size (.tup [.str ⟨#[c]⟩, y'])) { s with heap := h2, toks := tk } :=
      I.turnedNew (t' := tk) (ch := [z, TI, TO, i1, i2]) (fun a o ha q => by
        simp only [List.mem_cons, List.not_mem_nil, or_false, not_or] at ha
        exact (sb.2 a ha.1).trans (hk a o ha.1 ha.2.2.1 ha.2.2.2.1 ha.2.2.2.2 q)) hf (Nat.le_refl _) new
    refine ⟨.ref s.heap.objs.size, _, I1, rfl, ⟨_, c, y', rfl, I.hok.fresh (Nat.le_refl _), rfl, hcx, fun zs hzs => by rw [Inv.seq2_inj I hzs hs]; exact hy1⟩, ⟨hi, z2, ?_, ⟨.str ⟨#[c]⟩ ut, y, ?_⟩, ?_, ?_⟩, fun a ham => ?_⟩
    · exact (sb.2 _ S.TIz).trans (hk _ _ S.TIz S.TITO S.TIi1 S.TIi2 hI)
    · exact (sb.2 _ S.TOz).trans hO'
    · obtain ⟨o1, e1, r1⟩ := q1'
      exact ⟨o1, (sb.2 _ S.zi1.symm).trans e1, r1⟩
    · exact q2'.1.at fun o q => (sb.2 _ S.zi2.symm).trans q
    · have hlt : a < s.heap.objs.size := by
        have e' : a = z ∨ a = TI ∨ a = TO ∨ a = i1 ∨ a = i2 := by simpa using ham
        rcases e' with rfl | rfl | rfl | rfl | rfl
        · exact zl
        · exact Heap.lt_size hI
        · exact Heap.lt_size hO
        · obtain ⟨_, e1, _⟩ := q1; exact Heap.lt_size e1
        · obtain ⟨_, e2, _⟩ := q2.obj; exact Heap.lt_size e2
      rw [upd_ne (Nat.ne_of_lt hlt)]
      exact (hf a ham).1
  done := by
    intro X hP hw hK hc i pins s σ H E I hf ⟨hl, hz, hI, ⟨u, v, hO⟩, q1, q2⟩ ⟨ys, hs, hn, hi⟩
    subst hP hw hK
    obtain ⟨its, rv, pS, _⟩ := Inv.seq2 I hs
    have hsz : its.toArray.size = x.cps.size := by rw [List.size_toArray, ← rv.length, hn]
    have D1 := Draws.text (prog := X.prog) (w := X.w) (A := X.A.in1) (I.ok.hd hc) i1 x t
    have D2 := draws2 (prog := X.prog) (w := X.w) (A := X.A.in1) l (I.ok.hd hc) i2 b hb its.toArray
    rw [hsz] at D2
    obtain rfl : i = x.cps.size := Nat.le_antisymm hl hi
    refine zb_end (I.ok.hd hc) S D1 D2 hz hI hO q1 ⟨q2, pS⟩ fun h' tk hk => ⟨rfl, I.turnedL (t' := tk) (ch := [z, TI, TO, i1, i2]) (fun a o ha q => ?_) hf⟩
    simp only [List.mem_cons, List.not_mem_nil, or_false, not_or] at ha
    exact hk a o ha.1 ha.2.2.1 ha.2.2.2.1 ha.2.2.2.2 q
  self := fun A i s Q E st h => zb_iter st.2.1 h
end Rk

namespace Rk
open PySem PySem.Spec PyProof.Rows L2
open Sem (wp)
section
variable {M : Model} {A : Around} {E : Value → Shared → Prop} {s : Shared} {env : PySem.Env}
theorem cw_typeKw {pos : Pos} {T : String} {e : Expr} {rest : List Expr} {kws : List Keyword} {Q : Value → Shared → Prop}
    (h : wpAny M A (spliced (backTo pos (starEach (e :: rest) env))) (fun vs s1 => wpAny M A (evalAll ((backToKw pos (keywordEach kws env)).map (·.2))) (fun kvs s2 => wpAny M A (call (.type T) vs (((backToKw pos (keywordEach kws env)).filterMap (·.1)).zip kvs)) Q E s2) E s1) E s)
    (he : backTo pos (starEach (e :: rest) env) = (false, eval e env) :: backTo pos (starEach rest env) := by rfl) (hpl : (backTo pos (starEach (e :: rest) env)).any (·.1) = false := by rfl)
    (hall : (backToKw pos (keywordEach kws env)).all (·.1.isSome) = true := by rfl) (hno : (backToKw pos (keywordEach kws env)).any (·.1.isNone) = false := by rfl) :
    wpAny M A (callWith pos (.type T) [] (backTo pos (starEach (e :: rest) env)) (backToKw pos (keywordEach kws env))) Q E s := by
  unfold callWith
  refine wpAny_bind (wpAny_holding (wpAny_mono (Q := fun a s1 => wpAny M A (call (.type T) ([] ++ a.pos) a.kw) Q E s1) ?_ (fun a s1 h1 => wpAny_bind (wpAny_standAt ?_)) fun _ _ q => q))
  · rw [he] at h ⊢
    exact evalArgs_kwB hall h
  · simp only [hpl, hno, Bool.or_false]
    exact wpAny_bind (wpAny_pure (wpAny_bind (wpAny_mono h1 (fun r s2 hr => wpAny_bind (wpAny_holding (wpAny_point (wpAny_pure hr)))) fun _ _ q => q)))
end
theorem not1 {a b : Nat} (h : a ≠ b) : a ∉ [b] := fun z => h (List.mem_singleton.mp z)
theorem not2 {a b c : Nat} (h : a ≠ b) (h' : a ≠ c) : a ∉ [b, c] := fun z => by
  rcases List.mem_cons.mp z with z | z
  · exact h z
  · exact h' (List.mem_singleton.mp z)
theorem sep_new (n b : Nat) (h : b < n) : ZipSep2 (n + 4) (n + 2) (n + 3) n (n + 1) [n] [n + 1, b] :=
  ⟨show (n + 2 : Nat) ≠ n + 4 by omega, show (n + 3 : Nat) ≠ n + 4 by omega, show (n + 2 : Nat) ≠ n + 3 by omega, show (n + 2 : Nat) ≠ n by omega, List.mem_cons_self, not1 (show (n + 4 : Nat) ≠ n by omega), not1 (show (n + 3 : Nat) ≠ n by omega),
    show (n + 2 : Nat) ≠ n + 1 by omega, List.mem_cons_self, not2 (show (n + 4 : Nat) ≠ n + 1 by omega) (show (n + 4 : Nat) ≠ b by omega), not2 (show (n + 3 : Nat) ≠ n + 1 by omega) (show (n + 3 : Nat) ≠ b by omega), not2 (show (n : Nat) ≠ n + 1 by omega) (show (n : Nat) ≠ b by omega), not1 (show (n + 1 : Nat) ≠ n by omega)⟩
section
variable {Γ : Gm} {X : Cx} {pos p tpos : Pos} {e1 e2 : Expr} {elts : List Expr} {kk : Nat}
/-- zip(a text, a list or a tuple) has come -/
theorem zb_pie {l st : Bool} {pins : List (Addr × Obj)} {σ : L2.St} {H : Hp} {s : Shared} {R : It → Hp → Prop} {x : Str} {t : Tok} {b : Addr} {ys : List V} (I : L2.Inv X pins σ H s) (hs : Sq2 l X.K H b ys) (q : R (Itzb l X.K x b) H) :
    wpAny (model X.prog X.w) X.A (call (.type "zip") [.str x t, .ref b] (kwZ st)) (fun v s1 => wpAny (model X.prog X.w) X.A (pyIter v) (PIE X pins σ (.Tuple elts kk tpos) R) X.xe s1) X.xe s := by
  obtain ⟨its, rv, pS, lb⟩ := Inv.seq2 I hs
  have fresh : ∀ c, c ∈ [s.heap.objs.size + 4, s.heap.objs.size + 2, s.heap.objs.size + 3, s.heap.objs.size, s.heap.objs.size + 1] → FpOk X pins H c := fun c hc => by
    have hle : s.heap.objs.size ≤ c := by
      simp only [List.mem_cons, List.not_mem_nil, or_false] at hc
      rcases hc with rfl | rfl | rfl | rfl | rfl <;> first | exact Nat.le_add_right _ _ | exact Nat.le_refl _
    exact I.fpOk hle (I.hok.fresh hle)
  have go : ∀ (o2 : Obj) (B2 : Begins (.ref b) o2 fun h => IsS l h b its.toArray) (hq : ∀ h : Heap, h.get? (s.heap.objs.size + 1) = some o2 → It2 l h (s.heap.objs.size + 1) b 0),
      wpAny (model X.prog X.w) X.A (call (.type "zip") [.str x t, .ref b] (kwZ st)) (fun v s1 => wpAny (model X.prog X.w) X.A (pyIter v) (PIE X pins σ (.Tuple elts kk tpos) R) X.xe s1) X.xe s := fun o2 B2 hq =>
    zb_call (begins_text x t) B2 trivial pS fun h' hz hI hO g1 g2 hk => zb_iter hz <| by
      have I2 : L2.Inv X pins σ H { s with heap := h' } := I.kept (t' := s.toks) hk
      refine ⟨s.heap.objs.size + 4, [s.heap.objs.size + 4, s.heap.objs.size + 2, s.heap.objs.size + 3, s.heap.objs.size, s.heap.objs.size + 1], _, _, H, rfl, I2, turn_zb (l := l) (st := st) (x := x) (t := t) (b := b) (sep_new _ _ lb) (Nat.ne_of_lt (Nat.lt_succ_of_lt lb)), ⟨Nat.zero_le _, hz, hI, ⟨_, _, hO⟩, ⟨_, g1, rfl, rfl⟩, hq h' g2⟩, fresh, q⟩
  cases l
  · exact go _ (begins_tuple b its.toArray) fun h e => ⟨_, e, rfl, rfl⟩
  · exact go _ (begins_list b its.toArray) fun h e => ⟨_, e, rfl, rfl⟩
/-- zip's two things, as they are told -/
def zipK (S2 : Store) : List D → R (List D × (Store → Prop)) := fun xs => match xs with
  | [.str x, .lst ys] => if ys.length = x.cps.size then .ok (((signs x).zip ys).map fun p => .tup [p.1, p.2], fun _ => True) S2 else .bad
  | [.str x, .tup ys] => if ys.length = x.cps.size then .ok (((signs x).zip ys).map fun p => .tup [p.1, p.2], fun _ => True) S2 else .bad
  | _ => .bad
def iZip (g : EvA) : EvI := fun ds S => (g ds S).bind fun xs S1 => zipK S1 xs
theorem itF_zb {l : Bool} {β : Bt} {H : Hp} {x : Str} {b : Addr} {ys : List V} {yd : List D} {gd : Store → Prop} (hs : ∀ β' H', Mon β H β' H' → Sq2 l Γ.K H' b ys) (q : RVs Γ β H ys yd) (hn : yd.length = x.cps.size) :
    ItF Γ (Itzb l Γ.K x b) gd β H (((signs x).zip yd).map fun p => .tup [p.1, p.2]) := by
  intro i β' S' H' g r hg
  have hz := hs β' H' g
  have q := q.mon g
  have hl : ys.length = x.cps.size := by rw [q.length]; exact hn
  have hsl : (signs x).length = x.cps.size := by simp [signs]
  have hzl : (((signs x).zip yd).map fun p => (D.tup [p.1, p.2])).length = x.cps.size := by simp [hsl, hn]
  refine ⟨fun hi => ?_, fun hi => ⟨ys, hz, hl, by rw [hzl] at hi; exact hi⟩⟩
  rw [hzl] at hi
  refine ⟨⟨ys, hz, hl, hi⟩, fun v H'' ⟨T, c, y, e1, e2, e3, e4, e5⟩ => ?_⟩
  subst e1 e3
  have hy := e5 ys hz
  have hi2 : i < yd.length := by omega
  obtain ⟨v', h1, h2⟩ := q.get (List.getElem?_eq_getElem hi2)
  rw [hy] at h1
  cases h1
  have gr := grow_new (o := .tup [.str ⟨#[c]⟩, y]) r e2
  refine ⟨gr, fun a ha => upd_ne fun z => r.new_ne e2 (by rw [← z]; exact ha), tabs_new e2 r.tb, .tup [.str ⟨#[c]⟩, yd[i]], ?_, .tup (SqT.of upd_same) (.cons (.str _) (.cons (h2.mono gr) .nil))⟩
  rw [List.getElem?_map, show ((signs x).zip yd)[i]? = some (D.str ⟨#[c]⟩, yd[i]) from List.getElem?_zip_eq_some.mpr ⟨by simp [signs, e4], List.getElem?_eq_getElem hi2⟩]
  rfl
theorem zip_any {st : Bool} (hK : X.K = Γ.K) {pins : List (Addr × Obj)} {σ : L2.St} {s : Shared} {H : Hp} {R : It → Hp → Prop} {β : Bt} {S S' : Store} {xs ys : List D} {gd : Store → Prop} {us : List Value} {vs : List V} (I : L2.Inv X pins σ H s) (r : Vals vs us) (rv : RVs Γ β H vs xs) (rs : RepSt Γ β S H) (e : zipK S xs = .ok (ys, gd) S') (k : ∀ J, ItF Γ J gd β H ys → R J H) :
    wpAny (model X.prog X.w) X.A (call (.type "zip") us (kwZ st)) (fun v s1 => wpAny (model X.prog X.w) X.A (pyIter v) (PIE X pins σ (.Tuple elts kk tpos) R) X.xe s1) X.xe s := by
  unfold zipK at e
  split at e
  · split at e
    · rename_i x zs hn
      cases e
      obtain ⟨v1, v2, rfl, r1, r2⟩ := rvs2 rv
      cases rv_str r1
      cases r2 with
      | lst no h2 q2 =>
        cases r with
        | cons ra rr => cases rr with
          | cons rb rr =>
            cases rr
            obtain ⟨t, rfl⟩ := ra
            cases rb
            refine zb_pie (l := true) I (show SqL X.K H _ _ from by rw [hK]; exact SqL.of h2) ?_
            rw [hK]
            exact k _ (itF_zb (l := true) (fun β' H' g => show SqL Γ.K H' _ _ from SqL.of (g.lst _ _ no h2)) q2 hn)
    · cases e
  · split at e
    · rename_i x zs hn
      cases e
      obtain ⟨v1, v2, rfl, r1, r2⟩ := rvs2 rv
      cases rv_str r1
      obtain ⟨b, ws, rfl, h2, q2⟩ := rv_tup r2
      cases r with
      | cons ra rr => cases rr with
        | cons rb rr =>
          cases rr
          obtain ⟨t, rfl⟩ := ra
          cases rb
          refine zb_pie (l := false) I (show SqT X.K H _ _ from by rw [hK]; exact h2) ?_
          rw [hK]
          exact k _ (itF_zb (l := false) (fun β' H' g => show SqT Γ.K H' _ _ from g.sqT h2) q2 hn)
    · cases e
  · cases e
theorem pfi_zip {g : EvA} (hK : X.K = Γ.K) (hg : Gl X "zip") (hm : X.mg "zip" = none) (ha : PA X [e1, e2] (tFA Γ g))
    (hs : starEach [e1, e2] X.env = (false, eval e1 X.env) :: starEach [e2] X.env := by rfl) (hpl : (backTo pos (starEach [e2] X.env)).any (·.1) = false := by rfl) :
    PI X (.Tuple elts kk tpos) (.Call (.Name "zip" p) [e1, e2] [] pos) (tFI Γ (iZip g)) := by
  refine ⟨fun pins s σ H R I ⟨β, ds, S, xs, gd, S', rep, e, k⟩ => ?_⟩
  obtain ⟨zs, S1, h1, e⟩ := Rk.R.bind_inv e
  have h : tFA Γ g σ H fun vs H1 => ∃ β1, RepSt Γ β1 S1 H1 ∧ RVs Γ β1 H1 vs zs ∧ ∀ J, ItF Γ J gd β1 H1 xs → R J H1 := ⟨β, ds, S, zs, S1, rep, h1, fun β1 vs H1 g1 r1 rv => ⟨β1, r1, rv, fun J hJ => k β1 H1 g1 (by
    have : S' = S1 := by
      unfold zipK at e
      split at e
      · split at e <;> cases e; rfl
      · split at e <;> cases e; rfl
      · cases e
    rw [this]; exact r1) J hJ⟩⟩
  refine Call_ (ld_blt I hg hm PyProof.Rows.boot_zip (PyProof.Rows.callWith_type1 (thn (ha.run pos pins s σ H _ I h) fun us s1 ⟨vs, H1, I1, r1, β1, rs, rv, kk⟩ => ?_) hs hpl))
  exact zip_any (st := false) hK I1 r1 rv rs e kk
theorem pfi_zipS {g : EvA} {kp vp : Pos} {j : Nat} (hK : X.K = Γ.K) (hg : Gl X "zip") (hm : X.mg "zip" = none) (ha : PA X [e1, e2] (tFA Γ g))
    (hs : backTo pos (starEach [e1, e2] X.env) = (false, eval e1 X.env) :: backTo pos (starEach [e2] X.env) := by rfl) (hpl : (backTo pos (starEach [e1, e2] X.env)).any (·.1) = false := by rfl) :
    PI X (.Tuple elts kk tpos) (.Call (.Name "zip" p) [e1, e2] [⟨some "strict", .Constant (.bool true) j vp, kp⟩] pos) (tFI Γ (iZip g)) := by
  refine ⟨fun pins s σ H R I ⟨β, ds, S, xs, gd, S', rep, e, k⟩ => ?_⟩
  obtain ⟨zs, S1, h1, e⟩ := Rk.R.bind_inv e
  have h : tFA Γ g σ H fun vs H1 => ∃ β1, RepSt Γ β1 S1 H1 ∧ RVs Γ β1 H1 vs zs ∧ ∀ J, ItF Γ J gd β1 H1 xs → R J H1 := ⟨β, ds, S, zs, S1, rep, h1, fun β1 vs H1 g1 r1 rv => ⟨β1, r1, rv, fun J hJ => k β1 H1 g1 (by
    have : S' = S1 := by
      unfold zipK at e
      split at e
      · split at e <;> cases e; rfl
      · split at e <;> cases e; rfl
      · cases e
    rw [this]; exact r1) J hJ⟩⟩
  refine wpAny_Call_Name_kw (ld_blt I hg hm PyProof.Rows.boot_zip (cw_typeKw (thn (ha.run pos pins s σ H _ I h) fun us s1 ⟨vs, H1, I1, r1, β1, rs, rv, kk⟩ => ?_) hs hpl))
  refine kws_cons (thn ((pe_bl (X := X) (b := true) (j := j) (pos := vp)).run pins s1 σ H1 (fun v H2 => v = .bl true ∧ H2 = H1) I1 ⟨rfl, rfl⟩) fun u s2 ⟨v, H2, I2, r2, ev, eh⟩ => kws_nil ?_)
  subst ev eh
  cases r2
  exact zip_any (st := true) hK I2 r1 rv rs e kk
end
end Rk

namespace Rk
open PySem PySem.Spec PyProof.Rows L2

/-! ### d.update(e), of two dicts that may change -/
def updM : EvM := fun x xs S => match x, xs with
  | .ref n, [.ref m] => if n = m then .bad else match S[n]?, S[m]? with
    | some (.dct ks), some (.dct ms) => if ks.length + ms.length ≤ sizeLine then .ok .non (S.set n (.dct (mergeD ks ms))) else .bad
    | _, _ => .bad
  | _, _ => .bad
theorem mergeK_len {κ : Type} [DecidableEq κ] : ∀ (more kvs : List (κ × V)), (more.foldl (fun acc kv => putK acc kv.1 kv.2) kvs).length ≤ kvs.length + more.length
  | [], kvs => by simp
  | p :: ps, kvs => by
    have ih := mergeK_len ps (putK kvs p.1 p.2)
    have := length_putK kvs p.1 p.2
    rw [List.foldl_cons, List.length_cons]
    omega
section
variable {Γ : Gm} {X : Cx}
theorem md_update : MtR X "dict.update" (rFM Γ updM) := by
  intro pins s σ H x vs v us Q I rx rus ⟨β, S, dx, xs, d, S', r, rv, rvs, e, k⟩
  unfold updM at e
  split at e
  case h_2 => cases e
  rename_i n m
  split at e
  · cases e
  rename_i hne
  cases hs : S[n]? with
  | none => simp only [hs] at e; cases e
  | some c1 =>
    cases ht : S[m]? with
    | none => cases c1 <;> simp only [hs, ht] at e <;> cases e
    | some c2 =>
      cases c1 <;> cases c2 <;> simp only [hs, ht] at e <;> first | cases e | skip
      rename_i ks ms
      split at e
      case isFalse => cases e
      rename_i hl
      cases e
      obtain ⟨y, rfl, r1⟩ := rvs1 rvs
      cases rv with
      | @ref _ a ha =>
        cases r1 with
        | @ref _ b hb =>
          cases rx
          obtain ⟨u, rfl, ru⟩ := rus.one
          cases ru
          obtain ⟨va, h1, q1⟩ := r.cellOf ha hs
          obtain ⟨vb, h2, q2⟩ := r.cellOf hb ht
          have hab : a ≠ b := fun z => by
            subst z
            exact hne ((List.getElem?_inj (List.getElem?_eq_some_iff.mp ha).1 r.nd).mp (ha.trans hb.symm))
          obtain ⟨z1, d1, ws1, k1, dd1⟩ := dk_of I.hok h1
          obtain ⟨z2, d2, ws2, k2, dd2⟩ := dk_of I.hok h2
          have l1 := q1.length
          have l2 := q2.length
          have l3 : va.length = ws1.length := Paired.length k1
          have l4 : vb.length = ws2.length := Paired.length k2
          refine call_meetsIn PySem.F.slot_dict_update dd1.typeIs PySem.F.entry_dict_update (PySem.F.args_dict_update_2 _ _) (meets_dict_update (mixKind X.prog X.w) a b hab d2) ⟨ws1, ws2, dd1, dd2, by omega, fun h' dd' _ sb => ?_⟩
          have hz : (mergeK va vb).length ≤ sizeLine := Nat.le_trans (mergeK_len vb va) (by omega)
          have I1 := d_write (t' := s.toks) I (by rw [h1]; exact True.intro) sb (let ⟨q, _, _, hq, _⟩ := dd'; ⟨q, hq⟩) (dk_new hz d1 (k2.merge k1) dd')
          have gw := grow_write (o := .dK (mergeK va vb)) r (List.mem_of_getElem? ha)
          exact ⟨.non, _, I1, rfl, k β .non _ gw (r.write ha ⟨_, upd_same, (q2.merge q1).mono gw⟩) .non⟩

/-! ### a call of a def that a local name holds -/
variable {CX : CXT} {k : Nat} {E : XK} {x : Str} {p pos : Pos} {e : Expr} {es : List Expr} {g : EvA}
def fCallV (c : Nat → EvC) (L : List Nat) (i : Nat) (g : EvA) : EvE := fun ds S => match ds[i]? with
  | some (some (.fn k)) => if k ∈ L then (g ds S).bind (c k) else .bad
  | _ => .bad
/-- what must be known of each def that may stand there -/
def HeldG (X : Cx) (CX : CXT) (Γ : Gm) (k : Nat) (c : Nat → EvC) (g : Nat) : Prop := ∃ (fd : FuncData) (ps : List Str) (n : Nat), FnG X.prog X.w X.K X.mg X.base CX k (Γ.fa g) fd ps (spF Γ n (c g)) ∧ (∀ xs S d S', c g xs S = .ok d S' → xs.length = n) ∧ PySem.W.keepIn X.K (.ref (Γ.fa g)) = true ∧ Binds X.K fd ps []
theorem pf_callV {c : Nat → EvC} {L : List Nat} {i : Nat} (hL : ∀ g ∈ L, HeldG X CX Γ k c g) (hgd : X.A.guards = some []) (hr : Room k X.A) (hx : Passes CX X E) (hv : PE X (.Name x p) (tVar i)) (ha : PA X (e :: es) (tFA Γ g))
    (he : starEach (e :: es) X.env = (false, eval e X.env) :: starEach es X.env := by rfl) (hpl : (backTo pos (starEach es X.env)).any (·.1) = false := by rfl) : PE X (.Call (.Name x p) (e :: es) [] pos) (tF Γ (fCallV c L i g)) := by
  refine ⟨fun pins s σ H Q I ⟨β, ds, S, d, S', rep, ee, kk⟩ => ?_⟩
  unfold fCallV at ee
  split at ee
  case h_2 => cases ee
  rename_i q hq
  split at ee
  case isFalse => cases ee
  rename_i hm
  obtain ⟨xs, S1, e1, ee⟩ := R.bind_inv ee
  obtain ⟨fd, ps, n, F, hl, hk, hb⟩ := hL q hm
  obtain ⟨v, hv1, hv2⟩ := rep.env.val i _ hq
  cases hv2
  refine wpAny_Call_Name_kw (thn (hv.run pins s σ H (fun v H1 => v = .ref (Γ.fa q) ∧ H1 = H) I ⟨.ref (Γ.fa q), hv1, rfl, rfl⟩) fun u s1 ⟨v, H1, I1, r1, ev, eh⟩ => ?_)
  subst ev eh
  cases r1
  have ht : tFA Γ g σ H1 fun vs H2 => spF Γ n (c q) vs H2 Q E := ⟨β, ds, S, xs, S1, rep, e1, fun β1 vs H2 g1 r1 rv => ⟨by rw [rv.length]; exact hl _ _ _ _ ee, β1, S1, xs, d, S', r1, rv, ee, kk.from g1⟩⟩
  refine PySem.W.callWith_K (h₀ := X.base) I1.ok.mod.kin hk (thn (ha.run pos pins s1 σ _ _ I1 ht) fun us s2 ⟨vs, H2, I2, r, q⟩ => ⟨I2.kIn, ?_⟩) he hpl
  have hb' : us.length = ps.length → BindsTo s2 fd ⟨us, []⟩ (ps.zip us) := fun hl => by
    have := hb s2 us I2.kIn (by simpa using hl)
    simpa using this
  exact run_g (args := ⟨us, []⟩) F hgd hr hb' hx I2 r q
/-- LOOKS-like: a dict of the written part, as a value -/
theorem pf_globD {a : Addr} {vs : List (Key × V)} {ds : List (Key × D)} (hg : Gl X x) (hm : X.mg x = some (.ref a)) (h : KDs Γ.K Γ.P a vs) (q : ∀ β H, RKs Γ β H vs ds) (hd : (x == ("__debug__" : Str)) = false := by decide) : PE X (.Name x pos) (tF Γ (fC (.kd ds))) :=
  pf_glob (v := .ref a) hg hm rfl (fun β H => .kd h (q β H)) hd
end
end Rk

namespace Rk
open PySem PySem.Spec PyProof.Rows L2
/-! ### comprehensions of two generators; list.extend, list.reverse -/
section
variable {Γ : Gm} {β β1 β2 : Bt} {H H1 H2 : Hp} {p : Addr}
theorem Mon.trans (g : Mon β H β1 H1) (g' : Mon β1 H1 β2 H2) : Mon β H β2 H2 :=
  ⟨fun n a e => g'.get n a (g.get n a e), fun a xs q => g'.tup a xs (g.tup a xs q), fun a o t n q => g'.frz a o t (g.frz a o t n q).2 (g.frz a o t n q).1,
   fun a xs n q => g'.lst a xs (g.frz a _ ntl n (.inl q)).2 (g.lst a xs n q), fun a o u q => g'.fz a o u (g.fz a o u q), fun a x q => g'.ow a x (g.ow a x q)⟩
end
open Classical in
/-- [el for t in xs if c for t1 in it1 if c1] -/
noncomputable def compL2 (gd : Store → Prop) (t : EvG) (c : EvT) (it1 : EvI) (own1 : List Nat) (t1 : EvG) (c1 : EvT) (el : EvE) : List D → Env → Store → R (List D)
  | [], _, S => if gd S then .ok [] S else .bad
  | x :: xs, ds, S => if gd S then match t x ds with
    | none => .bad
    | some ds1 => (c ds1 S).bind fun b S1 => if b then (it1 ds1 S1).bind fun q S2 => (compL q.2 t1 c1 el q.1 (wipeD ds1 own1) S2).bind fun ys S3 => (compL2 gd t c it1 own1 t1 c1 el xs ds S3).bind fun zs S4 => .ok (ys ++ zs) S4
      else compL2 gd t c it1 own1 t1 c1 el xs ds S1
    else .bad
noncomputable def fComp2 (it : EvI) (own : List Nat) (t : EvG) (c : EvT) (it1 : EvI) (own1 : List Nat) (t1 : EvG) (c1 : EvT) (el : EvE) : EvE := fun ds S => (it ds S).bind fun p S1 =>
  (compL2 p.2 t c it1 own1 t1 c1 el p.1 (wipeD ds own) S1).bind fun ys S2 => if ys.length ≤ sizeLine then .ok (.lst ys) S2 else .bad
section
variable {Γ : Gm} {X : Cx}
theorem tLc2_of {it it1 : EvI} {own own1 : List Nat} {t t1 : EvG} {c c1 : EvT} {el : EvE} {ws ws1 : List Nat} (hw : ∀ j ∈ ws, j ∈ own) (hw1 : ∀ j ∈ ws1, j ∈ own1) {σ : L2.St} {H : Hp} {Q : VK} (h : tF Γ (fComp2 it own t c it1 own1 t1 c1 el) σ H Q) :
    tLc2 (tFI Γ it) (gF Γ ws t) (tFT Γ c) (tFI Γ it1) (gF Γ ws1 t1) (tFT Γ c1) (tF Γ el) own own1 σ H Q := by
  obtain ⟨β, ds, S, d, S', rep, e, k⟩ := h
  obtain ⟨⟨xs, gd⟩, S1, e1, e⟩ := R.bind_inv e
  obtain ⟨ys, SF, e2, e⟩ := R.bind_inv e
  simp only at e e2
  split at e
  case isFalse => cases e
  rename_i hsz
  obtain ⟨rfl, rfl⟩ : D.lst ys = d ∧ SF = S' := by cases e; exact ⟨rfl, rfl⟩
  refine ⟨β, ds, S, xs, gd, S1, rep, e1, fun β1 H1 g1 r1 J hJ p hp => ?_⟩
  have hpz : p ∉ β1.z := r1.new_z hp
  refine ⟨fun i m H' => m = xs.length - i ∧ i ≤ xs.length ∧ ∃ β' T accV accD rest, GrowB p β1 H1 β' H' ∧ RepSt Γ (β'.push p) T H' ∧ RepEnv Γ (β'.push p) H' (L2.wipe σ own) (wipeD ds own) ∧ H' p = some (.lst accV) ∧ RVs Γ (β'.push p) H' accV accD ∧
      compL2 gd t c it1 own1 t1 c1 el (xs.drop i) (wipeD ds own) T = .ok rest SF ∧ accD ++ rest = ys,
    ⟨xs.length, by simp, Nat.zero_le _, β1, S1, [], [], ys, GrowB.start r1 hp, r1.push hp, ((rep.env.mono g1).mon (mon_push hp)).wipe own, upd_same, .nil, ?_, rfl⟩, ?_⟩
  · rw [List.drop_zero]
    exact e2
  rintro i m H' ⟨rfl, hi, β', T, accV, accD, rest, gb, rT, rE, hpa, racc, ec, ey⟩
  by_cases hlt : i < xs.length
  · rw [List.drop_eq_getElem_cons hlt] at ec
    unfold compL2 at ec
    split at ec
    case isFalse => cases ec
    rename_i hgd
    obtain ⟨hgo, hy⟩ := (hJ i (β'.push p) T H' (gb.monp hp) rT hgd).1 hlt
    refine .inr ⟨hgo, fun H2 => ∃ β2 T2 accV2 accD2 rest2, GrowB p β1 H1 β2 H2 ∧ RepSt Γ (β2.push p) T2 H2 ∧ RepEnv Γ (β2.push p) H2 (L2.wipe σ own) (wipeD ds own) ∧ H2 p = some (.lst accV2) ∧ RVs Γ (β2.push p) H2 accV2 accD2 ∧
      compL2 gd t c it1 own1 t1 c1 el (xs.drop (i + 1)) (wipeD ds own) T2 = .ok rest2 SF ∧ accD2 ++ rest2 = ys, fun H2 h2 => ⟨xs.length - (i + 1), by omega, rfl, hlt, h2⟩, fun x H'' y => ?_⟩
    obtain ⟨gx, kx, tx, d, hd, rvd⟩ := hy x H'' y
    have ed : d = xs[i] := by rw [List.getElem?_eq_getElem hlt] at hd; exact (Option.some.inj hd).symm
    subst ed
    have repx : Rep Γ (β'.push p) (wipeD ds own) T (L2.wipe σ own) H'' := ⟨rT.keep gx kx tx, rE.mono gx⟩
    cases ht : t xs[i] (wipeD ds own) with
    | none => simp only [ht] at ec; cases ec
    | some ds1 =>
      simp only [ht] at ec
      obtain ⟨b, S2, e3, ec⟩ := R.bind_inv ec
      refine ⟨β'.push p, wipeD ds own, T, _, ds1, repx, rvd, ht, fun β9 σ2 H9 sb g9 rep2 => ⟨(sb.wipe hw).trans (wipe_wipe σ own), β9, ds1, T, b, S2, rep2, e3, fun β3 H3 g3 r3 => ?_⟩⟩
      replace gx := gx.trans g9
      have gT : Grow (β'.push p) H' β3 H3 := gx.trans g3
      have z3 : β3.z = p :: β1.z := by rw [gT.ze]; show p :: β'.z = _; rw [gb.ze]
      cases b with
      | false =>
        rw [if_neg Bool.false_ne_true] at ec
        refine iteF ?_
        have hp3 : H3 p = some (.lst accV) := by rw [gT.zk p List.mem_cons_self]; exact hpa
        refine ⟨β3.pop β1, S2, accV, accD, rest, gb.trans gT, ?_, ?_, hp3, ?_, ec, ey⟩
        · rw [pop_push z3]; exact r3
        · rw [pop_push z3]; exact rE.mono gT
        · rw [pop_push z3]; exact racc.mono gT
      | true =>
        rw [if_pos rfl] at ec
        refine iteT ?_
        obtain ⟨⟨xs1, gd1⟩, S3, e4, ec⟩ := R.bind_inv ec
        obtain ⟨yi, SI, e5, ec⟩ := R.bind_inv ec
        obtain ⟨zi, S5, e6, ec⟩ := R.bind_inv ec
        simp only at e5
        obtain ⟨er, es⟩ : yi ++ zi = rest ∧ S5 = SF := by cases ec; exact ⟨rfl, rfl⟩
        subst er es
        refine ⟨β3, ds1, S2, xs1, gd1, S3, ⟨r3, rep2.env.mono g3⟩, e4, fun β4 H4 g4 r4 J1 hJ1 => ?_⟩
        have gT4 : Grow (β'.push p) H' β4 H4 := gT.trans g4
        have z4 : β4.z = p :: β1.z := by rw [gT4.ze]; show p :: β'.z = _; rw [gb.ze]
        have hp4 : H4 p = some (.lst accV) := by rw [gT4.zk p List.mem_cons_self]; exact hpa
        have e44 := pop_push z4
        have env4 : RepEnv Γ β4 H4 (L2.wipe σ2 own1) (wipeD ds1 own1) := ((rep2.env.mono g3).mono g4).wipe own1
        -- the inner walk
        refine ⟨fun j k H5 => k = xs1.length - j ∧ j ≤ xs1.length ∧ ∃ β5 T5 accV5 accD5 rest5, GrowB p β1 H1 β5 H5 ∧ Mon β4 H4 (β5.push p) H5 ∧ RepSt Γ (β5.push p) T5 H5 ∧ H5 p = some (.lst accV5) ∧ RVs Γ (β5.push p) H5 accV5 accD5 ∧
            compL gd1 t1 c1 el (xs1.drop j) (wipeD ds1 own1) T5 = .ok rest5 SI ∧ accD5 ++ rest5 ++ zi = ys,
          ⟨xs1.length, by simp, Nat.zero_le _, β4.pop β1, S3, accV, accD, yi, gb.trans gT4, ?_, ?_, hp4, ?_, ?_, ?_⟩, ?_⟩
        · rw [e44]; exact (Grow.refl β4 H4).mon
        · rw [e44]; exact r4
        · rw [e44]; exact racc.mono gT4
        · rw [List.drop_zero]; exact e5
        · rw [List.append_assoc]; exact ey
        rintro j k5 H5 ⟨rfl, hj, β5, T5, accV5, accD5, rest5, gb5, m5, r5, hp5, racc5, ec5, ey5⟩
        by_cases hlt1 : j < xs1.length
        · rw [List.drop_eq_getElem_cons hlt1] at ec5
          unfold compL at ec5
          split at ec5
          case isFalse => cases ec5
          rename_i hgd1
          obtain ⟨hgo1, hy1⟩ := (hJ1 j (β5.push p) T5 H5 m5 r5 hgd1).1 hlt1
          refine .inr ⟨hgo1, fun H6 => ∃ β6 T6 accV6 accD6 rest6, GrowB p β1 H1 β6 H6 ∧ Mon β4 H4 (β6.push p) H6 ∧ RepSt Γ (β6.push p) T6 H6 ∧ H6 p = some (.lst accV6) ∧ RVs Γ (β6.push p) H6 accV6 accD6 ∧
              compL gd1 t1 c1 el (xs1.drop (j + 1)) (wipeD ds1 own1) T6 = .ok rest6 SI ∧ accD6 ++ rest6 ++ zi = ys, fun H6 h6 => ⟨xs1.length - (j + 1), by omega, rfl, hlt1, h6⟩, fun x1 H7 y1 => ?_⟩
          obtain ⟨gx1, kx1, tx1, d1, hd1, rvd1⟩ := hy1 x1 H7 y1
          have ed1 : d1 = xs1[j] := by rw [List.getElem?_eq_getElem hlt1] at hd1; exact (Option.some.inj hd1).symm
          subst ed1
          have repx1 : Rep Γ (β5.push p) (wipeD ds1 own1) T5 (L2.wipe σ2 own1) H7 := ⟨r5.keep gx1 kx1 tx1, (env4.mon m5).mono gx1⟩
          cases ht1 : t1 xs1[j] (wipeD ds1 own1) with
          | none => simp only [ht1] at ec5; cases ec5
          | some ds7 =>
            simp only [ht1] at ec5
            obtain ⟨b1, S7, e7, ec5⟩ := R.bind_inv ec5
            refine ⟨β5.push p, wipeD ds1 own1, T5, _, ds7, repx1, rvd1, ht1, fun β8 σ8 H8 sb8 g8 rep8 => ⟨(sb8.wipe hw1).trans (wipe_wipe σ2 own1), β8, ds7, T5, b1, S7, rep8, e7, fun β10 H10 g10 r10 => ?_⟩⟩
            have gB : Grow (β5.push p) H5 β10 H10 := (gx1.trans g8).trans g10
            have z10 : β10.z = p :: β1.z := by rw [gB.ze]; show p :: β5.z = _; rw [gb5.ze]
            cases b1 with
            | false =>
              rw [if_neg Bool.false_ne_true] at ec5
              refine iteF ?_
              have hp10 : H10 p = some (.lst accV5) := by rw [gB.zk p List.mem_cons_self]; exact hp5
              refine ⟨β10.pop β1, S7, accV5, accD5, rest5, gb5.trans gB, ?_, ?_, hp10, ?_, ec5, ey5⟩
              · rw [pop_push z10]; exact m5.trans gB.mon
              · rw [pop_push z10]; exact r10
              · rw [pop_push z10]; exact racc5.mono gB
            | true =>
              rw [if_pos rfl] at ec5
              refine iteT ?_
              obtain ⟨y', S11, e11, ec5⟩ := R.bind_inv ec5
              obtain ⟨ys', S12, e12, ec5⟩ := R.bind_inv ec5
              obtain ⟨er, es⟩ : y' :: ys' = rest5 ∧ S12 = SI := by cases ec5; exact ⟨rfl, rfl⟩
              subst er es
              refine ⟨β10, ds7, S7, y', S11, ⟨r10, rep8.env.mono g10⟩, e11, fun β11 v11 H11 g11 r11 rv11 => ?_⟩
              have gC : Grow (β5.push p) H5 β11 H11 := gB.trans g11
              have z11 : β11.z = p :: β1.z := by rw [gC.ze]; show p :: β5.z = _; rw [gb5.ze]
              have hp11 : H11 p = some (.lst accV5) := by rw [gC.zk p List.mem_cons_self]; exact hp5
              have e45 := pop_push z11
              have hlen : accV5.length < sizeLine := by
                rw [racc5.length]
                have : (accD5 ++ y' :: ys' ++ zi).length = ys.length := by rw [ey5]
                simp only [List.length_append, List.length_cons] at this
                omega
              refine ⟨accV5, hp11, hlen, β11.pop β1, S11, accV5 ++ [v11], accD5 ++ [y'], ys', (gb5.trans gC).upd hp11 hpz, ?_, ?_, upd_same, ?_, e12, by rw [← ey5]; simp⟩
              · have h1 := m5.trans gC.mon
                rw [← e45] at h1
                exact h1.trans (mon_upd hp11)
              · rw [← e45] at r11
                exact r11.updz hp11
              · have h1 := racc5.mono gC
                rw [← e45] at h1 rv11
                exact ((h1.mon (mon_upd hp11)).append (.cons (rv11.mon (mon_upd hp11)) .nil))
        · have ei : j = xs1.length := by omega
          subst ei
          rw [List.drop_length] at ec5
          unfold compL at ec5
          split at ec5
          case isFalse => cases ec5
          rename_i hgd1
          cases ec5
          refine .inl ⟨(hJ1 _ (β5.push p) _ H5 m5 r5 hgd1).2 (Nat.le_refl _), ?_⟩
          rw [List.append_nil] at ey5
          exact ⟨β5, _, accV5, accD5, zi, gb5, r5, (rE.mono gT4).mon m5, hp5, racc5, e6, ey5⟩
  · have ei : i = xs.length := by omega
    subst ei
    rw [List.drop_length] at ec
    unfold compL2 at ec
    split at ec
    case isFalse => cases ec
    rename_i hgd
    cases ec
    have gd0 : Grow β1 H1 β' H' := gb.done hp
    refine .inl ⟨(hJ _ (β'.push p) _ H' (gb.monp hp) rT hgd).2 (Nat.le_refl _), ?_⟩
    rw [List.append_nil] at ey
    subst ey
    refine k β' _ H' (g1.trans gd0) rT.pop (.lst ⟨(rT.zt p List.mem_cons_self).2, by rw [gb.ze]; exact hpz⟩ hpa (racc.mon mon_pop))
theorem pf_lc2 {pos : Pos} {elt tg iter tg1 iter1 : Expr} {ifs ifs1 : List Expr} {scope : Scope} {own : List (Str × Nat)} {wi wi1 : EvI} {ws ws1 own1 : List Nat} {g g1 : EvG} {tt tt1 : EvT} {te : EvE} (hc : X.calm = true) (hN : X.N.Nodup) (hw : ∀ j ∈ ws, j ∈ own.map (·.2)) (hw1 : ∀ j ∈ ws1, j ∈ own1) (hv : ∀ j ∈ own1, j ∈ own.map (·.2)) (hi : PI X tg iter (tFI Γ wi)) (ok : BlkOk X.N X.env.scope scope own)
    (hg : ∀ (s : Shared) (H : Hp) (C : Addr) (cl : List (Str × Addr)) (fp : List Addr), PG (X.blk s H scope (compEnvC scope cl C X.env) fp) tg (gF Γ ws g)) (ht : ∀ (s : Shared) (H : Hp) (C : Addr) (cl : List (Str × Addr)) (fp : List Addr), PTs (X.blk s H scope (compEnvC scope cl C X.env) fp) ifs (tFT Γ tt))
    (hi1 : ∀ (s : Shared) (H : Hp) (C : Addr) (cl : List (Str × Addr)) (fp : List Addr), PI (X.blk s H scope (compEnvC scope cl C X.env) fp) tg1 iter1 (tFI Γ wi1))
    (hg1 : ∀ (s : Shared) (H : Hp) (C : Addr) (cl : List (Str × Addr)) (fp : List Addr), PG (X.blk s H scope (compEnvC scope cl C X.env) fp) tg1 (gF Γ ws1 g1)) (ht1 : ∀ (s : Shared) (H : Hp) (C : Addr) (cl : List (Str × Addr)) (fp : List Addr), PTs (X.blk s H scope (compEnvC scope cl C X.env) fp) ifs1 (tFT Γ tt1))
    (he : ∀ (s : Shared) (H : Hp) (C : Addr) (cl : List (Str × Addr)) (fp : List Addr), PE (X.blk s H scope (compEnvC scope cl C X.env) fp) elt (tF Γ te)) (hs : ∀ x, foldedSetIterable iter X.env x = pure x := by intro _; rfl) (hs1 : ∀ env x, foldedSetIterable iter1 env x = pure x := by intro _ _; rfl) :
    PE X (.ListComp elt [⟨tg, iter, ifs, 0⟩, ⟨tg1, iter1, ifs1, 0⟩] scope pos) (tF Γ (fComp2 wi (own.map (·.2)) g tt wi1 own1 g1 tt1 te)) :=
  pe_imp (pe_lc2 hc hN hi ok hv hg ht hi1 hg1 ht1 he hs hs1) fun _ _ _ h => tLc2_of hw hw1 h
def extM : EvM := fun x xs S => match x, xs with
  | .ref n, [y] => match S[n]?, asX S y with
    | some (.lst ys), some zs => if ys.length + zs.length ≤ sizeLine then .ok .non (S.set n (.lst (ys ++ zs))) else .bad
    | _, _ => .bad
  | _, _ => .bad
theorem md_extend : MtR X "list.extend" (rFM Γ extM) := by
  intro pins s σ H x vs v us Q I rx rus ⟨β, S, dx, xs, d, S', r, rv, rvs, e, k⟩
  unfold extM at e
  split at e
  case h_2 => cases e
  rename_i n y
  split at e
  case h_2 => cases e
  rename_i ys zs hs hz
  split at e
  case isFalse => cases e
  rename_i hl
  cases e
  cases rv
  rename_i a ha
  obtain ⟨w, rfl, r1⟩ := rvs1 rvs
  obtain ⟨ws, h1, q⟩ := r.cellOf ha hs
  obtain ⟨b, vs, rfl, h2, q2⟩ := asX_of r r1 hz
  exact mt_extend pins s σ H _ _ v us Q I rx rus ⟨a, b, ws, vs, rfl, rfl, h1, h2, by rw [q.length, q2.length]; exact hl, K1.put (S2 := S) k r ha (q.append q2) .non⟩
def revM : EvM := fun x xs S => match x, xs with
  | .ref n, [] => match S[n]? with
    | some (.lst ys) => .ok .non (S.set n (.lst ys.reverse))
    | _ => .bad
  | _, _ => .bad
theorem md_reverse : MtR X "list.reverse" (rFM Γ revM) := by
  intro pins s σ H x vs v us Q I rx rus ⟨β, S, dx, xs, d, S', r, rv, rvs, e, k⟩
  unfold revM at e
  split at e
  case h_2 => cases e
  rename_i n
  split at e
  case h_2 => cases e
  rename_i ys hs
  cases e
  cases rv
  rename_i a ha
  cases rvs
  obtain ⟨ws, h1, q⟩ := r.cellOf ha hs
  exact mt_reverse pins s σ H _ _ v us Q I rx rus ⟨a, ws, rfl, rfl, h1, K1.put (S2 := S) k r ha q.reverse .non⟩
end
end Rk

namespace Rk
open PySem PySem.Spec PyProof.Rows L2 PySem.Froz
/-! ### sets of texts: their adding and their walk -/
theorem addTx_rises {w : World} {h : Int} {v : Value} {D : SD} (r : Ris D.2.2.place.toList) (l : w.params.followText "set-order" = true ∨ D.2.2.led = true) :
    Ris (addTx h v D).2.2.place.toList ∧ (w.params.followText "set-order" = true ∨ (addTx h v D).2.2.led = true) := by
  have r1 := layNew_ris D.2.2 D.1 h v r
  have l1 : w.params.followText "set-order" = true ∨ (layNew D.2.2 D.1 h v).2.1.led = true := l.imp id fun z => by rw [layNew_led]; exact z
  have two : ∀ t2 : SetTable, Ris t2.place.toList → (w.params.followText "set-order" = true ∨ t2.led = true) → ∀ (ep : Nat) (es : Array (Int × Value)) (b : Bool), Ris (tailTx ep es t2 b).2.2.place.toList ∧ (w.params.followText "set-order" = true ∨ (tailTx ep es t2 b).2.2.led = true) := fun t2 h1 h2 ep es b => by
    unfold tailTx
    split
    · exact ⟨relayAll_ris t2 es _, h2.imp id fun z => by
        show (relayAll t2 es _).2.1.led = true
        rw [relayAll_led]; exact z⟩
    · exact ⟨h1, h2⟩
  unfold addTx
  refine two _ ?_ ?_ _ _ _
  · split <;> exact r1
  · split <;> exact l1
/-- a set of the texts l, at a -/
structure TSet (P : Program) (w : World) (h : Heap) (a : Addr) (l : List Str) : Prop where
  ex : ∃ D : SD, h.get? a = some (sObj "set" D) ∧ TxOk P w D l ∧ Ris D.2.2.place.toList ∧ (w.params.followText "set-order" = true ∨ D.2.2.led = true)
  nd : l.Nodup
section
variable {P : Program} {w : World} {A : Around} {E : Value → Shared → Prop} {s : Shared}
theorem TSet.keep {h h' : Heap} {a : Addr} {l : List Str} (T : TSet P w h a l) (k : ∀ o, h.get? a = some o → h'.get? a = some o) : TSet P w h' a l := by
  obtain ⟨⟨D, h1, r⟩, nd⟩ := T
  exact ⟨⟨D, k _ h1, r⟩, nd⟩
/-- it is there already -/
theorem put_again {a : Addr} {T : String} {D : SD} {l : List Str} {k : Str} {u : Tok} {Q : Bool → Shared → Prop} (ho : s.heap.get? a = some (sObj T D)) (F : TxOk P w D l) (hk : k ∈ l) (hb : l.length < scanBound) (h : Q false s) :
    wpAny (model P w) A (setAddHashed a (.str k u) (hashStr w k)) Q E s := by
  obtain ⟨es, ep, t⟩ := D
  have dat : (sObj T (es, ep, t)).data = .set es ep t := rfl
  have fit : t.fits es.size = true := F.fit
  have els : ElemsOf (strKind P w) es.toList := F.el
  have few : es.size < scanBound := by
    have : es.size = l.length := F.sz
    omega
  have same : (strKind P w).is k (.str k u) = true := is_str k u
  obtain ⟨e, he, hq⟩ := (F.mem k).mp hk
  unfold setAddHashed setAddHashedIn
  refine wpAny_holding (wpAny_bind (wpAny_setState_of ho dat fit ?_))
  dsimp only
  rw [byScan_of (x := .str k u) rfl few els]
  simp only [↓reduceIte]
  unfold setAddByScan
  refine wpAny_bind (wpAny_bind (wpAny_rule (wpAny_bind (wpAny_setScan_of (knd := strKind P w) (k := k) same ho dat fit els ?_))))
  cases hf : List.findIdx? (fun e => (strKind P w).is k e.2) es.toList with
  | none =>
    have c := List.findIdx?_eq_none_iff.mp hf e he
    rw [hq] at c
    cases c
  | some j =>
    dsimp only
    exact wpAny_pure (wpAny_pure h)
/-- a text is put in -/
theorem TSet.put {a : Addr} {l : List Str} {k : Str} {u : Tok} {Q : Bool → Shared → Prop} (T : TSet P w s.heap a l) (hb : l.length + 1 < scanBound)
    (h : ∀ b h' l', Heap.SameBut a s.heap h' → TSet P w h' a l' → (∀ x, x ∈ l' ↔ x = k ∨ x ∈ l) → l'.length ≤ l.length + 1 → Q b { s with heap := h' }) : wpAny (model P w) A (setAddHashed a (.str k u) (hashStr w k)) Q E s := by
  obtain ⟨⟨D, h1, F, r, ld⟩, nd⟩ := T
  by_cases hk : k ∈ l
  · refine put_again h1 F hk (by omega) ?_
    exact h false s.heap l (Heap.SameBut.refl a s.heap) ⟨⟨D, h1, F, r, ld⟩, nd⟩ (fun x => ⟨.inr, fun q => q.elim (fun e => e ▸ hk) id⟩) (by omega)
  · refine add_x h1 F hk hb ?_
    refine h true _ (k :: l) (Heap.SameBut.update s.heap a _) ⟨⟨_, get_upd _ h1 rfl, add_ok u F, addTx_rises r ld⟩, List.nodup_cons.mpr ⟨hk, nd⟩⟩ (fun x => List.mem_cons) (by simp)
end
/-- the texts of a list's first i items -/
theorem some_take {xs : List Str} {i : Nat} {x : Str} (h : xs[i]? = some x) : xs.take (i + 1) = xs.take i ++ [x] := by
  rw [List.take_succ, h]
  rfl
section
variable {P : Program} {w : World} {A : Around} {R : Result → Shared → Prop} {I : Addr} {fp wr : List Addr} {G : Array GenState → Array GenState → Prop} {n : Nat} {Pv : Nat → Value → Prop} {St : Nat → Shared → Prop}
theorem put_all (W : WalksS P w A.in1 I fp wr G n Pv St) (a : Addr) (ha : a ∉ fp) (xs : List Str) (hv : ∀ i v, Pv i v → ∃ x t, xs[i]? = some x ∧ v = .str x t) (hb : n + 1 < scanBound) :
    ∀ (k i : Nat) (s : Shared) (l : List Str), n - i = k → i ≤ n → St i s → TSet P w s.heap a l → (∀ x, x ∈ l ↔ x ∈ xs.take i) → l.length ≤ i →
      (∀ s' l', Moved (a :: wr) G s s' → TSet P w s'.heap a l' → (∀ x, x ∈ l' ↔ x ∈ xs.take n) → l'.length ≤ n → R (.ok (.ret .none)) s') → codeAny (model P w) A (.builtin "set.update.loop" ⟨[.ref a, .ref I], []⟩) R s := by
  have haw : a ∉ wr := fun z => ha (W.sub _ z)
  have more : ∀ b ∈ wr, b ∈ a :: wr := fun b hb => List.mem_cons_of_mem _ hb
  intro k
  induction k with
  | zero =>
    intro i s l hk hi hst T hm hl hR
    obtain rfl : i = n := by omega
    refine codeAny_builtin PyProof.Rows.F.entry_set_update_loop ?_
    rw [Around.under_plainId PyProof.Rows.F.plain_set_update_loop _]
    refine wpAny_bind (m := pyNext (.ref I)) (W.done s _ _ hst fun s' mv => ?_)
    exact (show wpAny _ A.in1 (ret Value.none) _ _ s' from wpAny_pure (hR s' l (mv.mono more) (T.keep fun o e => mv.heap a o haw e) hm hl))
  | succ k ih =>
    intro i s l hk hi hst T hm hl hR
    have lt : i < n := by omega
    refine codeAny_builtin PyProof.Rows.F.entry_set_update_loop ?_
    rw [Around.under_plainId PyProof.Rows.F.plain_set_update_loop _]
    refine wpAny_bind (m := pyNext (.ref I)) (W.item i s _ _ lt hst fun v s' hP hst' mv => ?_)
    obtain ⟨x, t, hx, rfl⟩ := hv i v hP
    have T' : TSet P w s'.heap a l := T.keep fun o e => mv.heap a o haw e
    refine wpAny_bind (m := holding [Value.str x t] (setAdd a (.str x t))) (wpAny_holding ?_)
    unfold setAdd
    refine wpAny_holding (wpAny_bind ((strKind P w).pyHash (k := x) (is_str _ _) ?_))
    refine TSet.put (s := { s' with toks := s'.toks + 1 }) T' (by omega) fun b h' l' sb T2 m2 l2 => ?_
    refine wpAny_pure ⟨plainId_quiet PyProof.Rows.F.plain_set_update_loop _, ih (i + 1) _ l' (by omega) lt (W.frame _ s' _ _ hst' (Nat.le_succ _) fun c hc o e => ?_) T2 (fun y => ?_) (by omega) fun s2 l3 mv2 T3 m3 k3 => ?_⟩
    · rw [sb.2 c (fun z : c = a => ha (by rw [← z]; exact hc))]
      exact e
    · rw [m2 y, hm y, some_take hx, List.mem_append, List.mem_singleton]
      exact Or.comm
    · refine hR s2 l3 (Moved.trans W.gtrans ((mv.mono more).then_heap (Nat.le_succ _) fun c o hc e => ?_) mv2) T3 m3 k3
      rw [sb.2 c (fun z : c = a => hc (by rw [z]; exact List.mem_cons_self))]
      exact e
end
end Rk

namespace Rk
open PySem PySem.Spec PyProof.Rows L2 PySem.Froz
section
variable {P : Program} {w : World} {A : Around} {E : Value → Shared → Prop} {s : Shared}
def bareSet (w : World) : Obj := { cls := .type "set", dict := none, data := .set #[] 0 (.fresh 0 0 (!w.params.followText "set-order")) }
theorem TSet.bare {h : Heap} {a : Addr} (ho : h.get? a = some (bareSet w)) : TSet P w h a [] := by
  refine ⟨⟨(#[], 0, .fresh 0 0 (!w.params.followText "set-order")), ho, .nil rfl, List.Pairwise.nil, ?_⟩, List.nodup_nil⟩
  show _ ∨ (!w.params.followText "set-order") = true
  cases w.params.followText "set-order" with
  | false => exact .inr rfl
  | true => exact .inl rfl
theorem str_items {its : List Value} {xs : List Str} (h : PyProof.Rows.StrsAre its xs) : ∀ (i : Nat) (v : Value), its[i]? = some v → ∃ x t, xs[i]? = some x ∧ v = .str x t := by
  induction h with
  | nil => intro i v e; simp at e
  | @cons x t vs ns _ ih =>
    intro i v e
    cases i with
    | zero => simp at e; exact ⟨x, t, rfl, e.symm⟩
    | succ i => exact ih i v (by simpa using e)
set_option maxRecDepth 100000 in
set_option maxHeartbeats 3200000 in
/-- set(xs), xs a list of texts -/
theorem set_of_strs {la : Addr} {its : Array Value} {xs : List Str} {Q : Value → Shared → Prop} (hh : A.handled = none) (hl : s.heap.IsList la its) (hi : PyProof.Rows.StrsAre its.toList xs) (hb : xs.length + 1 < scanBound)
    (h : ∀ (h' : Heap) (tk : Nat) (l : List Str), TSet P w h' s.heap.objs.size l → (∀ x, x ∈ l ↔ x ∈ xs) → l.length ≤ xs.length → (∀ b o, s.heap.get? b = some o → h'.get? b = some o) → Q (.ref s.heap.objs.size) { s with heap := h', toks := tk }) :
    wpAny (model P w) A (call (.type "set") [.ref la]) Q E s := by
  have sz : its.size = xs.length := by rw [← StrsAre.len_eq hi, Array.length_toList]
  obtain ⟨c0, r0, mro⟩ := PySem.F.called_set.mro
  have made := PySem.F.called_set.made
  have sub := PySem.F.called_set.sub
  refine wpAny_call (codeAny_of_tree ?_)
  refine (show wpAny _ _ (callAny (.type "set") _) _ _ _ from ?_)
  refine wpAny_pure ⟨Code.quiet_builtin _ (by decide +kernel), codeAny_builtin PySem.F.entry_type_call ?_⟩
  rw [Around.under_plain (weight_type_call_type "set" [.ref la] []) rfl]
  have n1 := PySem.F.called_set.notType
  have n2 := PySem.F.called_set.canCreate
  have n3 := PySem.F.typeCall_set_1 (.ref la)
  repeat (any_goals (first | assumption | wp_step))
  refine codeAny_mono (code_set_led1 (.ref la) (E := E) (Q₁ := fun v t => v = .ref s.heap.objs.size ∧ t = { s with heap := s.heap.push (bareSet w) }) ⟨rfl, rfl⟩) fun r t hr => ?_
  cases r with
  | error e => exact hr
  | ok f =>
    cases f with
    | ret v =>
      obtain ⟨rfl, rfl⟩ := hr
      have at0 : (s.heap.push (bareSet w)).get? s.heap.objs.size = some (bareSet w) := Heap.get?_push_size _ rfl
      have ty0 : Shared.TypeIs { s with heap := s.heap.push (bareSet w) } (.ref s.heap.objs.size) "set" := ⟨_, at0, rfl⟩
      have i1 := PySem.F.called_set.init.lookup
      have i2 := PySem.F.called_set.init.bind (.ref s.heap.objs.size)
      repeat (any_goals (first | assumption | wp_step))
      refine codeAny_mono (codeAny_call_builtin (R := wants (fun r t => r = .none ∧ ∃ h' tk l, t = { s with heap := h', toks := tk } ∧ TSet P w h' s.heap.objs.size l ∧ (∀ x, x ∈ l ↔ x ∈ xs) ∧ l.length ≤ xs.length ∧ ∀ b o, s.heap.get? b = some o → h'.get? b = some o) E)
        PySem.F.called_set.init.plain PySem.F.entry_set_init (check_set_init_1 ty0 ?_)) fun r t hr => ?_
      · obtain ⟨ol, hol, cl, nl, dl⟩ := hl
        obtain ⟨oc, od, oda, os⟩ := ol
        simp only at cl dl
        subst cl; subst dl
        have hol2 : (s.heap.push (bareSet w)).get? la = some { cls := .type "list", dict := od, data := .seq its nl, slots := os } := Heap.get?_push_of_some _ hol
        have f1 := PySem.F.sub_list_set
        have f2 := PySem.F.sub_list_frozenset
        have f3 : (Value.type "list" == Value.type "dict") = false := by decide
        have l2 : (s.heap.push (bareSet w)).IsList la its := ⟨_, hol2, rfl, nl, rfl⟩
        unfold Builtin.«set.__init__» noKeywords Builtin.Frozenset.updateFrom
        generalize hit : pyIter = PI
        wp_walk
        subst hit
        refine wpAny_pyIter_list l2 (wpAny_bind (wpAny_runValue ?_))
        have lS : la < s.heap.objs.size := Heap.lt_size hol
        have hh3 : A.in1.in1.in1.handled = none := by simp [hh]
        have zs : (s.heap.push (bareSet w)).objs.size = s.heap.objs.size + 1 := Heap.size_push ..
        have apart : la ≠ (s.heap.push (bareSet w)).objs.size := by rw [zs]; exact Nat.ne_of_lt (Nat.lt_succ_of_lt lS)
        have out : s.heap.objs.size ∉ [(s.heap.push (bareSet w)).objs.size, la] := by
          rw [zs]
          simp only [List.mem_cons, List.not_mem_nil, or_false, not_or]
          exact ⟨Nat.ne_of_lt (Nat.lt_succ_self _), Nat.ne_of_gt lS⟩
        have at1 : ((s.heap.push (bareSet w)).push { cls := .type "list_iterator", data := .fields #[.ref la, .int 0 0] }).get? s.heap.objs.size = some (bareSet w) := Heap.get?_push_of_some _ at0
        refine put_all (P := P) (w := w) ((Walks.list hh3 _ la apart its).toS) s.heap.objs.size out xs (fun i v e => str_items hi i v (by rw [Array.getElem?_toList]; exact e)) (by rw [sz]; exact hb)
          (its.size - 0) 0 _ [] (by omega) (Nat.zero_le _) ⟨⟨_, Heap.get?_push_size _ rfl, rfl, rfl⟩, l2.push _⟩ (TSet.bare at1) (fun x => by simp) (Nat.le_refl _) fun t l mv T m ln => ?_
        obtain ⟨h', g', d', tk', os'⟩ := t
        obtain rfl : g' = s.gens := mv.gens
        obtain rfl : d' = s.drawn := mv.drawn
        obtain rfl : os' = s.os := mv.os
        refine (show wpAny _ _ (pure _) _ _ _ from wpAny_pure ?_)
        refine (show wpAny _ _ (ret Value.none) _ _ _ from wpAny_pure ⟨rfl, h', tk', l, rfl, T, fun x => ?_, by omega, fun b o e => ?_⟩)
        · rw [m x, sz, List.take_length]
        · have bs := Heap.lt_size e
          refine mv.heap b o ?_ (Heap.get?_push_of_some _ (Heap.get?_push_of_some _ e))
          simp only [List.mem_cons, List.not_mem_nil, or_false, not_or]
          exact ⟨Nat.ne_of_lt bs, by rw [zs]; exact Nat.ne_of_lt (Nat.lt_succ_of_lt bs)⟩
      · cases r with
        | error e => exact hr
        | ok f =>
          cases f with
          | ret v =>
            obtain ⟨rfl, h', tk, l, rfl, T, m, ln, kp⟩ := hr
            repeat (any_goals (first | assumption | wp_step))
            exact h _ _ _ T m ln kp
          | _ => exact hr.elim
    | _ => exact hr.elim
end
end Rk

namespace Rk
open PySem PySem.Spec PyProof.Rows L2 PySem.Froz
/-! ### texts in their order, each once -/
def strLe (a b : Str) : Bool := decide (a.cps.toList ≤ b.cps.toList)
def dedT : List Str → List Str
  | [] => []
  | x :: r => if x ∈ dedT r then dedT r else x :: dedT r
theorem mem_dedT {x : Str} : ∀ {xs : List Str}, x ∈ dedT xs ↔ x ∈ xs
  | [] => Iff.rfl
  | y :: r => by
    unfold dedT
    split
    · rename_i h
      rw [mem_dedT, List.mem_cons]
      exact ⟨.inr, fun q => q.elim (fun e => e ▸ mem_dedT.mp h) id⟩
    · rw [List.mem_cons, List.mem_cons, mem_dedT]
theorem nodup_dedT : ∀ xs : List Str, (dedT xs).Nodup
  | [] => List.nodup_nil
  | y :: r => by
    unfold dedT
    split
    · exact nodup_dedT r
    · rename_i h
      exact List.nodup_cons.mpr ⟨h, nodup_dedT r⟩
def sortT (xs : List Str) : List Str := (dedT xs).mergeSort strLe
theorem strLe_total (a b : Str) : (strLe a b || strLe b a) = true := by
  unfold strLe
  rw [Bool.or_eq_true, decide_eq_true_eq, decide_eq_true_eq]
  exact List.le_total _ _
theorem strLe_trans (a b c : Str) (h : strLe a b = true) (h2 : strLe b c = true) : strLe a c = true := by
  unfold strLe at *
  rw [decide_eq_true_eq] at *
  exact List.le_trans h h2
theorem strLe_anti {a b : Str} (h : strLe a b = true) (h2 : strLe b a = true) : a = b := by
  unfold strLe at *
  rw [decide_eq_true_eq] at *
  have := List.le_antisymm h h2
  obtain ⟨⟨x⟩⟩ := a
  obtain ⟨⟨y⟩⟩ := b
  simp only at this
  rw [this]
theorem sorted_one : ∀ {l m : List Str}, l.Perm m → l.Pairwise (fun a b => strLe a b = true) → m.Pairwise (fun a b => strLe a b = true) → l = m
  | [], m, p, _, _ => (List.nil_perm.mp p).symm
  | x :: l, [], p, _, _ => absurd p.symm (by simp)
  | x :: l, y :: m, p, hl, hm => by
    obtain ⟨a1, a2⟩ := List.pairwise_cons.mp hl
    obtain ⟨b1, b2⟩ := List.pairwise_cons.mp hm
    have exy : x = y := by
      have m1 : x ∈ y :: m := p.mem_iff.mp List.mem_cons_self
      have m2 : y ∈ x :: l := p.mem_iff.mpr List.mem_cons_self
      rcases List.mem_cons.mp m1 with e | h1
      · exact e
      · rcases List.mem_cons.mp m2 with e | h2
        · exact e.symm
        · exact strLe_anti (a1 y h2) (b1 x h1)
    subst exy
    rw [sorted_one ((List.perm_cons x).mp p) a2 b2]
theorem sortT_unique {xs bs : List Str} (hn : bs.Nodup) (hm : ∀ x, x ∈ bs ↔ x ∈ xs) : bs.mergeSort strLe = sortT xs := by
  have p : bs.Perm (dedT xs) := (List.perm_ext_iff_of_nodup hn (nodup_dedT xs)).mpr fun x => (hm x).trans mem_dedT.symm
  exact sorted_one ((List.mergeSort_perm _ _).trans (p.trans (List.mergeSort_perm _ _).symm)) (List.pairwise_mergeSort strLe_trans strLe_total _) (List.pairwise_mergeSort strLe_trans strLe_total _)

section
variable {P : Program} {w : World} {A : Around} {E : Value → Shared → Prop} {s : Shared}
/-- the text that a value is -/
def strIn : Value → Str
  | .str x _ => x
  | _ => Str.empty
theorem sort_ready {h : Heap} {a : Addr} {l : List Str} (T : TSet P w h a l) : ∃ D : SD, h.get? a = some (sObj "set" D) ∧ D.2.2.fits D.1.size = true ∧ D.1.size = l.length ∧ Ris D.2.2.place.toList ∧ (w.params.followText "set-order" = true ∨ D.2.2.led = true) ∧
    (∀ v ∈ D.1.toList.map (·.2), ∃ t, v = .str (strIn v) t) ∧ ((D.1.toList.map (·.2)).map strIn).Nodup ∧ ∀ x, x ∈ (D.1.toList.map (·.2)).map strIn ↔ x ∈ l := by
  obtain ⟨⟨D, h1, F, r, ld⟩, nd⟩ := T
  have is : ∀ e ∈ D.1.toList, ∃ t, e.2 = .str (strIn e.2) t := fun e he => by
    obtain ⟨⟨k, hk, _⟩, _⟩ := F.el e he
    have hk : Value.isStrOf k e.2 = true := hk
    cases hv : e.2 <;> rw [hv] at hk <;> first | (simp [Value.isStrOf] at hk; done) | exact ⟨_, rfl⟩
  have mem : ∀ x, x ∈ (D.1.toList.map (·.2)).map strIn ↔ x ∈ l := fun x => by
    rw [F.mem x, List.map_map, List.mem_map]
    constructor
    · rintro ⟨e, he, rfl⟩
      obtain ⟨t, ht⟩ := is e he
      exact ⟨e, he, by
        show (strKind P w).is (strIn e.2) e.2 = true
        conv => lhs; arg 3; rw [ht]
        exact is_str _ _⟩
    · rintro ⟨e, he, q⟩
      obtain ⟨t, ht⟩ := is e he
      refine ⟨e, he, ?_⟩
      have q : Value.isStrOf x e.2 = true := q
      show strIn e.2 = x
      rw [ht] at q
      simpa [Value.isStrOf] using q
  refine ⟨D, h1, F.fit, F.sz, r, ld, fun v hv => ?_, ?_, mem⟩
  · obtain ⟨e, he, rfl⟩ := List.mem_map.mp hv
    exact is e he
  · have sub : ∀ (l m : List Str), l.Nodup → (∀ x ∈ l, x ∈ m) → m.length = l.length → l.Perm m := by
      intro l
      induction l with
      | nil =>
        intro m _ _ hl
        rw [List.length_eq_zero_iff.mp hl]
      | cons x l ih =>
        intro m hn hs hl
        obtain ⟨n1, n2⟩ := List.nodup_cons.mp hn
        have hx : x ∈ m := hs x List.mem_cons_self
        have p := List.perm_cons_erase hx
        refine ((List.perm_cons x).mpr (ih (m.erase x) n2 (fun y hy => ?_) ?_)).trans p.symm
        · exact (List.mem_erase_of_ne (fun e => n1 (by rw [← e]; exact hy))).mpr (hs y (List.mem_cons_of_mem _ hy))
        · rw [List.length_erase_of_mem hx, hl]
          simp
    have sz : D.1.size = l.length := F.sz
    exact (sub l _ nd (fun x hx => (mem x).mpr hx) (by rw [List.length_map, List.length_map, Array.length_toList, sz])).nodup_iff.mp nd
/-- sorted(a set of texts) -/
theorem sorted_tset {a : Addr} {l : List Str} {Q : Value → Shared → Prop} (T : TSet P w s.heap a l) (hh : A.handled = none) (hb : l.length < scanBound) (hu : A.units + 64 < cLine)
    (hQ : ∀ s' p (out : Array Value) (c : Nat) (ys : List Str), (∀ b o, s.heap.get? b = some o → s'.heap.get? b = some o) → s'.gens = s.gens → s'.os = s.os → s.heap.objs.size ≤ p →
      s'.heap.get? p = some (seqObj "list" out c) → PySem.W.EachIs (fun v b => ∃ t, v = Value.str b t) out.toList ys → (∀ xs : List Str, (∀ x, x ∈ l ↔ x ∈ xs) → ys = sortT xs) → Q (.ref p) s') :
    wpAny (model P w) A (call (.builtin "sorted") [.ref a]) Q E s := by
  obtain ⟨D, h1, fit, sz, r, ld, is, nd, mem⟩ := sort_ready T
  have few : D.1.size < scanBound := by omega
  refine Calls.call_function_entry kind_sorted plain_sorted entry_sorted (args_sorted1 _) ?_
  unfold Builtin.«sorted»
  refine wpAny_bind (m := checkCount "sorted" 1 1 _) (wpAny_pure ?_)
  refine wpAny_bind (collect_set (A := A.in1) (es := D.1) (ep := D.2.1) (t := D.2.2) hh ⟨_, h1, rfl, rfl⟩ fit few r ld fun s1 vs kp sz1 g1 o1 pm => ?_)
  have line : vs.length ≤ sizeLine := by rw [pm.length_eq, List.length_map, Array.length_toList]; exact fits_of_scanBound few
  have vis : ∀ v ∈ vs, ∃ t, v = .str (strIn v) t := fun v hv => is v (pm.mem_iff.mp hv)
  have pk : (vs.map strIn).Perm ((D.1.toList.map (·.2)).map strIn) := pm.map strIn
  refine wpAny_bind (wpAny_newList ?_ line)
  have laid : (s1.heap.push (seqObj "list" vs.toArray 0)).get? s1.heap.objs.size = some (seqObj "list" vs.toArray 0) := Heap.get?_push_size _ rfl
  have each : ∀ us : List Value, (∀ v ∈ us, ∃ t, v = .str (strIn v) t) → PySem.W.EachIs (fun v b => ∃ t, v = Value.str b t) us (us.map strIn) := by
    intro us
    induction us with
    | nil => intro _; exact .nil
    | cons v us ih => intro h; exact .cons (h v List.mem_cons_self) (ih fun u hu => h u (List.mem_cons_of_mem _ hu))
  have e0 := each vs vis
  have e1 : PySem.W.EachIs (fun v b => ∃ as, Reads (s1.heap.push (seqObj "list" vs.toArray 0)) v (PyData.str b) as ∧ s1.heap.objs.size ∉ as) vs (vs.map strIn) := e0.mono fun v b ⟨t, e⟩ => ⟨[], by rw [e]; exact .str _ _, by simp⟩
  refine wpAny_bind (wpAny_holding (PySem.W.list_sort_data (β := Str) (enc := PyData.str) (s := { s1 with heap := s1.heap.push (seqObj "list" vs.toArray 0) }) laid e0 e1 (PySem.W.AllAlike.of fun b b' => rfl) (PySem.W.Sortable.others fun b => ⟨(fun z => nomatch z), (fun xs z => nomatch z)⟩)
    (by rw [List.length_map]; exact line) (fun b hb => by show A.in1.units + 1 + 0 < cLine; simp only [Around.in1]; omega) fun out ln each' => ?_))
  obtain ⟨c, hc⟩ := sortedHeap_at (vs := vs) (out := out.toArray) laid
  rw [PySem.W.dataLe_str (fun b => b)] at each'
  refine wpAny_pure ⟨_, rfl, hQ _ s1.heap.objs.size out.toArray c _ (fun b u e => ?_) g1 o1 sz1 hc each' fun xs hx => sortT_unique (pk.nodup_iff.mpr nd) fun x => by rw [pk.mem_iff, mem x, hx x]⟩
  have q := kp b u e
  have lt := Heap.lt_size q
  show (sortedHeap (s1.heap.push (seqObj "list" vs.toArray 0)) s1.heap.objs.size vs out.toArray).get? b = some u
  rw [sortedHeap_old (Nat.ne_of_lt lt) (by rw [size_push']; exact Nat.lt_succ_of_lt lt)]
  exact Heap.get?_push_of_some _ q
end
end Rk

namespace Rk
open PySem PySem.Spec PyProof.Rows L2
/-! ### sorted(set(e)), e a list of texts -/
def TSetO (P : Program) (w : World) (a : Addr) (l : List Str) : HO := .ext fun h => TSet P w h a l
theorem tsetO_new {P : Program} {w : World} {H : Hp} {h : Heap} {a : Addr} {l : List Str} (T : TSet P w h a l) : ObjOk P w H h a (TSetO P w a l) := by
  obtain ⟨D, h1, _⟩ := id T.ex
  exact ⟨T, ⟨_, h1⟩, fun h2 h3 q k => TSet.keep q fun o e => k o e⟩
theorem each_strs : ∀ {us : List Value} {ys : List Str}, PySem.W.EachIs (fun v b => ∃ t, v = Value.str b t) us ys → StrsAre us ys
  | _, _, .nil => .nil
  | _, _, .cons ⟨t, e⟩ r => by
    subst e
    exact .cons _ t (each_strs r)
section
variable {X : Cx}
def rSetS (X : Cx) : List V → Hp → VK → Prop := fun vs H Q => ∃ (la : Addr) (xs : List Str), vs = [V.ref la] ∧ SqL X.K H la (xs.map V.str) ∧ xs.length + 1 < scanBound ∧
  ∀ a l, H a = none → (∀ x, x ∈ l ↔ x ∈ xs) → l.length ≤ xs.length → Q (.ref a) (upd H a (TSetO X.prog X.w a l))
theorem cr_setS (hc : X.calm = true) : CallR X (.type "set") (rSetS X) := by
  intro pins s σ H vs us Q I r ⟨la, xs, e, hl, hb, q⟩
  subst e
  rw [Vals.ref1 r]
  obtain ⟨its, rv, pl, _⟩ := I.list hl
  refine set_of_strs (P := X.prog) (w := X.w) (xs := xs) (I.ok.hd hc) pl.isList (by simpa using Vals.strs rv) hb fun h' tk l T m ln k => ?_
  exact ⟨.ref s.heap.objs.size, _, I.laid (t' := tk) k (Nat.le_refl _) (tsetO_new T), rfl, q _ l (I.hok.fresh (Nat.le_refl _)) m ln⟩
def rSortS (X : Cx) : List V → Hp → VK → Prop := fun vs H Q => ∃ (a : Addr) (l : List Str), vs = [V.ref a] ∧ H a = some (TSetO X.prog X.w a l) ∧ l.length < scanBound ∧
  ∀ (p : Addr) (ys : List Str), H p = none → (∀ xs : List Str, (∀ x, x ∈ l ↔ x ∈ xs) → ys = sortT xs) → Q (.ref p) (upd H p (.lst (ys.map V.str)))
theorem len_sortT {xs : List Str} : (sortT xs).length ≤ xs.length := by
  unfold sortT
  rw [List.length_mergeSort]
  induction xs with
  | nil => exact Nat.le_refl _
  | cons x r ih =>
    unfold dedT
    split
    · exact Nat.le_succ_of_le ih
    · exact Nat.succ_le_succ ih
theorem cr_sortS (hc : X.calm = true) (hu : X.A.units + 64 < cLine) : CallR X (.builtin "sorted") (rSortS X) := by
  intro pins s σ H vs us Q I r ⟨a, l, e, ha, hb, q⟩
  subst e
  rw [Vals.ref1 r]
  have T : TSet X.prog X.w s.heap a l := (I.hok a _ ha).1
  refine sorted_tset T (I.ok.hd hc) hb hu fun s' p out c ys k g o hp hat each uq => ?_
  have sa := each_strs each
  have ln : (ys.map V.str).length ≤ sizeLine := by
    rw [List.length_map, uq l fun x => Iff.rfl]
    exact Nat.le_trans len_sortT (fits_of_scanBound hb)
  have hn : H p = none := I.hok.fresh hp
  have J : Inv X pins σ (upd H p (.lst (ys.map V.str))) { s with heap := s'.heap, gens := s'.gens, drawn := s'.drawn, toks := s'.toks } :=
    I.call (ch := []) (Un.laid k hp hn) (I.hok.laid k hp ⟨ln, out.toList, c, vals_of_strs sa, hat⟩) (by rw [g]; exact I.bare) (fun _ z => nomatch z)
  have es : s' = { s with heap := s'.heap, gens := s'.gens, drawn := s'.drawn, toks := s'.toks } := by
    obtain ⟨h1, h2, h3, h4, h5⟩ := s'
    obtain rfl : h5 = s.os := o
    rfl
  rw [es]
  exact ⟨.ref p, _, J, rfl, q p ys hn uq⟩
end
def strsAt (S : Store) (d : D) : Option (List Str) := (asL S d).bind strsD
/-- the sorted texts, as data -/
def fSortSet (fe : EvE) : EvE := fun ds S => (fe ds S).bind fun d S1 => match strsAt S1 d with
  | some xs => if xs.length + 1 < scanBound then .ok (.lst ((sortT xs).map D.str)) S1 else .bad
  | none => .bad
/-- the sorted texts, a list that may change -/
def fSortSetN (fe : EvE) : EvE := fun ds S => (fe ds S).bind fun d S1 => match strsAt S1 d with
  | some xs => if xs.length + 1 < scanBound then .ok (.ref S1.length) (S1 ++ [.lst ((sortT xs).map D.str)]) else .bad
  | none => .bad
section
variable {Γ : Gm} {X : Cx} {p p2 q pos : Pos} {e : Expr} {fe : EvE}
theorem rvs_strs {β : Bt} {H : Hp} : ∀ ys : List Str, RVs Γ β H (ys.map V.str) (ys.map D.str)
  | [] => .nil
  | y :: r => .cons (.str y) (rvs_strs r)
theorem tSort_of {σ : L2.St} {H : Hp} {Q : VK} {β : Bt} {ds : Env} {S : Store} {S' : Store} {d : D} {xs : List Str} (hK : X.K = Γ.K) (rep : Rep Γ β ds S σ H) (e : fe ds S = .ok d S') (hx : strsAt S' d = some xs) (hb : xs.length + 1 < scanBound)
    (h : ∀ β1 H1, Grow β H β1 H1 → RepSt Γ β1 S' H1 → ∀ p, H1 p = none → Q (.ref p) (upd H1 p (.lst ((sortT xs).map V.str)))) : tCB (rSortS X) (tCons (tCB (rSetS X) (tCons (tF Γ fe) tNil)) tNil) σ H Q := by
  refine ⟨β, ds, S, d, S', rep, e, fun β1 v H1 g r rv => ?_⟩
  obtain ⟨ys, hy, hz⟩ := Option.bind_eq_some_iff.mp hx
  obtain ⟨a, vs, rfl, hs, q⟩ := asL_of r rv hy
  rw [strsD_of q hz] at hs
  refine ⟨a, xs, rfl, by rw [hK]; exact hs, hb, fun a2 l hn m ln => ?_⟩
  refine ⟨a2, l, rfl, upd_same, by omega, fun p2 zs hp uq => ?_⟩
  rw [uq xs m]
  exact h β1 _ (g.trans (grow_new r hn)) (r.new hn) p2 hp
theorem pf_sortSet (hK : X.K = Γ.K) (hc : X.calm = true) (hu : X.A.units + 64 < cLine) (g1 : Gl X "sorted") (m1 : X.mg "sorted" = none) (g2 : Gl X "set") (m2 : X.mg "set" = none) (he : PE X e (tF Γ fe))
    (s1 : starEach [e] X.env = (false, eval e X.env) :: starEach [] X.env := by rfl) (s2 : starEach [.Call (.Name "set" p2) [e] [] q] X.env = (false, eval (.Call (.Name "set" p2) [e] [] q) X.env) :: starEach [] X.env := by rfl) :
    PE X (.Call (.Name "sorted" p) [.Call (.Name "set" p2) [e] [] q] [] pos) (tF Γ (fSortSet fe)) := by
  refine pe_imp (pe_callB (cr_sortS hc hu) g1 m1 boot_sorted (pa_cons (pe_callTy (cr_setS hc) g2 m2 boot_set (pa_cons he pa_nil s1) (he := s1)) pa_nil s2) (he := s2)) fun σ H Q ⟨β, ds, S, d, S', rep, ee, k⟩ => ?_
  obtain ⟨d1, S1, e1, ee⟩ := R.bind_inv ee
  split at ee
  case h_2 => cases ee
  rename_i xs hx
  split at ee
  case isFalse => cases ee
  rename_i hb
  cases ee
  exact tSort_of hK rep e1 hx hb fun β1 H1 g r p hp => (k.from g).lst r hp (rvs_strs _)
theorem pf_sortSetN (hK : X.K = Γ.K) (hc : X.calm = true) (hu : X.A.units + 64 < cLine) (g1 : Gl X "sorted") (m1 : X.mg "sorted" = none) (g2 : Gl X "set") (m2 : X.mg "set" = none) (he : PE X e (tF Γ fe))
    (s1 : starEach [e] X.env = (false, eval e X.env) :: starEach [] X.env := by rfl) (s2 : starEach [.Call (.Name "set" p2) [e] [] q] X.env = (false, eval (.Call (.Name "set" p2) [e] [] q) X.env) :: starEach [] X.env := by rfl) :
    PE X (.Call (.Name "sorted" p) [.Call (.Name "set" p2) [e] [] q] [] pos) (tF Γ (fSortSetN fe)) := by
  refine pe_imp (pe_callB (cr_sortS hc hu) g1 m1 boot_sorted (pa_cons (pe_callTy (cr_setS hc) g2 m2 boot_set (pa_cons he pa_nil s1) (he := s1)) pa_nil s2) (he := s2)) fun σ H Q ⟨β, ds, S, d, S', rep, ee, k⟩ => ?_
  obtain ⟨d1, S1, e1, ee⟩ := R.bind_inv ee
  split at ee
  case h_2 => cases ee
  rename_i xs hx
  split at ee
  case isFalse => cases ee
  rename_i hb
  cases ee
  exact tSort_of hK rep e1 hx hb fun β1 H1 g r p hp => (k.from g).cell r hp (rvs_strs _)
end
end Rk

namespace Rk
open PySem PySem.Spec PyProof.Rows L2
/-! ### instances: cells of the store with a class and fields -/
/-- the fields of the instance n of class c -/
def insAt (S : Store) (c n : Nat) : Option (List (Str × D)) := match S[n]? with
  | some (.ins c' fs) => if c' = c then some fs else none
  | _ => none
theorem insAt_inv {S : Store} {c n : Nat} {fs : List (Str × D)} (h : insAt S c n = some fs) : S[n]? = some (.ins c fs) := by
  unfold insAt at h
  split at h
  · rename_i c' fs' e
    split at h
    · rename_i q
      cases h
      rw [e, q]
    · cases h
  · cases h
def putFD (f : Str) (d : D) : List (Str × D) → List (Str × D)
  | [] => [(f, d)]
  | (g, x) :: r => if g = f then (g, d) :: r else (g, x) :: putFD f d r
section
variable {Γ : Gm} {β : Bt} {H : Hp}
/-- fields beside fields -/
def Flds (Γ : Gm) (β : Bt) (H : Hp) (vs : List (Str × V)) (fs : List (Str × D)) : Prop := vs.map (·.1) = fs.map (·.1) ∧ RVs Γ β H (vs.map (·.2)) (fs.map (·.2))
theorem flds_lookup {f : Str} : ∀ {vs : List (Str × V)} {fs : List (Str × D)}, Flds Γ β H vs fs → (vs.lookup f = none ∧ fs.lookup f = none) ∨ ∃ v d, vs.lookup f = some v ∧ fs.lookup f = some d ∧ RV Γ β H v d
  | [], [], _ => .inl ⟨rfl, rfl⟩
  | [], _ :: _, h => by cases h.1
  | _ :: _, [], h => by cases h.1
  | (a, v) :: vs, (b, d) :: fs, ⟨h1, h2⟩ => by
    simp only [List.map_cons, List.cons.injEq] at h1
    obtain ⟨rfl, h1⟩ := h1
    cases h2 with
    | cons r h2 =>
      simp only [List.lookup_cons]
      by_cases e : f = a
      · subst e
        simp only [beq_self_eq_true]
        exact .inr ⟨v, d, rfl, rfl, r⟩
      · rw [show (f == a) = false from by simpa using e]
        exact flds_lookup ⟨h1, h2⟩
theorem flds_put {f : Str} {v : V} {d : D} (r : RV Γ β H v d) : ∀ {vs : List (Str × V)} {fs : List (Str × D)}, Flds Γ β H vs fs → Flds Γ β H (putF f v vs) (putFD f d fs)
  | [], [], _ => ⟨rfl, .cons r .nil⟩
  | [], _ :: _, h => by cases h.1
  | _ :: _, [], h => by cases h.1
  | (a, x) :: vs, (b, y) :: fs, ⟨h1, h2⟩ => by
    simp only [List.map_cons, List.cons.injEq] at h1
    obtain ⟨rfl, h1⟩ := h1
    cases h2 with
    | cons q h2 =>
      unfold putF putFD
      split
      · exact ⟨by simp [h1], .cons r h2⟩
      · obtain ⟨a1, a2⟩ := flds_put r (f := f) ⟨h1, h2⟩
        exact ⟨by simp [a1], .cons q a2⟩
theorem Flds.mono {β' : Bt} {H' : Hp} (g : Grow β H β' H') {vs : List (Str × V)} {fs : List (Str × D)} (h : Flds Γ β H vs fs) : Flds Γ β' H' vs fs := ⟨h.1, h.2.mono g⟩
theorem Flds.length {vs : List (Str × V)} {fs : List (Str × D)} (h : Flds Γ β H vs fs) : vs.length = fs.length := by
  have := congrArg List.length h.1
  simpa using this
theorem RepSt.insOf {S : Store} (r : RepSt Γ β S H) {n c : Nat} {a : Addr} {fs : List (Str × D)} (ha : β.c[n]? = some a) (h : S[n]? = some (.ins c fs)) : ∃ dx vs, H a = some (.ins (Γ.ca c) dx vs) ∧ H dx = some (.own a) ∧ Flds Γ β H vs fs := by
  obtain ⟨dx, vs, h1, h2, h3, h4⟩ := r.cellOf ha h
  exact ⟨dx, vs, h1, h2, h3, h4⟩
/-- a field is written -/
theorem K1w {S : Store} {n c : Nat} {a dx : Addr} {fs : List (Str × D)} {vs : List (Str × V)} {f : Str} {v : V} {d : D} (r : RepSt Γ β S H) (ha : β.c[n]? = some a) (h2 : H dx = some (.own a)) (hf : Flds Γ β H vs fs) (rv : RV Γ β H v d) :
    Grow β H β (upd H a (.ins (Γ.ca c) dx (putF f v vs))) ∧ RepSt Γ β (S.set n (.ins c (putFD f d fs))) (upd H a (.ins (Γ.ca c) dx (putF f v vs))) := by
  have hm := List.mem_of_getElem? ha
  have gw := grow_write (o := .ins (Γ.ca c) dx (putF f v vs)) r hm
  have hd : dx ≠ a := fun e => by
    obtain ⟨o, e1, e2⟩ := r.there hm
    rw [← e, h2] at e1
    exact e2.own a (Option.some.inj e1).symm
  have q := (flds_put (f := f) rv hf).mono gw
  exact ⟨gw, r.write ha ⟨dx, putF f v vs, upd_same, by rw [upd_ne hd]; exact h2, q.1, q.2⟩⟩
end
/-- o.f of an instance of one of the classes L -/
def fFld (L : List Nat) (f : Str) (o : EvE) : EvE := fun ds S => (o ds S).bind fun x S1 => match x with
  | .ref n => match S1[n]? with
    | some (.ins c fs) => if c ∈ L then (match fs.lookup f with
      | some d => .ok d S1
      | none => .bad) else .bad
    | _ => .bad
  | _ => .bad
/-- o.f = v -/
def sFldS (L : List Nat) (f : Str) (o v : EvE) : EvS := fun ds S => (v ds S).go fun y S1 => (o ds S1).go fun x S2 => match x with
  | .ref n => match S2[n]? with
    | some (.ins c fs) => if c ∈ L ∧ fs.length < 1000 then .nx ds (S2.set n (.ins c (putFD f y fs))) else .bad
    | _ => .bad
  | _ => .bad
/-- o.f += v, of whole numbers -/
def sFldAdd (L : List Nat) (f : Str) (o v : EvE) : EvS := fun ds S => (o ds S).go fun x S1 => match x with
  | .ref n => match S1[n]? with
    | some (.ins c fs) => if c ∈ L then (match fs.lookup f with
      | some (.int i) => (v ds S1).go fun y S2 => match y, S2[n]? with
        | .int j, some (.ins c' fs') => if c' = c ∧ fs'.length < 1000 then .nx ds (S2.set n (.ins c (putFD f (.int (i + j)) fs'))) else .bad
        | _, _ => .bad
      | _ => .bad) else .bad
    | _ => .bad
  | _ => .bad
section
variable {Γ : Gm} {X : Cx} {o e value : Expr} {f : Str} {pos pos' tpos : Pos} {fo fv : EvE} {L : List Nat}
theorem pf_fld (hL : ∀ c ∈ L, Cls X.K (Γ.ca c) ∧ NoAttr X.K (Γ.ca c) f) (he : PE X o (tF Γ fo)) (hb : attributeBase o f X.env (eval o X.env) = eval o X.env := by rfl) : PE X (.Attribute o f pos) (tF Γ (fFld L f fo)) := by
  refine pe_imp (pe_fld he hb) fun σ H Q ⟨β, ds, S, d, S', rep, ee, k⟩ => ?_
  obtain ⟨x, S1, e1, ee⟩ := R.bind_inv ee
  split at ee
  case h_2 => cases ee
  rename_i n
  split at ee
  case h_2 => cases ee
  rename_i c fs hn
  split at ee
  case isFalse => cases ee
  rename_i hc
  split at ee
  case h_2 => cases ee
  rename_i d' hd
  cases ee
  refine ⟨β, ds, S, _, _, rep, e1, fun β1 v H1 g r rv => ?_⟩
  cases rv with
  | ref ha =>
    obtain ⟨dx, vs, h1, h2, hf⟩ := r.insOf ha hn
    rcases flds_lookup (f := f) hf with ⟨_, q⟩ | ⟨v', d2, q1, q2, q3⟩
    · rw [q] at hd; cases hd
    · rw [hd] at q2
      cases q2
      exact ⟨_, _, dx, vs, v', rfl, h1, (hL c hc).1, (hL c hc).2, q1, (k.from g).self r q3⟩
theorem pf_fldS (hL : ∀ c ∈ L, Cls X.K (Γ.ca c) ∧ NoAttr X.K (Γ.ca c) f) (ho : PE X o (tF Γ fo)) (hv : PE X value (tF Γ fv)) (hs : swapsWith value (some (.Attribute o f pos')) pos.line X.env = pure false := by rfl) :
    PS X (.Assign [.Attribute o f pos'] value pos) (tFS Γ (sFldS L f fo fv)) := by
  refine ps_imp (ps_fld ho hv hs) fun D σ H h => ?_
  obtain ⟨β, ds, S, rep, h⟩ := h
  obtain ⟨y, S1, e1, h⟩ := go_inv h
  obtain ⟨x, S2, e2, h⟩ := go_inv h
  refine ⟨β, ds, S, y, S1, rep, e1, fun β1 v H1 g1 r1 rv1 => ⟨β1, ds, S1, x, S2, rep.go g1 r1, e2, fun β2 u H2 g2 r2 rv2 => ?_⟩⟩
  split at h
  case h_2 => exact h.elim
  rename_i n
  split at h
  case h_2 => exact h.elim
  rename_i c fs hn
  split at h
  case isFalse => exact h.elim
  rename_i hc
  cases rv2 with
  | @ref _ a ha =>
    obtain ⟨dx, vs, h1, h2, hf⟩ := r2.insOf ha hn
    obtain ⟨gw, rw'⟩ := K1w (f := f) r2 ha h2 hf (rv1.mono g2)
    have gg := (g1.trans g2).trans gw
    exact ⟨a, _, dx, vs, rfl, h1, (hL c hc.1).1, (hL c hc.1).2, by rw [hf.length]; exact hc.2, h β2 σ _ gg ⟨rw', rep.env.mono gg⟩⟩
theorem pf_fldAdd (hL : ∀ c ∈ L, Cls X.K (Γ.ca c) ∧ NoAttr X.K (Γ.ca c) f) (ho : PE X o (tF Γ fo)) (hv : PE X value (tF Γ fv)) : PS X (.AugAssign (.Attribute o f tpos) .Add value pos) (tFS Γ (sFldAdd L f fo fv)) := by
  refine ps_imp (ps_fldaug ho hv in_add) fun D σ H h => ?_
  obtain ⟨β, ds, S, rep, h⟩ := h
  obtain ⟨x, S1, e1, h⟩ := go_inv h
  refine ⟨β, ds, S, x, S1, rep, e1, fun β1 v H1 g1 r1 rv1 => ?_⟩
  split at h
  case h_2 => exact h.elim
  rename_i n
  split at h
  case h_2 => exact h.elim
  rename_i c fs hn
  split at h
  case isFalse => exact h.elim
  rename_i hc
  split at h
  case h_2 => exact h.elim
  rename_i i hi
  obtain ⟨y, S2, e2, h⟩ := go_inv h
  split at h
  case h_2 => exact h.elim
  rename_i j c' fs' hn'
  split at h
  case isFalse => exact h.elim
  rename_i hc'
  obtain ⟨rfl, hl⟩ := hc'
  cases rv1 with
  | @ref _ a ha =>
    obtain ⟨dx, vs, h1, h2, hf⟩ := r1.insOf ha hn
    rcases flds_lookup (f := f) hf with ⟨_, q⟩ | ⟨v', d2, q1, q2, q3⟩
    · rw [q] at hi; cases hi
    · rw [hi] at q2
      cases q2
      cases q3
      refine ⟨a, _, dx, vs, .int i, rfl, h1, (hL _ hc).1, (hL _ hc).2, q1, β1, ds, S1, _, S2, rep.go g1 r1, e2, fun β2 u H2 g2 r2 rv2 => ⟨i, j, rfl, rv_int rv2, ?_⟩⟩
      have ha2 := g2.get ha
      obtain ⟨dx', vs', h1', h2', hf'⟩ := r2.insOf ha2 hn'
      obtain ⟨gw, rw'⟩ := K1w (f := f) r2 ha2 h2' hf' (.int (i + j))
      have gg := (g1.trans g2).trans gw
      exact ⟨dx', vs', h1', by rw [hf'.length]; exact hl, h β2 σ _ gg ⟨rw', rep.env.mono gg⟩⟩
end

/-! ### methods, and making -/
/-- o.m(..), o an instance of class c -/
def fMeth (c : Nat) (mn : Str) (m : EvC) (o : EvE) (g : EvA) : EvE := fun ds S => (o ds S).bind fun x S1 => match x with
  | .ref n => match S1[n]? with
    | some (.ins c' fs) => if c' = c ∧ fs.lookup mn = none then (g ds S1).bind fun xs S2 => m (x :: xs) S2 else .bad
    | _ => .bad
  | _ => .bad
section
variable {Γ : Gm} {X : Cx} {CX : CXT} {k n c : Nat} {f : Addr} {fd : FuncData} {ps : List Str} {E : XK} {mn x : Str} {p pos apos : Pos} {o e : Expr} {es : List Expr} {fo : EvE} {g : EvA} {m : EvC}
theorem tMeth_of (hl : ∀ xs S d S', m xs S = .ok d S' → xs.length = n) {σ : L2.St} {H : Hp} {Q : VK} (h : tF Γ (fMeth c mn m fo g) σ H Q) : tMeth (Γ.ca c) mn (spF Γ n m) [] E (tF Γ fo) (tFA Γ g) σ H Q := by
  obtain ⟨β, ds, S, d, S', rep, ee, k⟩ := h
  obtain ⟨x, S1, e1, ee⟩ := R.bind_inv ee
  refine ⟨β, ds, S, x, S1, rep, e1, fun β1 v H1 g1 r1 rv => ?_⟩
  split at ee
  case h_2 => cases ee
  rename_i i
  split at ee
  case h_2 => cases ee
  rename_i c' fs hn
  split at ee
  case isFalse => cases ee
  rename_i hc
  have e9 := ee
  obtain ⟨rfl, hlk⟩ := hc
  obtain ⟨xs, S2, e2, e9⟩ := R.bind_inv e9
  cases rv with
  | @ref _ a ha =>
    obtain ⟨dx, vs, h1, h2, hf⟩ := r1.insOf ha hn
    have hv : vs.lookup mn = none := by
      rcases flds_lookup (f := mn) hf with ⟨q, _⟩ | ⟨v', d2, q1, q2, q3⟩
      · exact q
      · rw [q2] at hlk; cases hlk
    refine ⟨a, dx, vs, rfl, h1, hv, β1, ds, S1, xs, S2, rep.go g1 r1, e2, fun β2 us H2 g2 r2 rvs => ?_⟩
    have rr : RVs Γ β2 H2 (V.ref a :: (us ++ [])) (.ref i :: xs) := by
      rw [List.append_nil]
      exact .cons (.ref (g2.get ha)) rvs
    exact ⟨by rw [rr.length]; exact hl _ _ _ _ e9, β2, S2, _, d, S', r2, rr, e9, k.from (g1.trans g2)⟩
theorem pf_meth {pl : Sem Bool} (he : PE X o (tF Γ fo)) (cl : Cls X.K (Γ.ca c)) (hm : Meth X.K (Γ.ca c) mn f) (F : FnG X.prog X.w X.K X.mg X.base CX k f fd ps (spF Γ n m)) (hl : ∀ xs S d S', m xs S = .ok d S' → xs.length = n) (hgd : X.A.guards = some []) (hr : Room k X.A) (hb : Binds X.K fd ps []) (hx : Passes CX X E) (ha : PA X (e :: es) (tFA Γ g))
    (hst : starEach (e :: es) X.env = (false, eval e X.env) :: starEach es X.env := by rfl) (hpl : (backTo pos (starEach es X.env)).any (·.1) = false := by rfl)
    (ht : eval (.Call (.Attribute o mn apos) (e :: es) [] pos) X.env = (do
      let ov ← eval o X.env
      standAt apos.atName
      let (f, first) ← holding [ov] (getMethod ov mn pl)
      callWith pos f first (backTo pos (starEach (e :: es) X.env)) (backToKw pos (keywordEach [] X.env))) := by rfl) :
    PE X (.Call (.Attribute o mn apos) (e :: es) [] pos) (tF Γ (fMeth c mn m fo g)) := by
  refine ⟨fun pins s σ H Q I h => ?_⟩
  refine PySem.W.methodCall_KW (pl := pl) (thn (he.run pins s σ H _ I (tMeth_of (E := E) hl h)) fun u s1 ⟨x, H1, I1, rx, a, dx, fs, ex, ea, l, q⟩ => ?_) ht
  subst ex
  obtain rfl : u = Value.ref a := rx
  refine getmeth_ok I1 ea cl hm l ?_
  refine PySem.W.callWith_K (first := [.ref a]) (h₀ := X.base) I.ok.mod.kin hm.kp (thn (ha.run pos pins s1 σ H1 _ I1 q) fun us s2 ⟨vs, H2, I2, r, q2⟩ => ⟨I2.kIn, ?_⟩) hst hpl
  exact run_g (args := ⟨.ref a :: us, []⟩) F hgd hr (fun hl => by have := hb s2 (.ref a :: us) I2.kIn (by simpa using hl); simpa using this) hx I2 (show Vals (V.ref a :: vs) (Value.ref a :: us) from .cons rfl r) (by simpa using q2)
theorem pf_meth0 {pl : Sem Bool} (he : PE X o (tF Γ fo)) (cl : Cls X.K (Γ.ca c)) (hm : Meth X.K (Γ.ca c) mn f) (F : FnG X.prog X.w X.K X.mg X.base CX k f fd ps (spF Γ n m)) (hl : ∀ xs S d S', m xs S = .ok d S' → xs.length = n) (hgd : X.A.guards = some []) (hr : Room k X.A) (hb : Binds X.K fd ps []) (hx : Passes CX X E)
    (ht : eval (.Call (.Attribute o mn apos) [] [] pos) X.env = (do
      let ov ← eval o X.env
      standAt apos.atName
      let (f, first) ← holding [ov] (getMethod ov mn pl)
      callWith pos f first (backTo pos (starEach [] X.env)) (backToKw pos (keywordEach [] X.env))) := by rfl) :
    PE X (.Call (.Attribute o mn apos) [] [] pos) (tF Γ (fMeth c mn m fo fNil)) := by
  refine ⟨fun pins s σ H Q I h => ?_⟩
  refine PySem.W.methodCall_KW (pl := pl) (thn (he.run pins s σ H _ I (tMeth_of (E := E) hl h)) fun u s1 ⟨x, H1, I1, rx, a, dx, fs, ex, ea, l, q⟩ => ?_) ht
  subst ex
  obtain rfl : u = Value.ref a := rx
  refine getmeth_ok I1 ea cl hm l ?_
  obtain ⟨β, ds, S, xs, S', rep, e1, q⟩ := q
  cases e1
  have q2 := q β [] H1 (.refl β H1) rep.st .nil
  exact PySem.W.callWith_K0 (first := [.ref a]) I1.kIn hm.kp (run_g (args := ⟨[.ref a], []⟩) F hgd hr (fun hl => by have := hb s1 [.ref a] I1.kIn (by simpa using hl); simpa using this) hx I1 (show Vals [V.ref a] [Value.ref a] from .cons rfl .nil) (by simpa using q2))
/-- C(..): __init__ is m -/
def fMake (c : Nat) (m : EvC) (g : EvA) : EvE := fun ds S => (g ds S).bind fun xs S1 => (m (.ref S1.length :: xs) (S1 ++ [.ins c []])).bind fun d S2 => if isNonD d = true then .ok (.ref S1.length) S2 else .bad
theorem grow_ins {β : Bt} {H : Hp} {S : Store} (r : RepSt Γ β S H) {a dx : Addr} (h1 : H a = none) (h2 : H dx = none) (h3 : dx ≠ a) :
    Grow β H (β.snoc a) (upd (upd H dx (.own a)) a (.ins (Γ.ca c) dx [])) ∧ RepSt Γ (β.snoc a) (S ++ [.ins c []]) (upd (upd H dx (.own a)) a (.ins (Γ.ca c) dx [])) := by
  have r1 := r.new (o := .own a) h2
  have g1 := grow_new (o := .own a) r h2
  have h1' : upd H dx (.own a) a = none := by rw [upd_ne (Ne.symm h3)]; exact h1
  exact ⟨g1.trans (grow_cell r1 h1'), r1.cell h1' ⟨dx, [], upd_same, by rw [upd_ne h3, upd_same], rfl, .nil⟩⟩
theorem tMake_of (hl : ∀ xs S d S', m xs S = .ok d S' → xs.length = n) {σ : L2.St} {H : Hp} {Q : VK} (h : tF Γ (fMake c m g) σ H Q) : tMake (Γ.ca c) (spF Γ n m) [] E (tFA Γ g) σ H Q := by
  obtain ⟨β, ds, S, d, S', rep, ee, k⟩ := h
  obtain ⟨xs, S1, e1, ee⟩ := R.bind_inv ee
  obtain ⟨y, S2, e2, ee⟩ := R.bind_inv ee
  split at ee
  case isFalse => cases ee
  rename_i hy
  cases ee
  refine ⟨β, ds, S, xs, S1, rep, e1, fun β1 vs H1 g1 r1 rvs a dx h1 h2 h3 => ?_⟩
  obtain ⟨gi, ri⟩ := grow_ins (c := c) r1 h1 h2 h3
  have hn : (β1.snoc a).c[S1.length]? = some a := by
    show (β1.c ++ [a])[S1.length]? = some a
    rw [r1.len]; simp
  have rr : RVs Γ (β1.snoc a) (upd (upd H1 dx (.own a)) a (.ins (Γ.ca c) dx [])) (V.ref a :: (vs ++ [])) (.ref S1.length :: xs) := by
    rw [List.append_nil]
    exact .cons (.ref hn) (rvs.mono gi)
  refine ⟨by rw [rr.length]; exact hl _ _ _ _ e2, _, _, _, y, _, ri, rr, e2, fun β2 v H2 g2 r2 rv => ⟨?_, ?_⟩⟩
  · have := rv_isNon rv
    rw [hy] at this
    exact of_decide_eq_true this
  · exact k β2 _ H2 ((g1.trans gi).trans g2) r2 (.ref (g2.get hn))
theorem run_makeG {pins : List (Addr × Obj)} {σ : L2.St} {H : Hp} {s : Shared} {Q : VK} {C : Addr} {sp : Sp} {us : List Value} {vs : List V} (M : Mk X.K C f) (F : FnG X.prog X.w X.K X.mg X.base CX k f fd ps sp) (hgd : X.A.guards = some []) (hr : Room (k + 1) X.A) (hb : Binds X.K fd ps [])
    (hx : Passes CX X E) (I : Inv X pins σ H s) (r : Vals vs us)
    (h : ∀ x dx, H x = none → H dx = none → dx ≠ x → sp (.ref x :: (vs ++ [])) (upd (upd H dx (.own x)) x (.ins C dx [])) (fun v H2 => v = .non ∧ Q (.ref x) H2) E) :
    wpAny (model X.prog X.w) X.A (call (.ref C) us) (EP X pins σ Q) X.xe s := by
  have hq := h (s.heap.objs.size + 1) s.heap.objs.size (I.hok.fresh (Nat.le_succ _)) (I.hok.fresh (Nat.le_refl _)) (Nat.ne_of_lt (Nat.lt_succ_self _))
  rw [List.append_nil] at hq
  have I2 := Inv.made (C := C) I
  have r2 : Vals (V.ref (s.heap.objs.size + 1) :: vs) (Value.ref (s.heap.objs.size + 1) :: us) := .cons rfl r
  have hl : (Value.ref (s.heap.objs.size + 1) :: us).length = ps.length := by
    have e := r2.length
    rw [F.len _ _ _ _ hq] at e
    exact e.symm
  have bd := hb _ (Value.ref (s.heap.objs.size + 1) :: us) I2.kIn (by simpa using hl)
  rw [List.append_nil] at bd
  refine wpAny_call (make_map (f := f) I.kIn M.makes M.init (beq_iff_eq.mp M.fn) (codeAny_mono (F.run _ X.stack _ _ ⟨Value.ref (s.heap.objs.size + 1) :: us, []⟩ _ _ _ E hgd (hr.make C us []) (I2.env0.make C us []) bd r2 hq) fun o s' hq' => ?_))
  match o, hq' with
  | .error e, hq' => exact hx pins σ _ _ e s' I2 hq'
  | .ok (.ret u), hq' =>
    obtain ⟨v, H', I3, rv, ev, q3⟩ := I2.after hq'
    subst ev
    exact ⟨rv, ⟨V.ref (s.heap.objs.size + 1), H', I3, rfl, q3⟩⟩
theorem pf_make (M : Mk X.K (Γ.ca c) f) (F : FnG X.prog X.w X.K X.mg X.base CX k f fd ps (spF Γ n m)) (hl : ∀ xs S d S', m xs S = .ok d S' → xs.length = n) (hgd : X.A.guards = some []) (hr : Room (k + 1) X.A) (hg : Gl X x) (hm : X.mg x = some (.ref (Γ.ca c))) (hb : Binds X.K fd ps []) (hx : Passes CX X E)
    (ha : PA X (e :: es) (tFA Γ g)) (hdb : (x == ("__debug__" : Str)) = false := by decide) (he : starEach (e :: es) X.env = (false, eval e X.env) :: starEach es X.env := by rfl) (hpl : (backTo pos (starEach es X.env)).any (·.1) = false := by rfl) :
    PE X (.Call (.Name x p) (e :: es) [] pos) (tF Γ (fMake c m g)) := by
  refine ⟨fun pins s σ H Q I h => wpAny_Call_Name_kw (ld_glob I hg hm ?_ hdb)⟩
  refine PySem.W.callWith_K (h₀ := X.base) I.ok.mod.kin M.kp (thn (ha.run pos pins s σ H _ I (tMake_of (E := E) hl h)) fun us s1 ⟨vs, H1, I1, r, q⟩ => ⟨I1.kIn, ?_⟩) he hpl
  exact run_makeG M F hgd hr hb hx I1 r q
theorem pf_make0 (M : Mk X.K (Γ.ca c) f) (F : FnG X.prog X.w X.K X.mg X.base CX k f fd ps (spF Γ n m)) (hl : ∀ xs S d S', m xs S = .ok d S' → xs.length = n) (hgd : X.A.guards = some []) (hr : Room (k + 1) X.A) (hg : Gl X x) (hm : X.mg x = some (.ref (Γ.ca c))) (hb : Binds X.K fd ps []) (hx : Passes CX X E)
    (hdb : (x == ("__debug__" : Str)) = false := by decide) : PE X (.Call (.Name x p) [] [] pos) (tF Γ (fMake c m fNil)) := by
  refine ⟨fun pins s σ H Q I h => wpAny_Call_Name_kw (ld_glob I hg hm ?_ hdb)⟩
  obtain ⟨β, ds, S, xs, S', rep, e1, q⟩ := tMake_of (E := E) hl h
  cases e1
  have q2 := q β [] H (.refl β H) rep.st .nil
  exact PySem.W.callWith_K0 I.kIn M.kp (run_makeG (us := []) (vs := []) M F hgd hr hb hx I .nil q2)
end
end Rk

namespace Rk
open PySem PySem.Spec PyProof.Rows L2
/-! ### split, startswith, int of a text; + that makes a cell -/
theorem rvs_strD {Γ : Gm} {β : Bt} {H : Hp} : ∀ ys : List Str, RVs Γ β H (ys.map V.str) (ys.map D.str)
  | [] => .nil
  | y :: r => .cons (.str y) (rvs_strD r)
def splM : EvM := fun x xs S => match x, xs with
  | .str a, [.str b] => if (b.length == 0) = false ∧ a.length + 2 ≤ sizeLine then .ok (.lst ((Txt.split a b).map D.str)) S else .bad
  | _, _ => .bad
def stwM : EvM := fun x xs S => match x, xs with
  | .str a, [.str b] => .ok (.bl (Txt.startswith a b)) S
  | _, _ => .bad
def intS : EvC := fun xs S => match xs with
  | [.str a] => match PySem.intText? a with
    | some n => if a.length ≤ 640 then .ok (.int n) S else .bad
    | none => .bad
  | xs => intC xs S
/-- a + b of lists, a cell -/
def addN (x y : D) (S : Store) : R D := match asX S x, asX S y with
  | some a, some b => if a.length + b.length ≤ sizeLine then .ok (.ref S.length) (S ++ [.lst (a ++ b)]) else .bad
  | _, _ => .bad
section
variable {Γ : Gm} {X : Cx}
theorem md_split : MtR X "str.split" (rFM Γ splM) := by
  intro pins s σ H x vs v us Q I rx rus ⟨β, S, dx, xs, d, S', r, rv, rvs, e, k⟩
  unfold splM at e
  split at e
  case h_2 => cases e
  rename_i a b
  split at e
  case isFalse => cases e
  rename_i h
  cases e
  obtain ⟨w, rfl, r1⟩ := rvs1 rvs
  cases rv_str rv
  cases rv_str r1
  exact mt_split pins s σ H _ _ v us Q I rx rus ⟨a, b, rfl, rfl, h.1, h.2, fun p hp => k.lst r hp (rvs_strD _)⟩
theorem md_startswith : MtR X "str.startswith" (rFM Γ stwM) := by
  intro pins s σ H x vs v us Q I rx rus ⟨β, S, dx, xs, d, S', r, rv, rvs, e, k⟩
  unfold stwM at e
  split at e
  case h_2 => cases e
  rename_i a b
  cases e
  obtain ⟨w, rfl, r1⟩ := rvs1 rvs
  cases rv_str rv
  cases rv_str r1
  exact mt_startswith pins s σ H _ _ v us Q I rx rus ⟨a, b, rfl, rfl, k.self r (.bl _)⟩
theorem cr_intS : CallR X (.type "int") (rFC Γ intS) := by
  intro pins s σ H vs us Q I rus ⟨β, S, xs, d, S', r, rv, e, k⟩
  unfold intS at e
  split at e
  · rename_i a
    split at e
    case h_2 => cases e
    rename_i n hn
    split at e
    case isFalse => cases e
    rename_i hl
    cases e
    obtain ⟨v, rfl, r1⟩ := rvs1 rv
    cases rv_str r1
    exact call_int_str pins s σ H _ us Q I rus ⟨a, n, rfl, hn, hl, k.self r (.int _)⟩
  · exact cr_int pins s σ H vs us Q I rus ⟨β, S, xs, d, S', r, rv, e, k⟩
theorem op_addN : OpR X (binaryOp .Add) (rF2 Γ addN) := by
  intro pins s σ H x y v u Q I rx ry ⟨β, S, dx, dy, d, S', r, r1, r2, e, k⟩
  unfold addN at e
  split at e
  case h_2 => cases e
  rename_i a b ea eb
  split at e
  case isFalse => cases e
  rename_i hl
  cases e
  obtain ⟨p, vs, rfl, hp, q1⟩ := asX_of r r1 ea
  obtain ⟨p', vs', rfl, hp', q2⟩ := asX_of r r2 eb
  exact op_cat pins s σ H _ _ v u Q I rx ry ⟨p, p', vs, vs', rfl, rfl, hp, hp', by rw [q1.length, q2.length]; exact hl, fun l hn => k.cell r hn (q1.append q2)⟩
/-- a statement that is never reached -/
theorem pf_bad {st : Stmt} : PS X st (tFS Γ sBad) := ⟨fun pins s σ H D I ⟨β, ds, S, rep, h⟩ => h.elim⟩
end
end Rk

namespace Rk
open PySem L2

/-! ### reckoning what the pieces compute, by simp: the first part first -/
/-- how a call ends -/
noncomputable def finR (keep : Bool) (S : Store) : RS → R D
  | .rt d S' => fin keep S d S'
  | .nx _ S' => fin keep S .non S'
  | _ => .bad
@[simp] theorem fin_rt {keep : Bool} {S S' : Store} {d : D} : finR keep S (.rt d S') = fin keep S d S' := rfl
@[simp] theorem fin_nx {keep : Bool} {S S' : Store} {ds : Env} : finR keep S (.nx ds S') = fin keep S .non S' := rfl
theorem ev_call {tab : Nat → FD} {k g m n : Nat} {keep : Bool} {b : (Nat → EvC) → EvS} {xs : List D} {S : Store} (h : tab g = ⟨keep, m, n, b⟩) (hl : xs.length = n) :
    evC tab (k + 1) g xs S = finR keep S (b (evC tab k) (xs.map some ++ List.replicate (m - n) none) S) := by
  unfold evC callB
  rw [h]
  simp only [hl, if_true]
  split <;> rename_i q <;> (first | rw [q] | skip) <;> first | rfl | skip
  unfold finR
  split <;> first | rfl | simp_all

section
variable {S : Store} {ds : Env} {a b c : EvE} {ta tb : EvT} {g : EvA} {x : D}
@[simp] theorem e_c : fC x ds S = .ok x S := rfl
@[simp] theorem e_var {i : Nat} : fVar i ds S = (match ds[i]? with
  | some (some d) => .ok d S
  | _ => .bad) := rfl
def binK (op : D → D → Store → R D) (b : EvE) (ds : Env) : D → Store → R D := fun x S1 => (b ds S1).bind fun y S2 => op x y S2
@[simp] theorem e_bin {op : D → D → Store → R D} : fBin op a b ds S = (a ds S).bind (binK op b ds) := rfl
@[simp] theorem k_bin {op : D → D → Store → R D} : binK op b ds x S = (b ds S).bind (op x) := rfl
@[simp] theorem e_un {op : D → Store → R D} : fUn op a ds S = (a ds S).bind op := rfl
def asB : D → Store → R Bool := fun d S1 => match d with
  | .bl b => .ok b S1
  | _ => .bad
@[simp] theorem asB_bl {k : Bool} : asB (.bl k) S = .ok k S := rfl
@[simp] theorem e_b : fB a ds S = (a ds S).bind asB := rfl
def chK (c : EvE) (op' : D → D → Store → R D) (ds : Env) (y : D) : D → Store → R D := fun z S3 => match z with
  | .bl true => (c ds S3).bind fun w S4 => op' y w S4
  | .bl false => .ok (.bl false) S3
  | _ => .bad
@[simp] theorem chK_t {op' : D → D → Store → R D} : chK c op' ds x (.bl true) S = (c ds S).bind (op' x) := rfl
@[simp] theorem chK_f {op' : D → D → Store → R D} : chK c op' ds x (.bl false) S = .ok (.bl false) S := rfl
@[simp] theorem chK_b {op' : D → D → Store → R D} {k : Bool} : chK c op' ds x (.bl k) S = if k then (c ds S).bind (op' x) else .ok (.bl false) S := by cases k <;> rfl
def ch2 (op op' : D → D → Store → R D) (c : EvE) (ds : Env) (x : D) : D → Store → R D := fun y S2 => (op x y S2).bind (chK c op' ds y)
def ch1 (op op' : D → D → Store → R D) (b c : EvE) (ds : Env) : D → Store → R D := fun x S1 => (b ds S1).bind (ch2 op op' c ds x)
@[simp] theorem e_chain {op op' : D → D → Store → R D} : fChain op op' a b c ds S = (a ds S).bind (ch1 op op' b c ds) := rfl
@[simp] theorem k_ch1 {op op' : D → D → Store → R D} : ch1 op op' b c ds x S = (b ds S).bind (ch2 op op' c ds x) := rfl
@[simp] theorem k_ch2 {op op' : D → D → Store → R D} {y : D} : ch2 op op' c ds x y S = (op x y S).bind (chK c op' ds y) := rfl
def truR : D → Store → R Bool := fun d S1 => match truD S1 d with
  | some b => .ok b S1
  | none => .bad
@[simp] theorem e_tru : fTru a ds S = (a ds S).bind truR := rfl
@[simp] theorem truR_int {i : Int} : truR (.int i) S = .ok (i != 0) S := rfl
@[simp] theorem truR_bl {k : Bool} : truR (.bl k) S = .ok k S := rfl
@[simp] theorem truR_tup {xs : List D} : truR (.tup xs) S = .ok (!xs.isEmpty) S := rfl
@[simp] theorem truR_lst {xs : List D} : truR (.lst xs) S = .ok (!xs.isEmpty) S := rfl
def tandK (tb : EvT) (ds : Env) : Bool → Store → R Bool := fun x S1 => if x then tb ds S1 else .ok false S1
@[simp] theorem e_tand : fTAnd ta tb ds S = (ta ds S).bind (tandK tb ds) := rfl
@[simp] theorem k_tand {k : Bool} : tandK tb ds k S = if k then tb ds S else .ok false S := rfl
def torK (tb : EvT) (ds : Env) : Bool → Store → R Bool := fun x S1 => if x then .ok true S1 else tb ds S1
@[simp] theorem e_tor : fTOr ta tb ds S = (ta ds S).bind (torK tb ds) := rfl
@[simp] theorem k_tor {k : Bool} : torK tb ds k S = if k then .ok true S else tb ds S := rfl
def tnotK : Bool → Store → R Bool := fun x S1 => .ok (!x) S1
@[simp] theorem e_tnot : fTNot ta ds S = (ta ds S).bind tnotK := rfl
@[simp] theorem k_tnot {k : Bool} : tnotK k S = .ok (!k) S := rfl
def ifeK (a b : EvE) (ds : Env) : Bool → Store → R D := fun x S1 => if x then a ds S1 else b ds S1
@[simp] theorem e_if : fIf ta a b ds S = (ta ds S).bind (ifeK a b ds) := rfl
@[simp] theorem k_if {k : Bool} : ifeK a b ds k S = if k then a ds S else b ds S := rfl
def andK (b : EvE) (ds : Env) : Bool → Store → R D := fun x S1 => if x then b ds S1 else .ok (.bl false) S1
@[simp] theorem e_and : fAnd a b ds S = (fB a ds S).bind (andK b ds) := rfl
@[simp] theorem k_and {k : Bool} : andK b ds k S = if k then b ds S else .ok (.bl false) S := rfl
def orK (b : EvE) (ds : Env) : Bool → Store → R D := fun x S1 => if x then .ok (.bl true) S1 else b ds S1
@[simp] theorem e_or : fOr a b ds S = (fB a ds S).bind (orK b ds) := rfl
@[simp] theorem k_or {k : Bool} : orK b ds k S = if k then .ok (.bl true) S else b ds S := rfl
def notK : Bool → Store → R D := fun x S1 => .ok (.bl (!x)) S1
@[simp] theorem e_not : fNot a ds S = (fB a ds S).bind notK := rfl
@[simp] theorem k_not {k : Bool} : notK k S = .ok (.bl (!k)) S := rfl
@[simp] theorem e_nil : fNil ds S = .ok [] S := rfl
def consR (x : D) : List D → Store → R (List D) := fun xs S2 => .ok (x :: xs) S2
def consK (g : EvA) (ds : Env) : D → Store → R (List D) := fun x S1 => (g ds S1).bind (consR x)
@[simp] theorem e_cons : fCons a g ds S = (a ds S).bind (consK g ds) := rfl
@[simp] theorem k_cons : consK g ds x S = (g ds S).bind (consR x) := rfl
@[simp] theorem k_consR {xs : List D} : consR x xs S = .ok (x :: xs) S := rfl
def tupK : List D → Store → R D := fun xs S1 => if xs.length ≤ sizeLine then .ok (.tup xs) S1 else .bad
@[simp] theorem e_tup : fTup g ds S = (g ds S).bind tupK := rfl
@[simp] theorem k_tup {xs : List D} : tupK xs S = if xs.length ≤ sizeLine then .ok (.tup xs) S else .bad := rfl
def lstK : List D → Store → R D := fun xs S1 => if xs.length ≤ sizeLine then .ok (.lst xs) S1 else .bad
@[simp] theorem e_lst : fLst g ds S = (g ds S).bind lstK := rfl
@[simp] theorem k_lst {xs : List D} : lstK xs S = if xs.length ≤ sizeLine then .ok (.lst xs) S else .bad := rfl
def newK : List D → Store → R D := fun xs S1 => if xs.length ≤ sizeLine then .ok (.ref S1.length) (S1 ++ [.lst xs]) else .bad
@[simp] theorem e_new : fNew g ds S = (g ds S).bind newK := rfl
@[simp] theorem k_new {xs : List D} : newK xs S = if xs.length ≤ sizeLine then .ok (.ref S.length) (S ++ [.lst xs]) else .bad := rfl
@[simp] theorem e_onone : oNone ds S = .ok none S := rfl
def asI : D → Store → R (Option Int) := fun d S1 => match d with
  | .int i => .ok (some i) S1
  | _ => .bad
@[simp] theorem asI_int {i : Int} : asI (.int i) S = .ok (some i) S := rfl
theorem e_osome' : oSome a ds S = (a ds S).bind asI := by
  unfold oSome asI
  rfl
@[simp] theorem e_osome : oSome a ds S = (a ds S).bind asI := e_osome'
def slK2 (h : EvO) (ds : Env) (x : D) : Option Int → Store → R D := fun lo S2 => (h ds S2).bind fun hi S3 => slD x lo hi S3
def slK (l h : EvO) (ds : Env) : D → Store → R D := fun x S1 => (l ds S1).bind (slK2 h ds x)
@[simp] theorem e_sl {l h : EvO} : fSl a l h ds S = (a ds S).bind (slK l h ds) := rfl
@[simp] theorem k_sl {l h : EvO} : slK l h ds x S = (l ds S).bind (slK2 h ds x) := rfl
@[simp] theorem k_sl2 {h : EvO} {lo : Option Int} : slK2 h ds x lo S = (h ds S).bind (slD x lo) := rfl
@[simp] theorem e_call {c : EvC} : fCall c g ds S = (g ds S).bind c := rfl
def cK2 (c : EvC) (gD : List D → List D → List D) (xs : List D) : List D → Store → R D := fun ys S2 => c (gD xs ys) S2
def cK1 (c : EvC) (gD : List D → List D → List D) (k : EvA) (ds : Env) : List D → Store → R D := fun xs S1 => (k ds S1).bind (cK2 c gD xs)
@[simp] theorem e_callK {c : EvC} {gD : List D → List D → List D} {k : EvA} : fCallK c gD g k ds S = (g ds S).bind (cK1 c gD k ds) := rfl
@[simp] theorem k_c1 {c : EvC} {gD : List D → List D → List D} {k : EvA} {xs : List D} : cK1 c gD k ds xs S = (k ds S).bind (cK2 c gD xs) := rfl
@[simp] theorem k_c2 {c : EvC} {gD : List D → List D → List D} {xs ys : List D} : cK2 c gD xs ys S = c (gD xs ys) S := rfl
def bmK (T : String) (m : EvM) (g : EvA) (ds : Env) : D → Store → R D := fun x S1 => if tyM S1 x = T then (g ds S1).bind fun xs S2 => m x xs S2 else .bad
@[simp] theorem e_bm {T : String} {m : EvM} : fBM T m a g ds S = (a ds S).bind (bmK T m g ds) := rfl
@[simp] theorem k_bm {T : String} {m : EvM} : bmK T m g ds x S = if tyM S x = T then (g ds S).bind (m x) else .bad := rfl
@[simp] theorem e_dict0 : fDict0 ds S = .ok (.ref S.length) (S ++ [.dct []]) := rfl
@[simp] theorem e_pnil : fPairs [] ds S = .ok [] S := rfl
def pK (fv : EvE) (r : List (EvE × EvE)) (ds : Env) : D → Store → R (List (Key × D)) := fun x S1 => match keyD x with
    | some kk => (fv ds S1).bind fun y S2 => (fPairs r ds S2).bind fun ps S3 => .ok ((kk, y) :: ps) S3
    | none => .bad
@[simp] theorem e_pcons {fv : EvE} {r : List (EvE × EvE)} : fPairs ((a, fv) :: r) ds S = (a ds S).bind (pK fv r ds) := rfl
def pK3 (kk : Key) (y : D) : List (Key × D) → Store → R (List (Key × D)) := fun ps S3 => .ok ((kk, y) :: ps) S3
def pK2 (kk : Key) (r : List (EvE × EvE)) (ds : Env) : D → Store → R (List (Key × D)) := fun y S2 => (fPairs r ds S2).bind (pK3 kk y)
@[simp] theorem pK_str {fv : EvE} {r : List (EvE × EvE)} {z : Str} : pK fv r ds (.str z) S = (fv ds S).bind (pK2 (.inr z) r ds) := rfl
@[simp] theorem pK_int {fv : EvE} {r : List (EvE × EvE)} {z : Int} : pK fv r ds (.int z) S = (fv ds S).bind (pK2 (.inl z) r ds) := rfl
@[simp] theorem k_p2 {kk : Key} {r : List (EvE × EvE)} : pK2 kk r ds x S = (fPairs r ds S).bind (pK3 kk x) := rfl
@[simp] theorem k_p3 {kk : Key} {ps : List (Key × D)} : pK3 kk x ps S = .ok ((kk, x) :: ps) S := rfl
def dispK (S : Store) : List (Key × D) → Store → R D := fun ps S2 => if ps.length ≤ 15 then match S2[S.length]? with
    | some (.dct []) => .ok (.ref S.length) (S2.set S.length (.dct (mergeD [] ps)))
    | _ => .bad
  else .bad
@[simp] theorem e_disp {fs : List (EvE × EvE)} : fDisp fs ds S = (fPairs fs ds (S ++ [.dct []])).bind (dispK S) := rfl
theorem dispK_same {ps : List (Key × D)} (h : ps.length ≤ 15) : dispK S ps (S ++ [.dct []]) = .ok (.ref S.length) (S ++ [.dct (mergeD [] ps)]) := by
  unfold dispK
  rw [if_pos h]
  simp
@[simp] theorem e_snil : sNil ds S = .nx ds S := rfl
@[simp] theorem e_seq {f h : EvS} : sSeq f h ds S = (f ds S).then h := rfl
def exK (ds : Env) : D → Store → RS := fun _ S1 => .nx ds S1
@[simp] theorem e_expr : sExpr a ds S = (a ds S).go (exK ds) := rfl
@[simp] theorem k_ex : exK ds x S = .nx ds S := rfl
def retK : D → Store → RS := fun d S1 => .rt d S1
@[simp] theorem e_ret : sRet a ds S = (a ds S).go retK := rfl
@[simp] theorem k_ret : retK x S = .rt x S := rfl
@[simp] theorem e_retN : sRetN ds S = .rt .non S := rfl
@[simp] theorem e_brk : sBrk ds S = .bk ds S := rfl
@[simp] theorem e_cnt : sCnt ds S = .ct ds S := rfl
def ifK (f h : EvS) (ds : Env) : Bool → Store → RS := fun b S1 => if b then f ds S1 else h ds S1
@[simp] theorem e_sif {f h : EvS} : sIf ta f h ds S = (ta ds S).go (ifK f h ds) := rfl
@[simp] theorem k_sif {f h : EvS} {k : Bool} : ifK f h ds k S = if k then f ds S else h ds S := rfl
def setK (i : Nat) (ds : Env) : D → Store → RS := fun d S1 => .nx (ds.set i (some d)) S1
@[simp] theorem e_set {i : Nat} : sSet i a ds S = (a ds S).go (setK i ds) := rfl
@[simp] theorem k_set {i : Nat} : setK i ds x S = .nx (ds.set i (some x)) S := rfl
def parK (i j : Nat) (ds : Env) : List D → Store → RS := fun xs S1 => match xs with
  | [x, y] => .nx ((ds.set i (some x)).set j (some y)) S1
  | _ => .bad
@[simp] theorem parK_2 {i j : Nat} {x y : D} : parK i j ds [x, y] S = .nx ((ds.set i (some x)).set j (some y)) S := rfl
@[simp] theorem e_par {i j : Nat} : sPar i j g ds S = (g ds S).go (parK i j ds) := by unfold sPar parK; rfl
def par3K (i j l : Nat) (ds : Env) : List D → Store → RS := fun xs S1 => match xs with
  | [x, y, z] => .nx (((ds.set i (some x)).set j (some y)).set l (some z)) S1
  | _ => .bad
@[simp] theorem par3K_3 {i j l : Nat} {x y z : D} : par3K i j l ds [x, y, z] S = .nx (((ds.set i (some x)).set j (some y)).set l (some z)) S := rfl
@[simp] theorem e_par3 {i j l : Nat} : sPar3 i j l g ds S = (g ds S).go (par3K i j l ds) := by unfold sPar3 par3K; rfl
def subK (ds : Env) (x y v : D) (S : Store) : RS := match setD x y v S with
  | some S' => .nx ds S'
  | none => .bad
theorem subK_some {x y v : D} {S' : Store} (h : setD x y v S = some S') : subK ds x y v S = .nx ds S' := by unfold subK; rw [h]
def sub3 (ds : Env) (v x : D) : D → Store → RS := fun y S3 => subK ds x y v S3
def sub2 (fi : EvE) (ds : Env) (v : D) : D → Store → RS := fun x S2 => (fi ds S2).go (sub3 ds v x)
def sub1 (fo fi : EvE) (ds : Env) : D → Store → RS := fun v S1 => (fo ds S1).go (sub2 fi ds v)
@[simp] theorem e_sub {fv fo fi : EvE} : sSub fv fo fi ds S = (fv ds S).go (sub1 fo fi ds) := by
  unfold sSub sub1 sub2 sub3 subK; rfl
@[simp] theorem k_sub1 {fo fi : EvE} : sub1 fo fi ds x S = (fo ds S).go (sub2 fi ds x) := rfl
@[simp] theorem k_sub2 {fi : EvE} {v : D} : sub2 fi ds v x S = (fi ds S).go (sub3 ds v x) := rfl
@[simp] theorem k_sub3 {v y : D} : sub3 ds v x y S = subK ds x y v S := rfl
def asgK (t : EvG) (ds : Env) : D → Store → RS := fun d S1 => match t d ds with
  | some ds' => .nx ds' S1
  | none => .bad
@[simp] theorem e_asg {t : EvG} : sAsg a t ds S = (a ds S).go (asgK t ds) := by unfold sAsg asgK; rfl
@[simp] theorem e_tgN {i : Nat} {d : D} : tgN i d ds = some (ds.set i (some d)) := rfl
noncomputable def forK (t : EvG) (body : EvS) (ds : Env) : List D × (Store → Prop) → Store → RS := fun p S1 => forL p.2 t body p.1 ds S1
@[simp] theorem e_for {it : EvI} {t : EvG} {body : EvS} : sFor it t body ds S = (it ds S).go (forK t body ds) := rfl
@[simp] theorem k_for {t : EvG} {body : EvS} {xs : List D} {gd : Store → Prop} : forK t body ds (xs, gd) S = forL gd t body xs ds S := rfl
abbrev gT : Store → Prop := fun _ => True
def ivK : D → Store → R (List D × (Store → Prop)) := fun d S1 => match d with
  | .str x => .ok (signs x, gT) S1
  | .tup xs => .ok (xs, gT) S1
  | .lst xs => .ok (xs, gT) S1
  | .rol xs => .ok (xs, gT) S1
  | .dct kvs => .ok (kvs.map fun kv => kD kv.1, gT) S1
  | .ref n => match S1[n]? with
    | some (.lst xs) => .ok (xs, fun S => S[n]? = some (.lst xs)) S1
    | _ => .bad
  | _ => .bad
@[simp] theorem e_iVal : iVal a ds S = (a ds S).bind ivK := by unfold iVal ivK; rfl
@[simp] theorem ivK_str {z : Str} : ivK (.str z) S = .ok (signs z, gT) S := rfl
@[simp] theorem ivK_tup {xs : List D} : ivK (.tup xs) S = .ok (xs, gT) S := rfl
@[simp] theorem ivK_lst {xs : List D} : ivK (.lst xs) S = .ok (xs, gT) S := rfl
@[simp] theorem ivK_dct {kvs : List (Key × D)} : ivK (.dct kvs) S = .ok (kvs.map fun kv => kD kv.1, gT) S := rfl
@[simp] theorem ivK_rol {xs : List D} : ivK (.rol xs) S = .ok (xs, gT) S := rfl
theorem ivK_ref {n : Nat} {xs : List D} (h : S[n]? = some (.lst xs)) : ivK (.ref n) S = .ok (xs, fun S => S[n]? = some (.lst xs)) S := by unfold ivK; simp only [h]
def small62 (j : Int) : Prop := -(2 ^ 62) ≤ j ∧ j < 2 ^ 62
open Classical in
noncomputable def rg1K : D → Store → R (List D × (Store → Prop)) := fun d S1 => match d with
  | .int j => if small62 j then .ok (rangeD 0 j.toNat, gT) S1 else .bad
  | _ => .bad
theorem rg1K_eq {d : D} {S1 : Store} : rg1K d S1 = (match d with
  | .int j => if -(2 ^ 62) ≤ j ∧ j < 2 ^ 62 then R.ok (rangeD 0 j.toNat, gT) S1 else .bad
  | _ => .bad) := by
  unfold rg1K
  cases d <;> first | rfl | skip
  rename_i j
  by_cases h : small62 j
  · exact (if_pos h).trans (if_pos h).symm
  · exact (if_neg h).trans (if_neg h).symm
@[simp] theorem e_range1 : iRange1 a ds S = (a ds S).bind rg1K := by
  unfold iRange1
  congr 1
  funext d S1
  exact rg1K_eq.symm
theorem rg1_ok {j : Int} (h : 0 ≤ j) (h2 : j < 4611686018427387904) : rg1K (.int j) S = .ok (rangeD 0 j.toNat, gT) S := by
  rw [rg1K_eq]
  exact if_pos ⟨by omega, by omega⟩
def cpK (p : List D × (Store → Prop)) (S2 : List D → Store → R (List D)) : Unit := ()
noncomputable def compK (own : List Nat) (t : EvG) (cc : EvT) (el : EvE) (ds : Env) : List D × (Store → Prop) → Store → R D := fun p S1 =>
  if p.1.length ≤ sizeLine then (compL p.2 t cc el p.1 (wipeD ds own) S1).bind fun ys S2 => .ok (.lst ys) S2 else .bad
@[simp] theorem e_comp {it : EvI} {own : List Nat} {t : EvG} {cc : EvT} {el : EvE} : fComp it own t cc el ds S = (it ds S).bind (compK own t cc el ds) := rfl
theorem compK_ok {xs ys : List D} {gd : Store → Prop} {own : List Nat} {t : EvG} {cc : EvT} {el : EvE} {S' : Store} (hl : xs.length ≤ sizeLine) (h : compL gd t cc el xs (wipeD ds own) S = .ok ys S') : compK own t cc el ds (xs, gd) S = .ok (.lst ys) S' := by
  unfold compK
  rw [if_pos hl]
  simp only [h]
  rfl
@[simp] theorem e_yes : cYes ds S = .ok true S := rfl
@[simp] theorem e_wipe0 : wipeD ds [] = ds := rfl
@[simp] theorem e_wipe {v : Nat} {vs : List Nat} : wipeD ds (v :: vs) = (wipeD ds vs).set v none := rfl
end
def goT {α : Type} (f : α → Store → RS) (h : EvS) : α → Store → RS := fun a S => (f a S).then h
@[simp] theorem go_then {α : Type} {r : R α} {f : α → Store → RS} {h : EvS} : (r.go f).then h = r.go (goT f h) := by cases r <;> rfl
@[simp] theorem k_goT {α : Type} {f : α → Store → RS} {h : EvS} {a : α} {S : Store} : goT f h a S = (f a S).then h := rfl

/-! ### what a call hands back, where it made nothing that stays -/
theorem cut_same (S : Store) : Cut S S := ⟨Nat.le_refl _, fun _ _ => .inl rfl⟩
theorem fin_cut {keep : Bool} {S S' : Store} {d : D} (h : Cut S S') (hd : d.lw S.length = true) : fin keep S d S' = .ok d (S'.take S.length) := by
  unfold fin
  rw [if_pos h, if_pos hd]
theorem fin_same {keep : Bool} {S : Store} {d : D} (hd : d.lw S.length = true) : fin keep S d S = .ok d S := by
  rw [fin_cut (cut_same S) hd, List.take_length]
theorem cut_set {S : Store} {p : Nat} {c : C} (hc : c.lw S.length = true) : Cut S (S.set p c) := by
  refine ⟨by simp, fun n hn => ?_⟩
  by_cases h : p = n
  · subst h
    right
    intro c' e
    rw [List.getElem?_set_self hn] at e
    cases e
    exact hc
  · left
    rw [List.getElem?_set_ne h]
theorem fin_set {keep : Bool} {S : Store} {d : D} {p : Nat} {c : C} (hd : d.lw S.length = true) (hc : c.lw S.length = true) : fin keep S d (S.set p c) = .ok d (S.set p c) := by
  rw [fin_cut (cut_set hc) hd]
  congr 1
  rw [List.take_of_length_le]
  simp
theorem cut_app {S : Store} {T : Store} : Cut S (S ++ T) := ⟨by simp, fun n hn => .inl (List.getElem?_append_left hn)⟩
theorem fin_app {keep : Bool} {S T : Store} {d : D} (hd : d.lw S.length = true) : fin keep S d (S ++ T) = .ok d S := by
  rw [fin_cut cut_app hd]
  simp
/-- a new list that is handed back -/
theorem fin_new {S : Store} {xs : List D} (hd : Ds.lw S.length xs = true) : fin false S (.ref S.length) (S ++ [.lst xs]) = .ok (.lst xs) S := by
  unfold fin
  rw [if_pos cut_app, if_neg (by simp [D.lw])]
  simp [hd]
theorem fin_newK {S : Store} {xs : List D} (hd : Ds.lw S.length xs = true) : fin true S (.ref S.length) (S ++ [.lst xs]) = .ok (.ref S.length) (S ++ [.lst xs]) := by
  unfold fin
  rw [if_pos cut_app, if_neg (by simp [D.lw])]
  simp [hd]
theorem fin_newD {S : Store} {xs : List (Key × D)} (hd : Ks.lw S.length xs = true) : fin false S (.ref S.length) (S ++ [.dct xs]) = .ok (.dct xs) S := by
  unfold fin
  rw [if_pos cut_app, if_neg (by simp [D.lw])]
  simp [hd]
theorem fin_newDK {S : Store} {xs : List (Key × D)} (hd : Ks.lw S.length xs = true) : fin true S (.ref S.length) (S ++ [.dct xs]) = .ok (.ref S.length) (S ++ [.dct xs]) := by
  unfold fin
  rw [if_pos cut_app, if_neg (by simp [D.lw])]
  simp [hd]
end Rk

namespace Rk
open PySem L2

/-! ### what names nothing of the store -/
mutual
theorem D.lw_up {k n : Nat} (h : k ≤ n) : ∀ {d : D}, d.lw k = true → d.lw n = true
  | .non, _ => rfl
  | .bl _, _ => rfl
  | .int _, _ => rfl
  | .str _, _ => rfl
  | .tup xs, e => by simp only [D.lw] at e ⊢; exact Ds.lw_up h e
  | .lst xs, e => by simp only [D.lw] at e ⊢; exact Ds.lw_up h e
  | .rol xs, e => by simp only [D.lw] at e ⊢; exact Ds.lw_up h e
  | .dct xs, e => by simp only [D.lw] at e ⊢; exact Ks.lw_up h e
  | .kd xs, e => by simp only [D.lw] at e ⊢; exact Ks.lw_up h e
  | .ref m, e => by simp only [D.lw, decide_eq_true_eq] at e ⊢; omega
  | .fn _, _ => rfl
  | .ty _, _ => rfl
theorem Ds.lw_up {k n : Nat} (h : k ≤ n) : ∀ {ds : List D}, Ds.lw k ds = true → Ds.lw n ds = true
  | [], _ => rfl
  | d :: ds, e => by
    simp only [Ds.lw, Bool.and_eq_true] at e ⊢
    exact ⟨D.lw_up h e.1, Ds.lw_up h e.2⟩
theorem Ks.lw_up {k n : Nat} (h : k ≤ n) : ∀ {ds : List (Key × D)}, Ks.lw k ds = true → Ks.lw n ds = true
  | [], _ => rfl
  | (_, d) :: ds, e => by
    simp only [Ks.lw, Bool.and_eq_true] at e ⊢
    exact ⟨D.lw_up h e.1, Ks.lw_up h e.2⟩
end
/-- plain: no name of a thing of the store in it -/
def Pu (d : D) : Prop := d.lw 0 = true
theorem Pu.lw {d : D} (h : Pu d) (n : Nat) : d.lw n = true := D.lw_up (Nat.zero_le n) h
theorem lws_iff {k : Nat} : ∀ {ds : List D}, Ds.lw k ds = true ↔ ∀ d ∈ ds, d.lw k = true
  | [] => by simp [Ds.lw]
  | d :: ds => by simp [Ds.lw, lws_iff]
theorem pu_tup {ds : List D} : Pu (.tup ds) ↔ ∀ d ∈ ds, Pu d := by
  unfold Pu
  simp only [D.lw]
  exact lws_iff
theorem pu_lst {ds : List D} : Pu (.lst ds) ↔ ∀ d ∈ ds, Pu d := by
  unfold Pu
  simp only [D.lw]
  exact lws_iff
@[simp] theorem pu_int {i : Int} : Pu (.int i) := rfl
@[simp] theorem pu_str {i : Str} : Pu (.str i) := rfl
@[simp] theorem pu_bl {i : Bool} : Pu (.bl i) := rfl
@[simp] theorem pu_non : Pu .non := rfl

/-! ### the pen -/
def penC (cs : List Int) (a l : Int) : C := .dct [(.inr "cells", .lst (cs.map D.int)), (.inr "at", .int a), (.inr "left", .int l)]
theorem kcl : ("cells" : Str) ≠ ("left" : Str) := by decide +kernel
theorem kca : ("cells" : Str) ≠ ("at" : Str) := by decide +kernel
theorem kal : ("at" : Str) ≠ ("left" : Str) := by decide +kernel
theorem kac : ("at" : Str) ≠ ("cells" : Str) := fun h => kca h.symm
theorem klc : ("left" : Str) ≠ ("cells" : Str) := fun h => kcl h.symm
theorem kla : ("left" : Str) ≠ ("at" : Str) := fun h => kal h.symm
theorem lw_ints {k : Nat} : ∀ cs : List Int, Ds.lw k (cs.map D.int) = true
  | [] => rfl
  | c :: cs => by simp [Ds.lw, D.lw, lw_ints cs]
theorem lw_pen {k : Nat} {cs : List Int} {a l : Int} : (penC cs a l).lw k = true := by
  simp [penC, C.lw, Ks.lw, D.lw, lw_ints]
section
variable {S : Store} {p : Nat} {cs : List Int} {a l : Int} (h : S[p]? = some (penC cs a l))
include h
theorem p_lt : p < S.length := (List.getElem?_eq_some_iff.mp h).1
theorem ix_left : ixD (.ref p) (.str "left") S = .ok (.int l) S := by
  simp [ixD, ixK, asDict, h, penC, valD, kcl, kal]
theorem ix_at : ixD (.ref p) (.str "at") S = .ok (.int a) S := by
  simp [ixD, ixK, asDict, h, penC, valD, kca]
theorem ix_cells : ixD (.ref p) (.str "cells") S = .ok (.lst (cs.map D.int)) S := by
  simp [ixD, ixK, asDict, h, penC, valD]
theorem set_left {ds : Env} {v : Int} : subK ds (.ref p) (.str "left") (.int v) S = .nx ds (S.set p (penC cs a v)) := by
  apply subK_some
  simp [setD, h, penC, keyD, putD, kcl, kal]
  exact show (3 : Nat) < sizeLine by decide
theorem set_at {ds : Env} {v : Int} : subK ds (.ref p) (.str "at") (.int v) S = .nx ds (S.set p (penC cs v l)) := by
  apply subK_some
  simp [setD, h, penC, keyD, putD, kca, kla]
  exact show (3 : Nat) < sizeLine by decide
end
theorem set_get {S : Store} {p : Nat} {c : C} (h : p < S.length) : (S.set p c)[p]? = some c := by rw [List.getElem?_set_self h]
theorem modD_ok {i j : Int} {S : Store} (h : 0 < j) : modD (.int i) (.int j) S = .ok (.int (i % j)) S := if_pos h
theorem fdivD_ok {i j : Int} {S : Store} (h : 0 < j) (h2 : j < 1073741824) : fdivD (.int i) (.int j) S = .ok (.int (i / j)) S := if_pos ⟨h, h2⟩
@[simp] theorem addD_int {i j : Int} {S : Store} : addD (.int i) (.int j) S = .ok (.int (i + j)) S := rfl
@[simp] theorem subD_int {i j : Int} {S : Store} : subD (.int i) (.int j) S = .ok (.int (i - j)) S := rfl
@[simp] theorem negD_int {i : Int} {S : Store} : negD (.int i) S = .ok (.int (-i)) S := rfl
@[simp] theorem cmpI_int {p : Int → Int → Bool} {i j : Int} {S : Store} : cmpI p (.int i) (.int j) S = .ok (.bl (p i j)) S := rfl
theorem mulD_l {i j : Int} {S : Store} (h : -(2 ^ 64) < i ∧ i < 2 ^ 64) : mulD (.int i) (.int j) S = .ok (.int (i * j)) S := if_pos (Or.inl h)
theorem mulD_r {i j : Int} {S : Store} (h : -(2 ^ 64) < j ∧ j < 2 ^ 64) : mulD (.int i) (.int j) S = .ok (.int (i * j)) S := if_pos (Or.inr h)
theorem pow18 {S : Store} : powD (.int 10) (.int 18) S = .ok (.int 1000000000000000000) S := by
  show (if (0 : Int) ≤ 18 ∧ (18 : Int) ≤ 1000000 ∧ (10 : Int).natAbs < 2 ^ 64 then R.ok (D.int ((10 : Int) ^ (18 : Int).toNat)) S else .bad) = _
  rw [if_pos (by decide)]
  rfl
theorem ne_nil {cs : List Int} {S : Store} : neD (.lst (cs.map D.int)) (.lst []) S = .ok (.bl (!cs.isEmpty)) S := by
  show R.ok (D.bl (!(cs.map D.int).isEmpty)) S = _
  cases cs <;> rfl
theorem len_lst {xs : List D} {S : Store} : lenC [.lst xs] S = .ok (.int xs.length) S := rfl
theorem len_tup {xs : List D} {S : Store} : lenC [.tup xs] S = .ok (.int xs.length) S := rfl
theorem ix_lst {xs : List D} {i : Int} {d : D} {S : Store} (h : atI xs i = some d) : ixD (.lst xs) (.int i) S = .ok d S := by
  simp [ixD, ixI, asSeq, asL, h]
theorem ix_tup {xs : List D} {i : Int} {d : D} {S : Store} (h : atI xs i = some d) : ixD (.tup xs) (.int i) S = .ok d S := by
  simp [ixD, ixI, asSeq, h]
theorem atI_ok {α : Type} {xs : List α} {i : Int} (h : 0 ≤ i) (h2 : i < xs.length) : atI xs i = some (xs[i.toNat]'(by omega)) := by
  unfold atI ixN
  rw [if_pos h, if_pos h2]
  simp

/-- the body of _law_draw, the same in every law with such a pen -/
noncomputable def drawB : EvS :=
  (sSeq (sIf (fB (fBin gtD (fBin ixD (fVar 0) (fC (.str "left"))) (fC (.int 0)))) (sSeq (sSet 2 (fBin modD (fBin ixD (fVar 0) (fC (.str "left"))) (fVar 1)))
    (sSeq (sSub (fBin fdivD (fBin ixD (fVar 0) (fC (.str "left"))) (fVar 1)) (fVar 0) (fC (.str "left")))
    (sRet (fVar 2)))) sNil)
    (sSeq (sSet 3 (fBin ixD (fVar 0) (fC (.str "at"))))
    (sSeq (sSub (fBin addD (fVar 3) (fC (.int 1))) (fVar 0) (fC (.str "at")))
    (sSeq (sSet 4 (fC (.int 23)))
    (sSeq (sIf (fB (fBin neD (fBin ixD (fVar 0) (fC (.str "cells"))) (fLst fNil))) (sSet 4 (fBin ixD (fBin ixD (fVar 0) (fC (.str "cells"))) (fBin modD (fVar 3) (fCall lenC (fCons (fBin ixD (fVar 0) (fC (.str "cells"))) fNil))))) sNil)
    (sSeq (sIf (fTAnd (fB (fBin ltD (fVar 3) (fCall lenC (fCons (fBin ixD (fVar 0) (fC (.str "cells"))) fNil)))) (fB (fBin geD (fVar 4) (fBin powD (fC (.int 10)) (fC (.int 18)))))) (sSeq (sSub (fBin fdivD (fBin subD (fVar 4) (fBin powD (fC (.int 10)) (fC (.int 18)))) (fVar 1)) (fVar 0) (fC (.str "left")))
    (sRet (fBin modD (fBin subD (fVar 4) (fBin powD (fC (.int 10)) (fC (.int 18)))) (fVar 1)))) sNil)
    (sSeq (sSet 5 (fBin modD (fBin addD (fBin addD (fBin addD (fBin mulD (fBin modD (fVar 4) (fC (.int 2147483549))) (fC (.int 40692))) (fBin mulD (fBin mulD (fC (.int 7919)) (fVar 3)) (fVar 3))) (fBin mulD (fC (.int 104729)) (fVar 3))) (fC (.int 3))) (fC (.int 2147483647))))
    (sSeq (sSet 5 (fBin modD (fBin addD (fBin addD (fBin mulD (fVar 5) (fVar 5)) (fBin mulD (fC (.int 69621)) (fVar 5))) (fC (.int 7))) (fC (.int 2147483629))))
    (sRet (fBin modD (fBin fdivD (fVar 5) (fC (.int 61))) (fVar 1)))))))))))
/-- a pen from which m more things may be drawn -/
def PnC (c : C) (m : Nat) : Prop := ∃ cs a l, c = penC cs a l ∧ 0 ≤ l ∧ 0 ≤ a ∧ a + m < 1152921504606846976
def Pn (S : Store) (p : Nat) (m : Nat) : Prop := ∃ c, S[p]? = some c ∧ PnC c m
theorem PnC.lw {c : C} {m : Nat} (h : PnC c m) (n : Nat) : c.lw n = true := by
  obtain ⟨cs, a, l, rfl, _⟩ := h
  exact lw_pen
theorem PnC.le {c : C} {m n : Nat} (h : PnC c m) (hn : n ≤ m) : PnC c n := by
  obtain ⟨cs, a, l, rfl, h1, h2, h3⟩ := h
  exact ⟨cs, a, l, rfl, h1, h2, by omega⟩
theorem Pn.le {S : Store} {p m n : Nat} (h : Pn S p m) (hn : n ≤ m) : Pn S p n := by
  obtain ⟨c, h1, h2⟩ := h
  exact ⟨c, h1, h2.le hn⟩
theorem Pn.lt {S : Store} {p m : Nat} (h : Pn S p m) : p < S.length := by
  obtain ⟨c, h1, h2⟩ := h
  exact (List.getElem?_eq_some_iff.mp h1).1
theorem Pn.set {S : Store} {p m : Nat} {c : C} (h : p < S.length) (hc : PnC c m) : Pn (S.set p c) p m := ⟨c, set_get h, hc⟩
theorem Pn.app {S T : Store} {p m : Nat} (h : Pn S p m) : Pn (S ++ T) p m := by
  obtain ⟨c, h1, h2⟩ := h
  exact ⟨c, by rw [List.getElem?_append_left (List.getElem?_eq_some_iff.mp h1).1]; exact h1, h2⟩
theorem draw_B {S : Store} {p m : Nat} {many : Int} (h : Pn S p (m + 1)) (hm : 0 < many) (hm2 : many < 1073741824) :
    ∃ r c, 0 ≤ r ∧ r < many ∧ PnC c m ∧ drawB [some (.ref p), some (.int many), none, none, none, none] S = .rt (.int r) (S.set p c) := by
  obtain ⟨_, hS, cs, a, l, rfl, hl, ha, hb⟩ := h
  have hp := p_lt hS
  by_cases hl0 : 0 < l
  · refine ⟨l % many, penC cs a (l / many), Int.emod_nonneg _ (by omega), Int.emod_lt_of_pos _ hm, ⟨cs, a, l / many, rfl, Int.ediv_nonneg hl (by omega), ha, by omega⟩, ?_⟩
    simp [drawB, ix_left hS, hl0, modD_ok hm, fdivD_ok hm hm2, set_left hS]
  · have hS1 : (S.set p (penC cs (a + 1) l))[p]? = some (penC cs (a + 1) l) := set_get hp
    -- the number that is taken
    have cell : ∃ z : Int, (sIf (fB (fBin neD (fBin ixD (fVar 0) (fC (.str "cells"))) (fLst fNil))) (sSet 4 (fBin ixD (fBin ixD (fVar 0) (fC (.str "cells"))) (fBin modD (fVar 3) (fCall lenC (fCons (fBin ixD (fVar 0) (fC (.str "cells"))) fNil))))) sNil)
        [some (.ref p), some (.int many), none, some (.int a), some (.int 23), none] (S.set p (penC cs (a + 1) l)) = .nx [some (.ref p), some (.int many), none, some (.int a), some (.int z), none] (S.set p (penC cs (a + 1) l)) := by
      by_cases hcs : cs = []
      · subst hcs
        exact ⟨23, by simp [ix_cells hS1, show (([] : List Int).map D.int) = [] from rfl, show neD (.lst []) (.lst []) = _ from funext fun S => ne_nil (cs := []) (S := S)]⟩
      · have hlen : (0 : Int) < (cs.length : Int) := by have := List.length_pos_iff.mpr hcs; omega
        have he : cs.isEmpty = false := by simpa using hcs
        have h0 := Int.emod_nonneg a (show (cs.length : Int) ≠ 0 by omega)
        have h1 := Int.emod_lt_of_pos a hlen
        refine ⟨(cs[(a % (cs.length : Int)).toNat]'(by omega)), ?_⟩
        have e : atI (cs.map D.int) (a % (cs.length : Int)) = some (.int (cs[(a % (cs.length : Int)).toNat]'(by omega))) := by
          rw [atI_ok h0 (by rw [List.length_map]; exact h1), List.getElem_map]
        simp [ix_cells hS1, ne_nil, he, len_lst, modD_ok hlen, ix_lst e]
    obtain ⟨z, hz⟩ := cell
    have k1 : 0 ≤ (z % 2147483549 * 40692 + 7919 * a * a + 104729 * a + 3) % 2147483647 := Int.emod_nonneg _ (by omega)
    have k2 : (z % 2147483549 * 40692 + 7919 * a * a + 104729 * a + 3) % 2147483647 < 2147483647 := Int.emod_lt_of_pos _ (by omega)
    generalize hn : (z % 2147483549 * 40692 + 7919 * a * a + 104729 * a + 3) % 2147483647 = nn at k1 k2
    have first : ∀ f : EvS, (sSeq (sIf (fB (fBin gtD (fBin ixD (fVar 0) (fC (.str "left"))) (fC (.int 0)))) (sSeq (sSet 2 (fBin modD (fBin ixD (fVar 0) (fC (.str "left"))) (fVar 1)))
        (sSeq (sSub (fBin fdivD (fBin ixD (fVar 0) (fC (.str "left"))) (fVar 1)) (fVar 0) (fC (.str "left")))
        (sRet (fVar 2)))) sNil)
        (sSeq (sSet 3 (fBin ixD (fVar 0) (fC (.str "at"))))
        (sSeq (sSub (fBin addD (fVar 3) (fC (.int 1))) (fVar 0) (fC (.str "at")))
        (sSeq (sSet 4 (fC (.int 23))) f)))) [some (.ref p), some (.int many), none, none, none, none] S = f [some (.ref p), some (.int many), none, some (.int a), some (.int 23), none] (S.set p (penC cs (a + 1) l)) := fun f => by
      simp [ix_left hS, hl0, ix_at hS, set_at hS]
    unfold drawB
    rw [first, e_seq, hz, RS.then_nx, e_seq]
    by_cases hc : a < cs.length ∧ (1000000000000000000 : Int) ≤ z
    · refine ⟨(z - 1000000000000000000) % many, penC cs (a + 1) ((z - 1000000000000000000) / many), Int.emod_nonneg _ (by omega), Int.emod_lt_of_pos _ hm, ⟨cs, a + 1, _, rfl, Int.ediv_nonneg (by omega) (by omega), by omega, by omega⟩, ?_⟩
      simp [ix_cells hS1, len_lst, pow18, hc.1, hc.2, fdivD_ok hm hm2, modD_ok hm, set_left hS1]
    · refine ⟨(nn * nn + 69621 * nn + 7) % 2147483629 / 61 % many, penC cs (a + 1) l, Int.emod_nonneg _ (by omega), Int.emod_lt_of_pos _ hm, ⟨cs, a + 1, l, rfl, hl, by omega, by omega⟩, ?_⟩
      have no : (sIf (fTAnd (fB (fBin ltD (fVar 3) (fCall lenC (fCons (fBin ixD (fVar 0) (fC (.str "cells"))) fNil)))) (fB (fBin geD (fVar 4) (fBin powD (fC (.int 10)) (fC (.int 18)))))) (sSeq (sSub (fBin fdivD (fBin subD (fVar 4) (fBin powD (fC (.int 10)) (fC (.int 18)))) (fVar 1)) (fVar 0) (fC (.str "left")))
          (sRet (fBin modD (fBin subD (fVar 4) (fBin powD (fC (.int 10)) (fC (.int 18)))) (fVar 1)))) sNil) [some (.ref p), some (.int many), none, some (.int a), some (.int z), none] (S.set p (penC cs (a + 1) l)) = .nx [some (.ref p), some (.int many), none, some (.int a), some (.int z), none] (S.set p (penC cs (a + 1) l)) := by
        by_cases h1 : a < cs.length
        · have h2 : ¬ (1000000000000000000 : Int) ≤ z := fun q => hc ⟨h1, q⟩
          simp [ix_cells hS1, len_lst, pow18, h1, h2]
        · simp [ix_cells hS1, len_lst, pow18, h1]
      rw [no, RS.then_nx]
      simp [modD_ok (show (0 : Int) < 2147483549 by decide), modD_ok (show (0 : Int) < 2147483647 by decide), modD_ok (show (0 : Int) < 2147483629 by decide), modD_ok hm, fdivD_ok (show (0 : Int) < 61 by decide) (by decide),
        mulD_r (show -(2 ^ 64) < (40692 : Int) ∧ (40692 : Int) < 2 ^ 64 by decide), mulD_l (show -(2 ^ 64) < (7919 : Int) ∧ (7919 : Int) < 2 ^ 64 by decide), mulD_l (show -(2 ^ 64) < (104729 : Int) ∧ (104729 : Int) < 2 ^ 64 by decide), mulD_l (show -(2 ^ 64) < (69621 : Int) ∧ (69621 : Int) < 2 ^ 64 by decide),
        mulD_r (show -(2 ^ 64) < a ∧ a < 2 ^ 64 by omega), hn, mulD_l (show -(2 ^ 64) < nn ∧ nn < 2 ^ 64 by omega)]
/-- a def that draws -/
def DrawOK (d : EvC) : Prop := ∀ (S : Store) (p m : Nat) (many : Int), Pn S p (m + 1) → 0 < many → many < 1073741824 →
  ∃ r c, 0 ≤ r ∧ r < many ∧ PnC c m ∧ d [.ref p, .int many] S = .ok (.int r) (S.set p c)
theorem draw_ok {tab : Nat → FD} {g k : Nat} (h : tab g = ⟨false, 6, 2, fun _ => drawB⟩) : DrawOK (evC tab (k + 1) g) := by
  intro S p m many hP hm hm2
  obtain ⟨r, c, h1, h2, h3, h4⟩ := draw_B hP hm hm2
  refine ⟨r, c, h1, h2, h3, ?_⟩
  rw [ev_call h rfl]
  show finR false S (drawB [some (.ref p), some (.int many), none, none, none, none] S) = _
  rw [h4, fin_rt, fin_set rfl (h3.lw _)]
end Rk

namespace Rk
open PySem L2

/-! ### what must hold of an answer -/
def W {α : Type} : R α → (α → Store → Prop) → Prop
  | .ok a S, Q => Q a S
  | .bad, _ => False
structure Po where
  nx : Env → Store → Prop := fun _ _ => False
  rt : D → Store → Prop := fun _ _ => False
  bk : Env → Store → Prop := fun _ _ => False
  ct : Env → Store → Prop := fun _ _ => False
def WS : RS → Po → Prop
  | .nx ds S, P => P.nx ds S
  | .rt d S, P => P.rt d S
  | .bk ds S, P => P.bk ds S
  | .ct ds S, P => P.ct ds S
  | .bad, _ => False
@[simp] theorem W_ok {α : Type} {a : α} {S : Store} {Q : α → Store → Prop} : W (.ok a S) Q = Q a S := rfl
@[simp] theorem W_bad {α : Type} {Q : α → Store → Prop} : W .bad Q = False := rfl
def bK {α β : Type} (f : α → Store → R β) (Q : β → Store → Prop) : α → Store → Prop := fun a S => W (f a S) Q
@[simp] theorem k_b {α β : Type} {f : α → Store → R β} {Q : β → Store → Prop} {a : α} {S : Store} : bK f Q a S = W (f a S) Q := rfl
@[simp] theorem W_bind {α β : Type} {r : R α} {f : α → Store → R β} {Q : β → Store → Prop} : W (r.bind f) Q = W r (bK f Q) := by cases r <;> rfl
def gK {α : Type} (f : α → Store → RS) (P : Po) : α → Store → Prop := fun a S => WS (f a S) P
@[simp] theorem k_g {α : Type} {f : α → Store → RS} {P : Po} {a : α} {S : Store} : gK f P a S = WS (f a S) P := rfl
@[simp] theorem WS_go {α : Type} {r : R α} {f : α → Store → RS} {P : Po} : WS (r.go f) P = W r (gK f P) := by cases r <;> rfl
def thP (f : Env → Store → RS) (P : Po) : Po := { P with nx := fun ds S => WS (f ds S) P }
@[simp] theorem th_nx {f : Env → Store → RS} {P : Po} {ds : Env} {S : Store} : (thP f P).nx ds S = WS (f ds S) P := rfl
@[simp] theorem th_rt {f : Env → Store → RS} {P : Po} {d : D} {S : Store} : (thP f P).rt d S = P.rt d S := rfl
@[simp] theorem th_bk {f : Env → Store → RS} {P : Po} {ds : Env} {S : Store} : (thP f P).bk ds S = P.bk ds S := rfl
@[simp] theorem th_ct {f : Env → Store → RS} {P : Po} {ds : Env} {S : Store} : (thP f P).ct ds S = P.ct ds S := rfl
@[simp] theorem WS_then {r : RS} {f : Env → Store → RS} {P : Po} : WS (r.then f) P = WS r (thP f P) := by cases r <;> rfl
@[simp] theorem WS_nx {ds : Env} {S : Store} {P : Po} : WS (.nx ds S) P = P.nx ds S := rfl
@[simp] theorem WS_rt {d : D} {S : Store} {P : Po} : WS (.rt d S) P = P.rt d S := rfl
@[simp] theorem WS_bk {ds : Env} {S : Store} {P : Po} : WS (.bk ds S) P = P.bk ds S := rfl
@[simp] theorem WS_ct {ds : Env} {S : Store} {P : Po} : WS (.ct ds S) P = P.ct ds S := rfl
@[simp] theorem WS_bad {P : Po} : WS .bad P = False := rfl
def fiP (keep : Bool) (S : Store) (Q : D → Store → Prop) : Po := { nx := fun _ S' => W (fin keep S .non S') Q, rt := fun d S' => W (fin keep S d S') Q }
@[simp] theorem fi_nx {keep : Bool} {S S' : Store} {Q : D → Store → Prop} {ds : Env} : (fiP keep S Q).nx ds S' = W (fin keep S .non S') Q := rfl
@[simp] theorem fi_rt {keep : Bool} {S S' : Store} {Q : D → Store → Prop} {d : D} : (fiP keep S Q).rt d S' = W (fin keep S d S') Q := rfl
@[simp] theorem fi_bk {keep : Bool} {S S' : Store} {Q : D → Store → Prop} {ds : Env} : (fiP keep S Q).bk ds S' = False := rfl
@[simp] theorem fi_ct {keep : Bool} {S S' : Store} {Q : D → Store → Prop} {ds : Env} : (fiP keep S Q).ct ds S' = False := rfl
@[simp] theorem W_fin {keep : Bool} {S : Store} {r : RS} {Q : D → Store → Prop} : W (finR keep S r) Q = WS r (fiP keep S Q) := by cases r <;> rfl
theorem W.mono {α : Type} {r : R α} {Q Q' : α → Store → Prop} (h : W r Q) (w : ∀ a S, Q a S → Q' a S) : W r Q' := by
  cases r with
  | ok a S => exact w a S h
  | bad => exact h
theorem WS.mono {r : RS} {P P' : Po} (h : WS r P) (n : ∀ ds S, P.nx ds S → P'.nx ds S) (t : ∀ d S, P.rt d S → P'.rt d S) (b : ∀ ds S, P.bk ds S → P'.bk ds S) (c : ∀ ds S, P.ct ds S → P'.ct ds S) : WS r P' := by
  cases r with
  | nx ds S => exact n _ _ h
  | rt ds S => exact t _ _ h
  | bk ds S => exact b _ _ h
  | ct ds S => exact c _ _ h
  | bad => exact h
theorem W_of {α : Type} {r : R α} {a : α} {S : Store} {Q : α → Store → Prop} (e : r = .ok a S) (h : Q a S) : W r Q := by rw [e]; exact h
theorem W_ex {α : Type} {r : R α} {Q : α → Store → Prop} (h : W r Q) : ∃ a S, r = .ok a S ∧ Q a S := by
  cases r with
  | ok a S => exact ⟨a, S, rfl, h⟩
  | bad => exact h.elim
theorem W_call {tab : Nat → FD} {k g m n : Nat} {keep : Bool} {b : (Nat → EvC) → EvS} {xs : List D} {S : Store} {Q : D → Store → Prop} (h : tab g = ⟨keep, m, n, b⟩) (hl : xs.length = n)
    (w : WS (b (evC tab k) (xs.map some ++ List.replicate (m - n) none) S) (fiP keep S Q)) : W (evC tab (k + 1) g xs S) Q := by
  rw [ev_call h hl, W_fin]
  exact w
@[simp] theorem line_eq : sizeLine = 16777216 := rfl

/-! ### the small operations at plain values -/
section
variable {S : Store}
@[simp] theorem eqD_int {i j : Int} : eqD (.int i) (.int j) S = .ok (.bl (decide (i = j))) S := rfl
@[simp] theorem neD_int {i j : Int} : neD (.int i) (.int j) S = .ok (.bl (!decide (i = j))) S := rfl
@[simp] theorem eqD_str {i j : Str} : eqD (.str i) (.str j) S = .ok (.bl (decide (i = j))) S := rfl
@[simp] theorem neD_str {i j : Str} : neD (.str i) (.str j) S = .ok (.bl (!decide (i = j))) S := rfl
@[simp] theorem eqD_bl {i j : Bool} : eqD (.bl i) (.bl j) S = .ok (.bl (decide (i = j))) S := rfl
@[simp] theorem neD_bl {i j : Bool} : neD (.bl i) (.bl j) S = .ok (.bl (!decide (i = j))) S := rfl
@[simp] theorem eqD_tn {xs : List D} : eqD (.tup xs) (.tup []) S = .ok (.bl xs.isEmpty) S := rfl
@[simp] theorem neD_tn {xs : List D} : neD (.tup xs) (.tup []) S = .ok (.bl (!xs.isEmpty)) S := rfl
@[simp] theorem eqD_ln {xs : List D} : eqD (.lst xs) (.lst []) S = .ok (.bl xs.isEmpty) S := rfl
@[simp] theorem neD_ln {xs : List D} : neD (.lst xs) (.lst []) S = .ok (.bl (!xs.isEmpty)) S := rfl
@[simp] theorem isD_non {x : D} : isD x .non S = .ok (.bl (isNonD x)) S := rfl
@[simp] theorem isNotD_non {x : D} : isNotD x .non S = .ok (.bl (!isNonD x)) S := rfl
@[simp] theorem isD_bl {a b : Bool} : isD (.bl a) (.bl b) S = .ok (.bl (decide (a = b))) S := rfl
@[simp] theorem isNotD_bl {a b : Bool} : isNotD (.bl a) (.bl b) S = .ok (.bl (!decide (a = b))) S := rfl
@[simp] theorem nonD_non : isNonD .non = true := rfl
@[simp] theorem nonD_int {i : Int} : isNonD (.int i) = false := rfl
@[simp] theorem nonD_str {i : Str} : isNonD (.str i) = false := rfl
@[simp] theorem nonD_bl {i : Bool} : isNonD (.bl i) = false := rfl
@[simp] theorem nonD_tup {xs : List D} : isNonD (.tup xs) = false := rfl
@[simp] theorem nonD_lst {xs : List D} : isNonD (.lst xs) = false := rfl
@[simp] theorem intC_bl {b : Bool} : intC [.bl b] S = .ok (.int (if b then 1 else 0)) S := rfl
@[simp] theorem intC_int {i : Int} : intC [.int i] S = .ok (.int i) S := rfl
@[simp] theorem lenC_lst {xs : List D} : lenC [.lst xs] S = .ok (.int xs.length) S := rfl
@[simp] theorem lenC_rol {xs : List D} : lenC [.rol xs] S = .ok (.int xs.length) S := rfl
@[simp] theorem lenC_tup {xs : List D} : lenC [.tup xs] S = .ok (.int xs.length) S := rfl
theorem lenC_str {z : Str} (h : z.length ≤ 16777216) : lenC [.str z] S = .ok (.int z.length) S := by
  have e : lenB S (.str z) = some z.length := if_pos (show z.length ≤ sizeLine from h)
  unfold lenC
  simp only [e]
@[simp] theorem tupleC_lst {xs : List D} : tupleC [.lst xs] S = .ok (.tup xs) S := rfl
@[simp] theorem tupleC_tup {xs : List D} : tupleC [.tup xs] S = .ok (.tup xs) S := rfl
@[simp] theorem listC_tup {xs : List D} : listC [.tup xs] S = .ok (.lst xs) S := rfl
@[simp] theorem listC_lst {xs : List D} : listC [.lst xs] S = .ok (.lst xs) S := rfl
@[simp] theorem addD_lst {xs ys : List D} : addD (.lst xs) (.lst ys) S = if xs.length + ys.length ≤ sizeLine then .ok (.lst (xs ++ ys)) S else .bad := rfl
@[simp] theorem addD_tup {xs ys : List D} : addD (.tup xs) (.tup ys) S = if xs.length + ys.length ≤ sizeLine then .ok (.tup (xs ++ ys)) S else .bad := rfl
@[simp] theorem tyM_str {z : Str} : tyM S (.str z) = "str" := rfl
@[simp] theorem tyM_lst {z : List D} : tyM S (.lst z) = "list" := rfl
@[simp] theorem revD_tup {xs : List D} : revD (.tup xs) S = .ok (.tup xs.reverse) S := rfl
end

/-! ### places -/
theorem W_ixL {xs : List D} {i : Int} {S : Store} {Q : D → Store → Prop} (h : 0 ≤ i) (h2 : i < xs.length) (w : ∀ d, d ∈ xs → Q d S) : W (ixD (.lst xs) (.int i) S) Q := by
  rw [ix_lst (atI_ok h h2)]
  exact w _ (List.getElem_mem _)
theorem W_ixT {xs : List D} {i : Int} {S : Store} {Q : D → Store → Prop} (h : 0 ≤ i) (h2 : i < xs.length) (w : ∀ d, d ∈ xs → Q d S) : W (ixD (.tup xs) (.int i) S) Q := by
  rw [ix_tup (atI_ok h h2)]
  exact w _ (List.getElem_mem _)
theorem W_ixZ {z : Str} {i : Int} {S : Store} {Q : D → Store → Prop} (hz : z.length ≤ 16777216) (h : 0 ≤ i) (h2 : i < z.length) (w : ∀ c, c ∈ z.cps.toList → Q (.str ⟨#[c]⟩) S) : W (ixD (.str z) (.int i) S) Q := by
  have e : atI z.cps.toList i = some (z.cps.toList[i.toNat]'(by rw [Array.length_toList]; have : (z.length : Int) = (z.cps.size : Int) := rfl; omega)) := atI_ok h (by rw [Array.length_toList]; exact h2)
  simp only [ixD, ixZ, e]
  rw [if_pos (show z.length ≤ sizeLine from hz)]
  exact w _ (List.getElem_mem _)

/-! ### draws -/
theorem W_draw {d : EvC} (hd : DrawOK d) {S : Store} {p m : Nat} {many : Int} {Q : D → Store → Prop} (hP : Pn S p (m + 1)) (h1 : 0 < many) (h2 : many < 1073741824)
    (w : ∀ r c, 0 ≤ r → r < many → PnC c m → Q (.int r) (S.set p c)) : W (d [.ref p, .int many] S) Q := by
  obtain ⟨r, c, a1, a2, a3, e⟩ := hd S p m many hP h1 h2
  rw [e]
  exact w r c a1 a2 a3
theorem set_same {S : Store} {p : Nat} {c : C} (h : S[p]? = some c) : S.set p c = S := by
  apply List.ext_getElem?
  intro n
  by_cases hn : p = n
  · subst hn
    rw [List.getElem?_set_self (List.getElem?_eq_some_iff.mp h).1, h]
  · rw [List.getElem?_set_ne hn]
/-- what a drawing call does: it changes the pen alone -/
def Dr (S : Store) (p m : Nat) (G : D → Prop) : D → Store → Prop := fun d S' => ∃ c, S' = S.set p c ∧ PnC c m ∧ G d
theorem Dr.of {S S' : Store} {p m : Nat} {G : D → Prop} {d : D} {c : C} (e : S' = S.set p c) (h : PnC c m) (g : G d) : Dr S p m G d S' := ⟨c, e, h, g⟩
/-- the pen after it -/
theorem W_dr {r : R D} {S : Store} {p m : Nat} {G : D → Prop} {Q : D → Store → Prop} (h : W r (Dr S p m G)) (w : ∀ d c, PnC c m → G d → Q d (S.set p c)) : W r Q := h.mono fun d S' ⟨c, e, hc, g⟩ => by
  subst e
  exact w d c hc g
theorem W_finset {keep : Bool} {S S' : Store} {d : D} {p : Nat} {c : C} {m : Nat} {Q : D → Store → Prop} (e : S' = S.set p c) (hd : Pu d) (hc : PnC c m) (w : Q d (S.set p c)) : W (fin keep S d S') Q := by
  subst e
  rw [fin_set (hd.lw _) (hc.lw _)]
  exact w
theorem W_finsame {keep : Bool} {S : Store} {d : D} {Q : D → Store → Prop} (hd : Pu d) (w : Q d S) : W (fin keep S d S) Q := by
  rw [fin_same (hd.lw _)]
  exact w

/-! ### comprehensions -/
theorem compL_pure {t : EvG} {c : EvT} {el : EvE} {ds : Env} {S : Store} (p : D → Bool) (f : D → D) : ∀ {xs : List D}, (∀ x ∈ xs, ∃ ds1, t x ds = some ds1 ∧ c ds1 S = .ok (p x) S ∧ (p x = true → el ds1 S = .ok (f x) S)) → compL gT t c el xs ds S = .ok ((xs.filter p).map f) S
  | [], _ => by
    unfold compL
    exact if_pos trivial
  | x :: xs, h => by
    obtain ⟨ds1, e1, e2, e3⟩ := h x List.mem_cons_self
    have ih := compL_pure p f (xs := xs) fun y hy => h y (List.mem_cons_of_mem _ hy)
    unfold compL
    rw [if_pos trivial, e1]
    simp only [e2, R.bind_ok, ih]
    cases hp : p x with
    | true => simp [hp, e3 hp, ih]
    | false => simp [hp, ih]
/-- [f(x) for x in xs if p(x)], without a store's change -/
theorem W_comp_pure {own : List Nat} {t : EvG} {c : EvT} {el : EvE} {ds : Env} {S : Store} {xs : List D} {Q : D → Store → Prop} (p : D → Bool) (f : D → D) (hl : xs.length ≤ 16777216)
    (h : ∀ x ∈ xs, ∃ ds1, t x (wipeD ds own) = some ds1 ∧ c ds1 S = .ok (p x) S ∧ (p x = true → el ds1 S = .ok (f x) S)) (w : Q (.lst ((xs.filter p).map f)) S) : W (compK own t c el ds (xs, gT) S) Q := by
  rw [compK_ok hl (compL_pure p f h)]
  exact w
theorem compL_draw {t : EvG} {el : EvE} {ds : Env} {w p : Nat} {G : D → Prop} {S0 : Store} (hp : p < S0.length) : ∀ {xs : List D}, (∀ x ∈ xs, ∃ ds1, t x ds = some ds1 ∧ ∀ c m, PnC c (m + w) → W (el ds1 (S0.set p c)) (Dr S0 p m G)) →
    ∀ {c : C} {m : Nat}, PnC c (m + xs.length * w) → ∃ ys c', compL gT t cYes el xs ds (S0.set p c) = .ok ys (S0.set p c') ∧ PnC c' m ∧ ys.length = xs.length ∧ ∀ y ∈ ys, G y
  | [], _, c, m, hc => by
    refine ⟨[], c, ?_, hc.le (by omega), rfl, by simp⟩
    unfold compL
    exact if_pos trivial
  | x :: xs, h, c, m, hc => by
    obtain ⟨ds1, e1, e2⟩ := h x List.mem_cons_self
    obtain ⟨d, S1, e3, c1, rfl, hc1, hg⟩ := W_ex (e2 c (m + xs.length * w) (hc.le (by rw [List.length_cons, Nat.succ_mul]; omega)))
    obtain ⟨ys, c2, e4, hc2, hl, hG⟩ := compL_draw hp (xs := xs) (fun y hy => h y (List.mem_cons_of_mem _ hy)) hc1
    refine ⟨d :: ys, c2, ?_, hc2, by simp [hl], fun y hy => ?_⟩
    · unfold compL
      rw [if_pos trivial, e1]
      simp [e3, e4]
    · rcases List.mem_cons.mp hy with rfl | hy
      · exact hg
      · exact hG y hy
/-- [f(held, ..) for x in xs] -/
theorem W_comp_draw {own : List Nat} {t : EvG} {el : EvE} {ds : Env} {S : Store} {p w m : Nat} {xs : List D} {Q : D → Store → Prop} {G : D → Prop} (hl : xs.length ≤ 16777216) (hP : Pn S p (m + xs.length * w))
    (h : ∀ x ∈ xs, ∃ ds1, t x (wipeD ds own) = some ds1 ∧ ∀ c m, PnC c (m + w) → W (el ds1 (S.set p c)) (Dr S p m G)) (q : ∀ ys c, PnC c m → ys.length = xs.length → (∀ y ∈ ys, G y) → Q (.lst ys) (S.set p c)) : W (compK own t cYes el ds (xs, gT) S) Q := by
  obtain ⟨c, e, hc⟩ := hP
  obtain ⟨ys, c', e1, hc', hl', hG⟩ := compL_draw (p := p) (List.getElem?_eq_some_iff.mp e).1 h hc
  rw [set_same e] at e1
  rw [compK_ok hl e1]
  exact q ys c' hc' hl' hG
theorem range_len {lo : Int} {n : Nat} : (rangeD lo n).length = n := by simp [rangeD]
theorem W_range1 {j : Int} {S : Store} {Q : List D × (Store → Prop) → Store → Prop} (h : 0 ≤ j) (h2 : j < 4611686018427387904) (w : Q (rangeD 0 j.toNat, gT) S) : W (rg1K (.int j) S) Q := by
  rw [rg1_ok h h2]
  exact w

/-! ### for -/
theorem forL_inv {t : EvG} {body : EvS} {P : Po} (I : List D → Env → Store → Prop) (gd : Store → Prop) : ∀ {xs : List D} {ds : Env} {S : Store}, I xs ds S → (∀ x xs ds S, I (x :: xs) ds S → gd S ∧ ∃ ds1, t x ds = some ds1 ∧ WS (body ds1 S) { nx := I xs, ct := I xs, bk := P.nx, rt := P.rt }) → (∀ ds S, I [] ds S → gd S ∧ P.nx ds S) → WS (forL gd t body xs ds S) P
  | [], ds, S, h, hs, he => by
    obtain ⟨g, q⟩ := he ds S h
    unfold forL
    rw [if_pos g]
    exact q
  | x :: xs, ds, S, h, hs, he => by
    obtain ⟨g, ds1, e1, e2⟩ := hs x xs ds S h
    unfold forL
    rw [if_pos g, e1]
    simp only
    cases hb : body ds1 S with
    | nx ds2 S2 => rw [hb] at e2; exact forL_inv I gd e2 hs he
    | ct ds2 S2 => rw [hb] at e2; exact forL_inv I gd e2 hs he
    | bk ds2 S2 => rw [hb] at e2; exact e2
    | rt d S2 => rw [hb] at e2; exact e2
    | bad => rw [hb] at e2; exact e2.elim
end Rk

namespace Rk
open PySem L2 TL

theorem Dr.back {S : Store} {p m : Nat} {c : C} {G G' : D → Prop} {d : D} {S' : Store} (h : Dr (S.set p c) p m G d S') (g : ∀ d, G d → G' d) : Dr S p m G' d S' := by
  obtain ⟨c', e, hc, hg⟩ := h
  exact ⟨c', by rw [e, List.set_set], hc, g d hg⟩
@[simp] theorem dr_set {S : Store} {p m : Nat} {c : C} {G : D → Prop} : Dr (S.set p c) p m G = Dr S p m G := by
  funext d S'
  unfold Dr
  simp only [List.set_set]
theorem Dr.imp {S : Store} {p m : Nat} {G G' : D → Prop} {d : D} {S' : Store} (h : Dr S p m G d S') (g : ∀ d, G d → G' d) : Dr S p m G' d S' := by
  obtain ⟨c', e, hc, hg⟩ := h
  exact ⟨c', e, hc, g d hg⟩
theorem PnC.pn {S : Store} {p m : Nat} {c : C} (hc : PnC c m) (h : p < S.length) : Pn (S.set p c) p m := Pn.set h hc

/-! ### one of some -/
noncomputable def pickB (dr : EvC) : EvS := (sRet (fBin ixD (fVar 1) (fCall dr (fCons (fVar 0) (fCons (fCall lenC (fCons (fVar 1) fNil)) fNil)))))
structure PickOK (pk : EvC) : Prop where
  lst : ∀ (S : Store) (p m : Nat) (xs : List D), Pn S p (m + 1) → xs ≠ [] → xs.length < 1073741824 → (∀ d ∈ xs, Pu d) → W (pk [.ref p, .lst xs] S) (Dr S p m (· ∈ xs))
  str : ∀ (S : Store) (p m : Nat) (z : Str), Pn S p (m + 1) → 0 < z.length → z.length ≤ 16777216 → W (pk [.ref p, .str z] S) (Dr S p m fun d => ∃ c, c ∈ z.cps.toList ∧ d = .str ⟨#[c]⟩)
theorem pick_ok {tab : Nat → FD} {g k : Nat} {b : (Nat → EvC) → EvS} {dr : EvC} (h : tab g = ⟨false, 2, 2, b⟩) (hb : b (evC tab k) = pickB dr) (hd : DrawOK dr) : PickOK (evC tab (k + 1) g) := by
  refine ⟨fun S p m xs hP hn hl hp => ?_, fun S p m z hP hn hl => ?_⟩
  · refine W_call h rfl ?_
    rw [hb]
    simp [pickB]
    have : 0 < xs.length := List.length_pos_iff.mpr hn
    refine W_draw hd hP (by omega) (by omega) fun r c h1 h2 hc => ?_
    refine W_ixL h1 h2 fun d hm => ?_
    exact W_finset rfl (hp d hm) hc ⟨c, rfl, hc, hm⟩
  · refine W_call h rfl ?_
    rw [hb]
    simp [pickB, lenC_str hl]
    refine W_draw hd hP (by omega) (by omega) fun r c h1 h2 hc => ?_
    refine W_ixZ hl h1 h2 fun d hm => ?_
    exact W_finset rfl rfl hc ⟨c, rfl, hc, d, Array.mem_toList_iff.mp hm, rfl⟩

/-! ### words -/
def ltr (c : Nat) : Prop := 97 ≤ c ∧ c ≤ 122
structure Wd (z : Str) : Prop where
  pos : 1 ≤ z.length
  le : z.length ≤ 8
  all : ∀ c ∈ z.cps.toList, 97 ≤ c ∧ c ≤ 122
def wdB (z : Str) : Bool := decide (1 ≤ z.length) && decide (z.length ≤ 8) && z.cps.toList.all fun c => decide (97 ≤ c ∧ c ≤ 122)
theorem wd_iff {z : Str} : Wd z ↔ wdB z = true := by
  unfold wdB
  simp only [Bool.and_eq_true, decide_eq_true_eq, List.all_eq_true]
  exact ⟨fun h => ⟨⟨h.1, h.2⟩, h.3⟩, fun h => ⟨h.1.1, h.1.2, h.2⟩⟩
theorem toDs {P : Nat → Prop} : ∀ {ys : List D}, (∀ y ∈ ys, ∃ c, P c ∧ y = .str ⟨#[c]⟩) → ∃ cs : List Nat, ys = cs.map (fun c => D.str ⟨#[c]⟩) ∧ ∀ c ∈ cs, P c
  | [], _ => ⟨[], rfl, by simp⟩
  | y :: ys, h => by
    obtain ⟨c, hc, rfl⟩ := h y List.mem_cons_self
    obtain ⟨cs, rfl, hcs⟩ := toDs fun z hz => h z (List.mem_cons_of_mem _ hz)
    exact ⟨c :: cs, rfl, by simpa using ⟨hc, hcs⟩⟩
theorem strs_signs : ∀ cs : List Nat, strsD (cs.map fun c => D.str ⟨#[c]⟩) = some (cs.map fun c => (⟨#[c]⟩ : Str))
  | [] => rfl
  | c :: cs => by simp [strsD, strs_signs cs]
theorem joinL_signs : ∀ cs : List Nat, joinL [] (cs.map fun c => [c]) = cs
  | [] => rfl
  | [c] => rfl
  | c :: d :: cs => by
    have ih := joinL_signs (d :: cs)
    simp only [List.map_cons] at ih ⊢
    unfold joinL
    simp only [ih]
    rfl
theorem tjoin (y : Str) (parts : List Str) : tl (Txt.join y parts) = joinL (tl y) (parts.map tl) := by
  rw [show Txt.join y parts = Str.join y parts from StrLaws.glued_eq_join y parts]
  exact tl_join y parts
theorem join_signs (cs : List Nat) : Txt.join (Str.ofString "") (cs.map fun c => (⟨#[c]⟩ : Str)) = ⟨cs.toArray⟩ := by
  apply ext_tl
  rw [tjoin, List.map_map]
  exact joinL_signs cs
theorem sum_ones (cs : List Nat) : ((cs.map fun c => (⟨#[c]⟩ : Str)).map Str.length).sum = cs.length := by
  induction cs with
  | nil => rfl
  | cons c cs ih =>
    simp only [List.map_cons, List.sum_cons, ih, List.length_cons]
    show 1 + cs.length = _
    omega
theorem joinM_signs {cs : List Nat} {S : Store} (h : cs.length ≤ 16777216) : joinM (.str (Str.ofString "")) [.lst (cs.map fun c => D.str ⟨#[c]⟩)] S = .ok (.str ⟨cs.toArray⟩) S := by
  show (match strsD (cs.map fun c => D.str ⟨#[c]⟩) with
    | some zs => if ((zs : List Str).map Str.length).sum + zs.length * (Str.ofString "").length ≤ 16777216 then R.ok (D.str (Txt.join (Str.ofString "") zs)) S else .bad
    | none => .bad) = _
  rw [strs_signs]
  simp only
  rw [if_pos, join_signs]
  rw [sum_ones, show (Str.ofString "").length = 0 from rfl]
  omega
noncomputable def wordB (dr pk : EvC) : EvS :=
  (sSeq (sSet 1 (fLst (fCons (fC (.str "say")) (fCons (fC (.str "kept")) (fCons (fC (.str "none")) (fCons (fC (.str "a")) (fCons (fC (.str "z")) (fCons (fC (.str "abcdefgh")) (fCons (fC (.str "zzzzzzzz")) (fCons (fC (.str "post")) fNil))))))))))
    (sSeq (sSet 2 (fC (.str "abcdefghijklmnopqrstuvwxyz")))
    (sSeq (sSet 3 (fBM "str" joinM (fC (.str "")) (fCons (fComp (iRange1 (fBin addD (fC (.int 1)) (fCall dr (fCons (fVar 0) (fCons (fC (.int 8)) fNil))))) [4] (tgN 4) cYes (fCall pk (fCons (fVar 0) (fCons (fVar 2) fNil)))) fNil)))
    (sRet (fBin ixD (fLst (fCons (fVar 3) (fCons (fCall pk (fCons (fVar 0) (fCons (fVar 1) fNil))) fNil))) (fCall dr (fCons (fVar 0) (fCons (fC (.int 2)) fNil))))))))
def isWd (d : D) : Prop := ∃ z, d = .str z ∧ Wd z
def WordOK (wd : EvC) : Prop := ∀ (S : Store) (p m : Nat), Pn S p (m + 11) → W (wd [.ref p] S) (Dr S p m isWd)
theorem letters_all : ∀ c ∈ (Str.ofString "abcdefghijklmnopqrstuvwxyz").cps.toList, 97 ≤ c ∧ c ≤ 122 := by decide +kernel
theorem letters_len : (Str.ofString "abcdefghijklmnopqrstuvwxyz").length = 26 := by decide +kernel
theorem words_all : ∀ d ∈ [D.str (Str.ofString "say"), .str (Str.ofString "kept"), .str (Str.ofString "none"), .str (Str.ofString "a"), .str (Str.ofString "z"), .str (Str.ofString "abcdefgh"), .str (Str.ofString "zzzzzzzz"), .str (Str.ofString "post")], isWd d := by
  intro d hd
  simp only [List.mem_cons, List.not_mem_nil, or_false] at hd
  rcases hd with rfl | rfl | rfl | rfl | rfl | rfl | rfl | rfl <;> exact ⟨_, rfl, wd_iff.mpr (by decide +kernel)⟩
theorem isWd.pu {d : D} (h : isWd d) : Pu d := by
  obtain ⟨z, rfl, _⟩ := h
  rfl
theorem word_ok {tab : Nat → FD} {g k : Nat} {b : (Nat → EvC) → EvS} {dr pk : EvC} (h : tab g = ⟨false, 5, 1, b⟩) (hb : b (evC tab k) = wordB dr pk) (hd : DrawOK dr) (hk : PickOK pk) : WordOK (evC tab (k + 1) g) := by
  intro S p m hP
  have hp := hP.lt
  refine W_call h rfl ?_
  rw [hb]
  simp [wordB]
  refine W_draw hd (m := m + 10) hP (by omega) (by omega) fun r c h1 h2 hc => ?_
  simp
  refine W_range1 (by omega) (by omega) ?_
  refine W_comp_draw (p := p) (w := 1) (m := m + 2) (G := fun d => ∃ c, (97 ≤ c ∧ c ≤ 122) ∧ d = .str ⟨#[c]⟩) (by rw [range_len]; omega) ((hc.pn hp).le (by rw [range_len]; omega)) (fun x _ => ⟨_, rfl, fun c' m' hc' => ?_⟩) fun ys c' hc' hl hG => ?_
  · simp
    refine (hk.str _ p m' _ ((hc'.pn hp)) (by rw [letters_len]; omega) (by rw [letters_len]; omega)).mono fun d S' hD => ?_
    simp only [dr_set] at hD ⊢
    exact hD.imp fun d ⟨c, h1, h2⟩ => (⟨c, letters_all c h1, h2⟩ : ∃ c : Nat, (97 ≤ c ∧ c ≤ 122) ∧ d = D.str ⟨#[c]⟩)
  · obtain ⟨cs, rfl, hcs⟩ := toDs hG
    rw [range_len] at hl
    simp only [List.length_map] at hl
    simp
    rw [joinM_signs (by omega)]
    simp
    refine W_dr (hk.lst _ p (m + 1) _ (hc'.pn hp) (by simp) (by simp) fun d hd => (words_all d hd).pu) fun d c2 hc2 hd2 => ?_
    simp
    refine W_draw hd (hc2.pn hp) (by omega) (by omega) fun r2 c3 h3 h4 hc3 => ?_
    refine W_ixL h3 (by simpa using h4) fun d' hd' => ?_
    have hw : isWd d' := by
      simp only [List.mem_cons, List.not_mem_nil, or_false] at hd'
      rcases hd' with rfl | rfl
      · refine ⟨_, rfl, ?_, ?_, fun c hc => hcs c (by simpa using hc)⟩
        · show 1 ≤ cs.toArray.size
          rw [List.size_toArray]; omega
        · show cs.toArray.size ≤ 8
          rw [List.size_toArray]; omega
      · exact words_all d' hd2
    exact W_finset (p := p) (c := c3) (m := m) (by simp) hw.pu hc3 ⟨c3, rfl, hc3, hw⟩
end Rk

namespace Rk
open PySem L2 TL

/-! ### kinds of things -/
def ok1 : D → Bool
  | .ref _ => false
  | .fn _ => false
  | .ty _ => false
  | .kd _ => false
  | .str z => decide (z.length ≤ 16777216)
  | _ => true
def isIntT : D → Bool
  | .int _ => true
  | .bl _ => true
  | _ => false
def isBlT : D → Bool
  | .bl _ => true
  | _ => false
def isStrT : D → Bool
  | .str _ => true
  | _ => false
def isTupT : D → Bool
  | .tup _ => true
  | _ => false
def isLstT : D → Bool
  | .lst _ => true
  | .rol _ => true
  | _ => false
theorem isi_of {d : D} {T t : String} {b : Bool} {S : Store} (h : tyN S d = some t) (h2 : kitB t T = some b) : isiC [d, .ty T] S = .ok (.bl b) S := by
  show (match tyN S d with
    | some t => match kitB t T with
      | some b => R.ok (D.bl b) S
      | none => .bad
    | none => .bad) = _
  rw [h]
  simp only [h2]
theorem isi_int {d : D} {S : Store} (h : ok1 d = true) : isiC [d, .ty "int"] S = .ok (.bl (isIntT d)) S := by
  cases d <;> first | exact isi_of rfl (show kitB _ _ = some true from by decide +kernel) | exact isi_of rfl (show kitB _ _ = some false from by decide +kernel) | exact absurd h (by simp [ok1])
theorem isi_bool {d : D} {S : Store} (h : ok1 d = true) : isiC [d, .ty "bool"] S = .ok (.bl (isBlT d)) S := by
  cases d <;> first | exact isi_of rfl (show kitB _ _ = some true from by decide +kernel) | exact isi_of rfl (show kitB _ _ = some false from by decide +kernel) | exact absurd h (by simp [ok1])
theorem isi_str {d : D} {S : Store} (h : ok1 d = true) : isiC [d, .ty "str"] S = .ok (.bl (isStrT d)) S := by
  cases d <;> first | exact isi_of rfl (show kitB _ _ = some true from by decide +kernel) | exact isi_of rfl (show kitB _ _ = some false from by decide +kernel) | exact absurd h (by simp [ok1])
theorem isi_tuple {d : D} {S : Store} (h : ok1 d = true) : isiC [d, .ty "tuple"] S = .ok (.bl (isTupT d)) S := by
  cases d <;> first | exact isi_of rfl (show kitB _ _ = some true from by decide +kernel) | exact isi_of rfl (show kitB _ _ = some false from by decide +kernel) | exact absurd h (by simp [ok1])
theorem isi_list {d : D} {S : Store} (h : ok1 d = true) : isiC [d, .ty "list"] S = .ok (.bl (isLstT d)) S := by
  cases d <;> first | exact isi_of rfl (show kitB _ _ = some true from by decide +kernel) | exact isi_of rfl (show kitB _ _ = some false from by decide +kernel) | exact absurd h (by simp [ok1])
@[simp] theorem lw_non {k : Nat} : D.lw k .non = true := rfl
@[simp] theorem lw_bl {k : Nat} {b : Bool} : D.lw k (.bl b) = true := rfl
@[simp] theorem lw_int {k : Nat} {b : Int} : D.lw k (.int b) = true := rfl
@[simp] theorem lw_str {k : Nat} {b : Str} : D.lw k (.str b) = true := rfl
@[simp] theorem fin_non {keep : Bool} {S : Store} : fin keep S .non S = .ok .non S := fin_same rfl
@[simp] theorem fin_bl {keep b : Bool} {S : Store} : fin keep S (.bl b) S = .ok (.bl b) S := fin_same rfl
@[simp] theorem fin_int {keep : Bool} {b : Int} {S : Store} : fin keep S (.int b) S = .ok (.int b) S := fin_same rfl
@[simp] theorem fin_str {keep : Bool} {b : Str} {S : Store} : fin keep S (.str b) S = .ok (.str b) S := fin_same rfl

/-! ### is_from -/
noncomputable def fromB : EvS := (sRet (fAnd (fCall isiC (fCons (fVar 0) (fCons (fC (.ty "int")) fNil))) (fAnd (fNot (fCall isiC (fCons (fVar 0) (fCons (fC (.ty "bool")) fNil)))) (fChain leD leD (fVar 1) (fVar 0) (fVar 2)))))
def isF (a b : Int) : D → Bool
  | .int i => decide (a ≤ i) && decide (i ≤ b)
  | _ => false
def FromOK (f : EvC) : Prop := ∀ (d : D) (a b : Int) (S : Store), ok1 d = true → f [d, .int a, .int b] S = .ok (.bl (isF a b d)) S
theorem from_ok {tab : Nat → FD} {g k : Nat} {b : (Nat → EvC) → EvS} (h : tab g = ⟨false, 3, 3, b⟩) (hb : b (evC tab k) = fromB) : FromOK (evC tab (k + 1) g) := by
  intro d lo hi S hd
  rw [ev_call h rfl, hb]
  simp only [List.map_cons, List.map_nil, Nat.sub_self, List.replicate_zero, List.append_nil]
  cases d <;> first | (cases hd; done) | skip
  case int i =>
    simp [fromB, isi_int hd, isi_bool hd, isIntT, isBlT, isF]
    by_cases h1 : lo ≤ i <;> simp [h1, fin_same]
  all_goals simp [fromB, isi_int hd, isi_bool hd, isIntT, isBlT, isF, fin_same]

/-! ### is_word -/
def isW : D → Bool
  | .str z => wdB z
  | _ => false
noncomputable def isWordB : EvS :=
  (sSeq (sIf (fTOr (fTNot (fTru (fCall isiC (fCons (fVar 0) (fCons (fC (.ty "str")) fNil))))) (fTNot (fB (fChain leD leD (fC (.int 1)) (fCall lenC (fCons (fVar 0) fNil)) (fC (.int 8)))))) (sRet (fC (.bl false))) sNil)
    (sRet (fCall allC (fCons (fComp (iVal (fVar 0)) [1] (tgN 1) cYes (fBin inD (fVar 1) (fC (.str "abcdefghijklmnopqrstuvwxyz")))) fNil))))
noncomputable def isWordL : EvS :=
  (sSeq (sIf (fTOr (fTNot (fTru (fCall isiC (fCons (fVar 0) (fCons (fC (.ty "str")) fNil))))) (fTNot (fB (fChain leD leD (fC (.int 1)) (fCall lenC (fCons (fVar 0) fNil)) (fC (.int 8)))))) (sRet (fC (.bl false))) sNil)
    (sRet (fBin eqD (fComp (iVal (fVar 0)) [1] (tgN 1) (fB (fBin notInD (fVar 1) (fC (.str "abcdefghijklmnopqrstuvwxyz")))) (fVar 1)) (fLst fNil))))
def IsWordOK (f : EvC) : Prop := ∀ (d : D) (S : Store), ok1 d = true → f [d] S = .ok (.bl (isW d)) S
def lt1 (c : Nat) : Bool := decide (c ∈ (Str.ofString "abcdefghijklmnopqrstuvwxyz").cps.toList)
theorem letters_eq : (Str.ofString "abcdefghijklmnopqrstuvwxyz").cps.toList = List.range' 97 26 := by decide +kernel
theorem lt1_eq (c : Nat) : lt1 c = decide (97 ≤ c ∧ c ≤ 122) := by
  unfold lt1
  rw [letters_eq]
  congr 1
  rw [List.mem_range'_1]
  exact propext ⟨fun h => ⟨h.1, by omega⟩, fun h => ⟨h.1, by omega⟩⟩
theorem inD_sign {c : Nat} {S : Store} : inD (.str ⟨#[c]⟩) (.str "abcdefghijklmnopqrstuvwxyz") S = .ok (.bl (lt1 c)) S := rfl
theorem notInD_sign {c : Nat} {S : Store} : notInD (.str ⟨#[c]⟩) (.str "abcdefghijklmnopqrstuvwxyz") S = .ok (.bl (!lt1 c)) S := rfl
theorem bools_map (xs : List D) (f : D → Bool) : bools (xs.map fun x => D.bl (f x)) = some (xs.map f) := by
  induction xs with
  | nil => rfl
  | cons x xs ih => simp [bools, ih]
theorem allC_lst {xs : List D} {f : D → Bool} {S : Store} : allC [.lst (xs.map fun x => D.bl (f x))] S = .ok (.bl (xs.all f)) S := by
  show (match bools (xs.map fun x => D.bl (f x)) with
      | some bs => R.ok (D.bl (bs.all id)) S
      | none => .bad) = _
  rw [bools_map]
  simp only [List.all_map]
  rfl
def sgn : D → Nat
  | .str z => z.cps.toList.headD 0
  | _ => 0
theorem signs_len (z : Str) : (signs z).length = z.length := by simp [signs, Str.length]
theorem signs_all (z : Str) (p : Nat → Bool) : (signs z).all (fun x => p (sgn x)) = z.cps.toList.all p := by
  unfold signs
  rw [List.all_map]
  congr 1
theorem isEmpty_filter (xs : List D) (p : D → Bool) : ((xs.filter p).map fun x => x).isEmpty = xs.all fun x => !p x := by
  rw [List.map_id']
  induction xs with
  | nil => rfl
  | cons x xs ih => by_cases h : p x = true <;> simp_all
theorem wdB_eq (z : Str) : wdB z = (decide (1 ≤ z.length ∧ z.length ≤ 8) && z.cps.toList.all lt1) := by
  unfold wdB
  rw [show lt1 = fun c => decide (97 ≤ c ∧ c ≤ 122) from funext lt1_eq]
  simp
theorem isWord_str {z : Str} (hz : z.length ≤ 16777216) {S : Store} {keep : Bool} :
    W (finR keep S (isWordB [some (.str z), none] S)) (fun d S' => d = .bl (wdB z) ∧ S' = S) ∧ W (finR keep S (isWordL [some (.str z), none] S)) (fun d S' => d = .bl (wdB z) ∧ S' = S) := by
  have hok : ok1 (.str z) = true := by simp [ok1, hz]
  have h0 : wipeD [some (.str z), none] [1] = [some (.str z), none] := rfl
  have hl : (signs z).length ≤ 16777216 := by rw [signs_len]; exact hz
  by_cases h1 : 1 ≤ z.length ∧ z.length ≤ 8
  · have e1 : (decide ((1 : Int) ≤ (z.length : Int))) = true := by simp; omega
    have e2 : (decide ((z.length : Int) ≤ 8)) = true := by simp; omega
    have e : wdB z = z.cps.toList.all lt1 := by rw [wdB_eq]; simp [h1]
    constructor
    · simp [isWordB, isi_str hok, isStrT, lenC_str hz, e1, e2]
      refine W_comp_pure (fun _ => true) (fun x => .bl (lt1 (sgn x))) hl (fun x hx => ⟨_, rfl, rfl, fun _ => ?_⟩) ?_
      · obtain ⟨c, hc, rfl⟩ := List.mem_map.mp hx
        simp [inD_sign, sgn]
      · rw [show ((signs z).filter fun _ => true) = signs z from List.filter_eq_self.mpr fun _ _ => rfl]
        show W (allC [.lst ((signs z).map fun x => .bl (lt1 (sgn x)))] S) _
        rw [allC_lst, signs_all]
        simp [fin_same, D.lw, e]
    · simp [isWordL, isi_str hok, isStrT, lenC_str hz, e1, e2]
      refine W_comp_pure (fun x => !lt1 (sgn x)) (fun x => x) hl (fun x hx => ?_) ?_
      · obtain ⟨c, hc, rfl⟩ := List.mem_map.mp hx
        refine ⟨_, rfl, ?_, fun _ => ?_⟩
        · simp [notInD_sign, sgn]
        · simp
      · simp [-List.map_id_fun', isEmpty_filter, -List.isEmpty_map]
        rw [signs_all, e]
  · have e : wdB z = false := by rw [wdB_eq]; simp [h1]
    have ef : ¬ ((1 : Int) ≤ (z.length : Int) ∧ (z.length : Int) ≤ 8) := fun q => h1 ⟨by omega, by omega⟩
    rw [e]
    by_cases h2 : (1 : Int) ≤ (z.length : Int)
    · have h3 : ¬ (z.length : Int) ≤ 8 := fun q => ef ⟨h2, q⟩
      constructor <;> simp [isWordB, isWordL, isi_str hok, isStrT, lenC_str hz, h2, h3, fin_same]
    · constructor <;> simp [isWordB, isWordL, isi_str hok, isStrT, lenC_str hz, h2, fin_same]
theorem R_of {r : R D} {d : D} {S : Store} (h : W r fun x S' => x = d ∧ S' = S) : r = .ok d S := by
  cases r with
  | ok a T => obtain ⟨rfl, rfl⟩ := h; rfl
  | bad => exact h.elim
theorem isWord_ok {tab : Nat → FD} {g k : Nat} {b : (Nat → EvC) → EvS} (h : tab g = ⟨false, 2, 1, b⟩) (hb : b (evC tab k) = isWordB ∨ b (evC tab k) = isWordL) : IsWordOK (evC tab (k + 1) g) := by
  intro d S hd
  rw [ev_call h rfl]
  show finR false S (b (evC tab k) [some d, none] S) = _
  by_cases hs : ∃ z, d = .str z
  · obtain ⟨z, rfl⟩ := hs
    have hz : z.length ≤ 16777216 := by simpa [ok1] using hd
    rcases hb with hb | hb <;> rw [hb]
    · exact R_of (isWord_str hz).1
    · exact R_of (isWord_str hz).2
  · have e1 : isStrT d = false := by cases d <;> first | rfl | exact absurd ⟨_, rfl⟩ hs
    have e2 : isW d = false := by cases d <;> first | rfl | exact absurd ⟨_, rfl⟩ hs
    rw [e2]
    rcases hb with hb | hb <;> rw [hb] <;> simp [isWordB, isWordL, isi_str hd, e1, fin_same]
end Rk

namespace Rk
open PySem L2 TL

def parts : D → List D
  | .tup xs => xs
  | _ => []
def atomV (d : D) : Bool := isNonD d || isW d || isF (-1000000000) 1000000000 d
/-- a worth, so deep -/
def isV : Nat → D → Bool
  | 0, d => atomV d
  | k + 1, d => atomV d || (isTupT d && decide ((parts d).length ≤ 20) && (parts d).all (isV k))
/-- a thing that may be asked -/
def okT : Nat → D → Bool
  | 0, d => ok1 d
  | k + 1, d => ok1 d && (parts d).all (okT k)
theorem okT.one {k : Nat} {d : D} (h : okT k d = true) : ok1 d = true := by
  cases k with
  | zero => exact h
  | succ k => simp only [okT, Bool.and_eq_true] at h; exact h.1
theorem atomV_tup {xs : List D} : atomV (.tup xs) = false := rfl
theorem tup_of {d : D} (h : isTupT d = true) : ∃ xs, d = .tup xs := by
  cases d <;> first | exact ⟨_, rfl⟩ | cases h

/-! ### is_worth -/
noncomputable def isVB (wd fr me : EvC) : EvS :=
  (sSeq (sIf (fTOr (fB (fBin isD (fVar 0) (fC .non))) (fTOr (fTru (fCall wd (fCons (fVar 0) fNil))) (fTru (fCall fr (fCons (fVar 0) (fCons (fUn negD (fC (.int 1000000000))) (fCons (fC (.int 1000000000)) fNil))))))) (sRet (fC (.bl true))) sNil)
    (sSeq (sIf (fTOr (fB (fBin eqD (fVar 1) (fC (.int 0)))) (fTOr (fTNot (fTru (fCall isiC (fCons (fVar 0) (fCons (fC (.ty "tuple")) fNil))))) (fB (fBin gtD (fCall lenC (fCons (fVar 0) fNil)) (fC (.int 20)))))) (sRet (fC (.bl false))) sNil)
    (sRet (fCall allC (fCons (fComp (iVal (fVar 0)) [2] (tgN 2) cYes (fCall me (fCons (fVar 2) (fCons (fBin subD (fVar 1) (fC (.int 1))) fNil)))) fNil)))))
noncomputable def isVL (wd fr me : EvC) : EvS :=
  (sSeq (sIf (fTru (fCall isiC (fCons (fVar 0) (fCons (fC (.ty "tuple")) fNil)))) (sRet (fAnd (fBin gtD (fVar 1) (fC (.int 0))) (fAnd (fBin leD (fCall lenC (fCons (fVar 0) fNil)) (fC (.int 20))) (fBin eqD (fComp (iVal (fVar 0)) [2] (tgN 2) (fTNot (fTru (fCall me (fCons (fVar 2) (fCons (fBin subD (fVar 1) (fC (.int 1))) fNil))))) (fVar 2)) (fLst fNil))))) sNil)
    (sRet (fOr (fBin isD (fVar 0) (fC .non)) (fOr (fCall wd (fCons (fVar 0) fNil)) (fCall fr (fCons (fVar 0) (fCons (fUn negD (fC (.int 1000000000))) (fCons (fC (.int 1000000000)) fNil))))))))
def IsVOK (k : Nat) (f : EvC) : Prop := ∀ (d : D) (S : Store), okT k d = true → f [d, .int k] S = .ok (.bl (isV k d)) S
theorem isV_step {wd fr me : EvC} (hw : IsWordOK wd) (hf : FromOK fr) {k : Nat} (hm : ∀ j, k = j + 1 → IsVOK j me) {d : D} {S : Store} {keep : Bool} (hd : okT k d = true) :
    W (finR keep S (isVB wd fr me [some d, some (.int k), none] S)) (fun x S' => x = .bl (isV k d) ∧ S' = S) ∧ W (finR keep S (isVL wd fr me [some d, some (.int k), none] S)) (fun x S' => x = .bl (isV k d) ∧ S' = S) := by
  have ho := okT.one hd
  by_cases ht : isTupT d = true
  · obtain ⟨xs, rfl⟩ := tup_of ht
    cases k with
    | zero => constructor <;> simp [isVB, isVL, hw _ _ ho, hf _ _ _ _ ho, isi_tuple ho, isTupT, isW, isF, isV, atomV]
    | succ k =>
      have hi := hm k rfl
      have e : ((k + 1 : Nat) : Int) - 1 = (k : Int) := by omega
      have e0 : ¬ ((k : Int) + 1 = 0) := by omega
      have e1 : (k : Int) + 1 - 1 = (k : Int) := by omega
      have e2 : (0 : Int) < (k : Int) + 1 := by omega
      simp only [okT, Bool.and_eq_true, List.all_eq_true, parts] at hd
      by_cases hl : xs.length ≤ 20
      · have hl' : ¬ (20 : Int) < (xs.length : Int) := by omega
        have hl2 : (xs.length : Int) ≤ 20 := by omega
        have ev : isV (k + 1) (.tup xs) = xs.all (isV k) := by simp [isV, atomV, isTupT, isW, isF, parts, hl]
        rw [ev]
        constructor
        · simp [isVB, hw _ _ ho, hf _ _ _ _ ho, isi_tuple ho, isTupT, isW, isF, e0, hl']
          refine W_comp_pure (fun _ => true) (fun x => .bl (isV k x)) (by omega) (fun x hx => ⟨_, rfl, rfl, fun _ => ?_⟩) ?_
          · simp [e1, hi x _ (hd.2 x hx)]
          · rw [show (xs.filter fun _ => true) = xs from List.filter_eq_self.mpr fun _ _ => rfl]
            show W (allC [.lst (xs.map fun x => .bl (isV k x))] S) _
            rw [allC_lst]
            simp
        · simp [isVL, isi_tuple ho, isTupT, e2, hl2]
          refine W_comp_pure (fun x => !isV k x) (fun x => x) (by omega) (fun x hx => ⟨_, rfl, ?_, fun _ => ?_⟩) ?_
          · simp [e1, hi x _ (hd.2 x hx)]
          · simp
          · simp [-List.map_id_fun', isEmpty_filter, -List.isEmpty_map]
      · have hl' : (20 : Int) < (xs.length : Int) := by omega
        have hl2 : ¬ (xs.length : Int) ≤ 20 := by omega
        have ev : isV (k + 1) (.tup xs) = false := by simp [isV, atomV, isTupT, isW, isF, parts, hl]
        rw [ev]
        constructor
        · simp [isVB, hw _ _ ho, hf _ _ _ _ ho, isi_tuple ho, isTupT, isW, isF, e0, hl']
        · simp [isVL, isi_tuple ho, isTupT, e2, hl2]
  · have ht' : isTupT d = false := by simpa using ht
    have ev : isV k d = atomV d := by cases k <;> simp [isV, ht']
    rw [ev]
    constructor
    · by_cases h1 : isNonD d = true
      · simp [isVB, h1, atomV]
      · by_cases h2 : isW d = true
        · simp [isVB, h1, h2, hw _ _ ho, atomV]
        · by_cases h3 : isF (-1000000000) 1000000000 d = true
          · simp [isVB, h1, h2, h3, hw _ _ ho, hf _ _ _ _ ho, atomV]
          · by_cases h0 : (k : Int) = 0 <;> simp [isVB, h1, h2, h3, h0, ht', hw _ _ ho, hf _ _ _ _ ho, isi_tuple ho, atomV]
    · by_cases h1 : isNonD d = true
      · simp [isVL, h1, atomV, isi_tuple ho, ht']
      · by_cases h2 : isW d = true
        · simp [isVL, h1, h2, hw _ _ ho, atomV, isi_tuple ho, ht']
        · simp [isVL, h1, h2, hw _ _ ho, hf _ _ _ _ ho, isi_tuple ho, atomV, ht']
/-- with fuel j at the least -/
theorem isV_ok {tab : Nat → FD} {g gw gf : Nat} {b : (Nat → EvC) → EvS} (h : tab g = ⟨false, 3, 2, b⟩) (hb : (∀ c, b c = isVB (c gw) (c gf) (c g)) ∨ ∀ c, b c = isVL (c gw) (c gf) (c g)) (hw : ∀ j, IsWordOK (evC tab (j + 1) gw)) (hf : ∀ j, FromOK (evC tab (j + 1) gf)) :
    ∀ (k j : Nat), IsVOK k (evC tab (j + k + 2) g) := by
  intro k
  induction k with
  | zero =>
    intro j d S hd
    rw [ev_call h rfl]
    rcases hb with hb | hb <;> rw [hb]
    · exact R_of (isV_step (hw _) (hf _) (fun _ q => by omega) hd).1
    · exact R_of (isV_step (hw _) (hf _) (fun _ q => by omega) hd).2
  | succ k ih =>
    intro j d S hd
    have hm : ∀ i, k + 1 = i + 1 → IsVOK i (evC tab (j + k + 2) g) := fun i q => by
      obtain rfl : k = i := by omega
      exact ih j
    rw [show j + (k + 1) + 2 = (j + k + 2) + 1 from by omega, ev_call h rfl]
    rcases hb with hb | hb <;> rw [hb]
    · exact R_of (isV_step (hw (j + k + 1)) (hf (j + k + 1)) hm hd).1
    · exact R_of (isV_step (hw (j + k + 1)) (hf (j + k + 1)) hm hd).2

theorem rt_only {r : RS} {N : Env → Store → Prop} {Q : D → Store → Prop} (h : WS r { rt := Q }) : WS r { nx := N, rt := Q } := h.mono (fun _ _ q => q.elim) (fun _ _ q => q) (fun _ _ q => q) fun _ _ q => q
/-! ### worths drawn -/
noncomputable def worthB (dr wd me : EvC) : EvS :=
  (sSeq (sSet 2 (fCall dr (fCons (fVar 0) (fCons (fBin addD (fC (.int 4)) (fCall intC (fCons (fBin gtD (fVar 1) (fC (.int 0))) fNil))) fNil))))
    (sSeq (sIf (fB (fBin ltD (fVar 2) (fC (.int 2)))) (sRet (fBin ixD (fLst (fCons (fC .non) (fCons (fCall wd (fCons (fVar 0) fNil)) fNil))) (fVar 2))) sNil)
    (sSeq (sIf (fB (fBin eqD (fVar 2) (fC (.int 2)))) (sRet (fBin subD (fCall dr (fCons (fVar 0) (fCons (fC (.int 2001)) fNil))) (fC (.int 1000)))) sNil)
    (sSeq (sIf (fB (fBin eqD (fVar 2) (fC (.int 3)))) (sRet (fBin ixD (fLst (fCons (fC (.int 1000000000)) (fCons (fUn negD (fC (.int 1000000000))) (fCons (fC (.int 0)) (fCons (fUn negD (fC (.int 1))) fNil))))) (fCall dr (fCons (fVar 0) (fCons (fC (.int 4)) fNil))))) sNil)
    (sSeq (sSet 3 (fBin ixD (fLst (fCons (fCall dr (fCons (fVar 0) (fCons (fC (.int 4)) fNil))) (fCons (fC (.int 20)) fNil))) (fCall intC (fCons (fAnd (fBin eqD (fVar 1) (fC (.int 1))) (fBin eqD (fCall dr (fCons (fVar 0) (fCons (fC (.int 9)) fNil))) (fC (.int 0)))) fNil))))
    (sRet (fCall tupleC (fCons (fComp (iRange1 (fVar 3)) [4] (tgN 4) cYes (fCall me (fCons (fVar 0) (fCons (fBin subD (fVar 1) (fC (.int 1))) fNil)))) fNil))))))))
def Wn : Nat → Nat
  | 0 => 14
  | k + 1 => 20 * Wn k + 14
mutual
/-- the texts in a thing, in order -/
def txs : D → List Str
  | .str z => [z]
  | .tup xs => txsL xs
  | _ => []
def txsL : List D → List Str
  | [] => []
  | d :: ds => txs d ++ txsL ds
end
theorem txsL_flat : ∀ xs : List D, txsL xs = xs.flatMap txs
  | [] => rfl
  | d :: ds => by rw [txsL, txsL_flat ds]; rfl
theorem txsL_app (xs ys : List D) : txsL (xs ++ ys) = txsL xs ++ txsL ys := by simp [txsL_flat]
theorem txsL_le {n : Nat} : ∀ {xs : List D}, (∀ x ∈ xs, (txs x).length ≤ n) → (txsL xs).length ≤ xs.length * n
  | [], _ => Nat.zero_le _
  | d :: ds, h => by
    have h1 := h d List.mem_cons_self
    have h2 := txsL_le (xs := ds) fun x hx => h x (List.mem_cons_of_mem _ hx)
    rw [txsL, List.length_append, List.length_cons, Nat.succ_mul]
    omega
theorem txs_atom {d : D} (h : isTupT d = false) : (txs d).length ≤ 1 := by
  cases d <;> first | (cases h; done) | exact Nat.zero_le _ | exact Nat.le_refl _
mutual
/-- the words that write a thing -/
def wt : D → Nat
  | .tup xs => 2 + wts xs
  | _ => 1
def wts : List D → Nat
  | [] => 0
  | d :: ds => wt d + wts ds
end
theorem wts_app : ∀ xs ys : List D, wts (xs ++ ys) = wts xs + wts ys
  | [], ys => by simp [wts]
  | x :: xs, ys => by rw [List.cons_append, wts, wts, wts_app xs ys, Nat.add_assoc]
theorem wts_le {n : Nat} : ∀ {xs : List D}, (∀ x ∈ xs, wt x ≤ n) → wts xs ≤ xs.length * n
  | [], _ => Nat.zero_le _
  | d :: ds, h => by
    have h1 := h d List.mem_cons_self
    have h2 := wts_le (xs := ds) fun x hx => h x (List.mem_cons_of_mem _ hx)
    rw [wts, List.length_cons, Nat.succ_mul]
    omega
theorem wt_mem {x : D} : ∀ {xs : List D}, x ∈ xs → wt x ≤ wts xs
  | y :: ys, h => by
    rw [wts]
    rcases List.mem_cons.mp h with rfl | h
    · omega
    · have := wt_mem h
      omega
theorem wt_atom {d : D} (h : isTupT d = false) : wt d = 1 := by
  cases d <;> first | rfl | (cases h; done)
theorem wts_take {xs : List D} (n : Nat) : wts (xs.take n) + wts (xs.drop n) = wts xs := by rw [← wts_app, List.take_append_drop]
theorem wts_drop {xs : List D} (n : Nat) : wts (xs.drop (n + 1)) ≤ wts (xs.drop n) := by
  have h1 := wts_take (xs := xs.drop n) 1
  rw [List.drop_drop] at h1
  omega
def Bn : Nat → Nat
  | 0 => 1
  | k + 1 => 2 + (if k = 0 then 20 else 3) * Bn k
theorem Bn_pos : ∀ k, 1 ≤ Bn k
  | 0 => Nat.le_refl _
  | k + 1 => by unfold Bn; omega
/-- so many texts at most in a drawn worth -/
def Tn : Nat → Nat
  | 0 => 1
  | k + 1 => (if k = 0 then 20 else 3) * Tn k
theorem Tn_pos : ∀ k, 1 ≤ Tn k
  | 0 => Nat.le_refl _
  | k + 1 => by
    have := Tn_pos k
    unfold Tn
    split <;> omega
def WorthG (k : Nat) (d : D) : Prop := isV k d = true ∧ (txs d).length ≤ Tn k ∧ wt d ≤ Bn k
def WorthOK (k : Nat) (f : EvC) : Prop := ∀ (S : Store) (p m : Nat), Pn S p (m + Wn k) → W (f [.ref p, .int k] S) (Dr S p m (WorthG k))
theorem isV_atom {k : Nat} {d : D} (h : atomV d = true) : isV k d = true := by cases k <;> simp [isV, h]
theorem isWd.isW {d : D} (h : isWd d) : isW d = true := by
  obtain ⟨z, rfl, hz⟩ := h
  exact wd_iff.mp hz
theorem isV.pu : ∀ {k : Nat} {d : D}, isV k d = true → Pu d := by
  intro k
  induction k with
  | zero =>
    intro d h
    cases d <;> first | rfl | (exact absurd h (by simp [isV, atomV, isNonD, isW, isF]))
  | succ k ih =>
    intro d h
    cases d <;> first | rfl | skip
    case tup xs =>
      simp [isV, atomV, isNonD, isW, isF, isTupT, parts] at h
      exact pu_tup.mpr fun d hd => ih (h.2 d hd)
    all_goals exact absurd h (by simp [isV, atomV, isNonD, isW, isF, isTupT])
theorem worth_step {dr wd me : EvC} (hd : DrawOK dr) (hw : WordOK wd) {k : Nat} (hm : ∀ j, k = j + 1 → WorthOK j me) {S : Store} {p m : Nat} (hP : Pn S p (m + Wn k)) :
    WS (worthB dr wd me [some (.ref p), some (.int k), none, none, none] S) { rt := fun d S' => W (fin false S d S') (Dr S p m (WorthG k)) } := by
  have hp := hP.lt
  have fin2 : ∀ {d : D} {S' : Store} {c : C}, S' = S.set p c → isV k d = true → (txs d).length ≤ Tn k → wt d ≤ Bn k → PnC c m → W (fin false S d S') (Dr S p m (WorthG k)) := fun e h ht hw hc => W_finset e (isV.pu h) hc ⟨_, rfl, hc, h, ht, hw⟩
  have fin : ∀ {d : D} {S' : Store} {c : C}, S' = S.set p c → isV k d = true → isTupT d = false → PnC c m → W (Rk.fin false S d S') (Dr S p m (WorthG k)) := fun e h ht hc => fin2 e h (Nat.le_trans (txs_atom ht) (Tn_pos k)) (by rw [wt_atom ht]; exact Bn_pos k) hc
  have hW : 14 ≤ Wn k := by cases k <;> simp [Wn]
  have hk0 : (0 : Int) ≤ (k : Int) := by omega
  simp [worthB]
  refine W_draw hd (m := m + (Wn k - 1)) (hP.le (by omega)) (by split <;> omega) (by split <;> omega) fun r c a1 a2 hc => ?_
  have a3 : k = 0 → r < 4 := fun q => by subst q; simpa using a2
  have a4 : r < 5 := by split at a2 <;> omega
  clear a2
  simp
  by_cases b1 : r < 2
  · simp [b1]
    refine W_dr (hw _ p (m + (Wn k - 12)) ((hc.pn hp).le (by omega))) fun d c2 hc2 hd2 => ?_
    simp
    refine W_ixL a1 (by simpa using b1) fun d' hd' => ?_
    simp only [List.mem_cons, List.not_mem_nil, or_false] at hd'
    refine fin (c := c2) (by simp) ?_ ?_ (hc2.le (by omega))
    · rcases hd' with rfl | rfl
      · exact isV_atom rfl
      · exact isV_atom (by simp [atomV, hd2.isW])
    · rcases hd' with rfl | rfl
      · rfl
      · obtain ⟨z, rfl, _⟩ := hd2; rfl
  · by_cases b2 : r = 2
    · subst b2
      simp
      refine W_draw hd (m := m) ((hc.pn hp).le (by omega)) (by omega) (by omega) fun r2 c2 a5 a6 hc2 => ?_
      simp
      refine fin (c := c2) (by simp) (isV_atom ?_) rfl hc2
      simp [atomV, isF]
      right
      omega
    · by_cases b3 : r = 3
      · subst b3
        simp
        refine W_draw hd (m := m) ((hc.pn hp).le (by omega)) (by omega) (by omega) fun r2 c2 a5 a6 hc2 => ?_
        simp
        refine W_ixL a5 (by simpa using a6) fun d' hd' => ?_
        refine fin (c := c2) (by simp) (isV_atom ?_) ?_ hc2 <;>
        · simp only [List.mem_cons, List.not_mem_nil, or_false] at hd'
          rcases hd' with rfl | rfl | rfl | rfl <;> rfl
      · cases k with
        | zero => exact absurd (a3 rfl) (by omega)
        | succ k =>
          have hWk : Wn (k + 1) = 20 * Wn k + 14 := rfl
          simp [b1, b2, b3]
          refine W_draw hd (m := m + 20 * Wn k + 1) ((hc.pn hp).le (by omega)) (by omega) (by omega) fun r2 c2 a5 a6 hc2 => ?_
          simp
          have q : W (if (k : Int) + 1 = 1 then (dr [D.ref p, D.int 9] (List.set S p c2)).bind fun x S1 => eqD x (D.int 0) S1 else R.ok (D.bl false) (List.set S p c2)) (fun a S1 => ∃ b c3, a = .bl b ∧ S1 = S.set p c3 ∧ PnC c3 (m + 20 * Wn k) ∧ (b = true → k = 0)) := by
            split
            · rename_i hk1
              rw [W_bind]
              refine W_draw hd (m := m + 20 * Wn k) ((hc2.pn hp).le (by omega)) (by omega) (by omega) fun r3 c3 a7 a8 hc3 => ?_
              exact (show W (R.ok (D.bl (decide (r3 = 0))) ((S.set p c2).set p c3)) _ from ⟨_, c3, rfl, by simp, hc3, fun _ => by omega⟩)
            · exact (show W (R.ok (D.bl false) (S.set p c2)) _ from ⟨_, c2, rfl, rfl, hc2.le (by omega), fun q => by cases q⟩)
          refine q.mono fun a S1 ⟨b, c3, e1, e2, hc3, hbk⟩ => ?_
          subst e1 e2
          simp
          have q2 : W (ixD (.lst [.int r2, .int 20]) (.int (if b = true then 1 else 0)) (S.set p c3)) (fun d S' => S' = S.set p c3 ∧ ∃ n : Int, d = .int n ∧ 0 ≤ n ∧ n ≤ 20 ∧ (k ≠ 0 → n ≤ 3)) := by
            cases b with
            | true => exact ⟨rfl, 20, rfl, by omega, by omega, fun q => absurd (hbk rfl) q⟩
            | false => exact ⟨rfl, r2, rfl, a5, by omega, fun _ => by omega⟩
          refine q2.mono fun d S1 ⟨e3, n, e4, n1, n2, n3⟩ => ?_
          subst e3 e4
          simp
          refine W_range1 n1 (by omega) ?_
          have hmul : n.toNat * Wn k ≤ 20 * Wn k := Nat.mul_le_mul_right _ (by omega)
          refine W_comp_draw (p := p) (w := Wn k) (m := m) (G := WorthG k) (by rw [range_len]; omega) ((hc3.pn hp).le (by rw [range_len]; omega)) (fun x _ => ⟨_, rfl, fun c' m' hc' => ?_⟩) fun ys c4 hc4 hl hG => ?_
          · simp [show (k : Int) + 1 - 1 = (k : Int) from by omega]
            have := hm k rfl _ p m' (hc'.pn hp)
            simpa using this
          · rw [range_len] at hl
            simp
            refine fin2 (c := c4) rfl ?_ ?_ ?_ hc4
            · simp [isV, isTupT, parts, hl]
              exact .inr ⟨by omega, fun x hx => (hG x hx).1⟩
            · have h1 : (txs (.tup ys)).length ≤ ys.length * Tn k := txsL_le fun x hx => (hG x hx).2.1
              refine Nat.le_trans h1 ?_
              show ys.length * Tn k ≤ (if k = 0 then 20 else 3) * Tn k
              refine Nat.mul_le_mul_right _ ?_
              rw [hl]
              split
              · omega
              · rename_i hk; have := n3 hk; omega
            · have h1 : wts ys ≤ ys.length * Bn k := wts_le fun x hx => (hG x hx).2.2
              show 2 + wts ys ≤ 2 + (if k = 0 then 20 else 3) * Bn k
              refine Nat.add_le_add_left (Nat.le_trans h1 (Nat.mul_le_mul_right _ ?_)) 2
              rw [hl]
              split
              · omega
              · rename_i hk; have := n3 hk; omega
theorem worth_ok {tab : Nat → FD} {g gd gw : Nat} {b : (Nat → EvC) → EvS} (h : tab g = ⟨false, 5, 2, b⟩) (hb : ∀ c, b c = worthB (c gd) (c gw) (c g)) (hd : ∀ j, DrawOK (evC tab (j + 1) gd)) (hw : ∀ j, WordOK (evC tab (j + 3) gw)) :
    ∀ (k j : Nat), WorthOK k (evC tab (j + k + 4) g) := by
  intro k
  induction k with
  | zero =>
    intro j S p m hP
    refine W_call h rfl ?_
    rw [hb]
    exact rt_only (worth_step (k := 0) (hd (j + 2)) (hw j) (fun _ q => by omega) hP)
  | succ k ih =>
    intro j S p m hP
    have hm : ∀ i, k + 1 = i + 1 → WorthOK i (evC tab (j + k + 4) g) := fun i q => by
      obtain rfl : k = i := by omega
      exact ih j
    rw [show j + (k + 1) + 4 = (j + k + 4) + 1 from by omega]
    refine W_call h rfl ?_
    rw [hb]
    exact rt_only (worth_step (k := k + 1) (hd (j + k + 3)) (hw (j + k + 1)) hm hP)
end Rk

namespace Rk
open PySem L2 TL

/-! ### texts of whole numbers -/
def numZ (i : Int) : List Nat := tl (Str.ofString (toString i))
theorem numZ_pos (n : Nat) : numZ (n : Int) = numL n := tl_num n
theorem numZ_neg (n : Nat) : numZ (Int.negSucc n) = 45 :: numL (n + 1) := by
  unfold numZ
  rw [tl_ofString]
  show (("-" ++ Nat.repr (n + 1)) : String).toList.map Char.toNat = _
  rw [String.toList_append, List.map_append]
  have e : tl (Str.ofString (toString ((n + 1 : Nat) : Int))) = numL (n + 1) := tl_num (n + 1)
  rw [tl_ofString] at e
  have e2 : (toString ((n + 1 : Nat) : Int)) = Nat.repr (n + 1) := rfl
  rw [e2] at e
  rw [e]
  rfl
theorem numZ_mem {i : Int} {c : Nat} (h : c ∈ numZ i) : c = 45 ∨ (48 ≤ c ∧ c ≤ 57) := by
  cases i with
  | ofNat n =>
    rw [show Int.ofNat n = ((n : Nat) : Int) from rfl, numZ_pos] at h
    exact .inr (numL_digits n c h)
  | negSucc n =>
    rw [numZ_neg] at h
    rcases List.mem_cons.mp h with rfl | h
    · exact .inl rfl
    · exact .inr (numL_digits _ c h)
theorem numZ_ne (i : Int) : numZ i ≠ [] := by
  cases i with
  | ofNat n => rw [show Int.ofNat n = ((n : Nat) : Int) from rfl, numZ_pos]; exact numL_ne n
  | negSucc n => rw [numZ_neg]; simp
theorem numL_not45 {n : Nat} {l : List Nat} : numL n ≠ 45 :: l := fun h => by
  have := numL_digits n 45 (by rw [h]; simp)
  omega
theorem numZ_ne45 (i : Int) : numZ i ≠ [45] := by
  cases i with
  | ofNat n => rw [show Int.ofNat n = ((n : Nat) : Int) from rfl, numZ_pos]; exact numL_not45
  | negSucc n =>
    rw [numZ_neg]
    intro h
    exact numL_ne (n + 1) (by simpa using h)
theorem numZ_inj {i j : Int} (h : numZ i = numZ j) : i = j := by
  cases i with
  | ofNat n =>
    cases j with
    | ofNat m =>
      rw [show Int.ofNat n = ((n : Nat) : Int) from rfl, show Int.ofNat m = ((m : Nat) : Int) from rfl, numZ_pos, numZ_pos] at h
      rw [numL_inj h]
    | negSucc m =>
      rw [show Int.ofNat n = ((n : Nat) : Int) from rfl, numZ_pos, numZ_neg] at h
      exact absurd h numL_not45
  | negSucc n =>
    cases j with
    | ofNat m =>
      rw [show Int.ofNat m = ((m : Nat) : Int) from rfl, numZ_pos, numZ_neg] at h
      exact absurd h.symm numL_not45
    | negSucc m =>
      rw [numZ_neg, numZ_neg] at h
      have := numL_inj (List.cons.inj h).2
      omega
theorem numZ_len {i : Int} (h : -1000000000 ≤ i) (h2 : i ≤ 1000000000) : (numZ i).length ≤ 11 := by
  cases i with
  | ofNat n =>
    rw [show Int.ofNat n = ((n : Nat) : Int) from rfl, numZ_pos]
    have : n < 10 ^ 10 := by
      have : (n : Int) ≤ 1000000000 := h2
      omega
    have := numL_len (k := 10) (by omega) this
    omega
  | negSucc n =>
    rw [numZ_neg]
    have : n + 1 < 10 ^ 10 := by omega
    have := numL_len (k := 10) (by omega) this
    simp
    omega

/-! ### texts of worths -/
def shL : Nat → D → List Nat
  | _, .non => [45]
  | _, .str z => tl z
  | _, .int i => numZ i
  | k + 1, .tup xs => joinL [32] (([60] :: xs.map (shL k)) ++ [[62]])
  | _, _ => []
def shS (k : Nat) (d : D) : Str := ⟨(shL k d).toArray⟩
theorem tl_shS {k : Nat} {d : D} : tl (shS k d) = shL k d := tl_mk _
def Ln : Nat → Nat
  | 0 => 11
  | k + 1 => 20 * Ln k + 24
theorem joinL_len (S : List Nat) : ∀ ps : List (List Nat), (joinL S ps).length ≤ (ps.map List.length).sum + ps.length * S.length
  | [] => Nat.zero_le _
  | [p] => by simp [joinL]
  | p :: q :: r => by
    have ih := joinL_len S (q :: r)
    simp only [joinL, List.length_append, List.map_cons, List.sum_cons, List.length_cons, Nat.succ_mul] at ih ⊢
    omega
theorem sum_le {α : Type} (f : α → Nat) (B : Nat) : ∀ xs : List α, (∀ x ∈ xs, f x ≤ B) → (xs.map f).sum ≤ xs.length * B
  | [], _ => by simp
  | x :: xs, h => by
    have h1 := h x List.mem_cons_self
    have h2 := sum_le f B xs fun y hy => h y (List.mem_cons_of_mem _ hy)
    simp only [List.map_cons, List.sum_cons, List.length_cons, Nat.succ_mul]
    omega
theorem isV_cases {k : Nat} {d : D} (h : isV k d = true) : d = .non ∨ (∃ z, d = .str z ∧ Wd z) ∨ (∃ i, d = .int i ∧ -1000000000 ≤ i ∧ i ≤ 1000000000) ∨ ∃ xs j, d = .tup xs ∧ k = j + 1 ∧ xs.length ≤ 20 ∧ ∀ x ∈ xs, isV j x = true := by
  cases d with
  | non => exact .inl rfl
  | str z => refine .inr (.inl ⟨z, rfl, wd_iff.mpr ?_⟩); cases k <;> simpa [isV, atomV, isNonD, isW, isF, isTupT] using h
  | int i => refine .inr (.inr (.inl ⟨i, rfl, ?_⟩)); cases k <;> simpa [isV, atomV, isNonD, isW, isF, isTupT] using h
  | tup xs =>
    refine .inr (.inr (.inr ⟨xs, ?_⟩))
    cases k with
    | zero => exact absurd h (by simp [isV, atomV, isNonD, isW, isF])
    | succ k =>
      simp [isV, atomV, isNonD, isW, isF, isTupT, parts] at h
      exact ⟨k, rfl, rfl, of_decide_eq_true h.1, h.2⟩
  | _ => exact absurd h (by cases k <;> simp [isV, atomV, isNonD, isW, isF, isTupT])
theorem Ln_pos (k : Nat) : 11 ≤ Ln k := by
  induction k with
  | zero => exact Nat.le_refl _
  | succ k ih => simp only [Ln]; omega
theorem map_len_sum (xs : List D) (k : Nat) : ((([60] :: xs.map (shL k)) ++ [[62]]).map List.length).sum = 2 + (xs.map fun x => (shL k x).length).sum := by
  simp [List.map_map, Function.comp_def]
  omega
theorem shL_len : ∀ {k : Nat} {d : D}, isV k d = true → (shL k d).length ≤ Ln k := by
  intro k
  induction k with
  | zero =>
    intro d h
    rcases isV_cases h with rfl | ⟨z, rfl, hz⟩ | ⟨i, rfl, h1, h2⟩ | ⟨xs, j, rfl, hk, _⟩
    · simp [shL, Ln]
    · have := hz.le
      rw [len_tl] at this
      simp only [shL, Ln]
      omega
    · exact numZ_len h1 h2
    · omega
  | succ k ih =>
    intro d h
    rcases isV_cases h with rfl | ⟨z, rfl, hz⟩ | ⟨i, rfl, h1, h2⟩ | ⟨xs, j, rfl, hk, hl, hx⟩
    · simp only [shL, Ln, List.length_singleton]; omega
    · have := hz.le
      rw [len_tl] at this
      simp only [shL, Ln]
      have := Ln_pos k
      omega
    · have := numZ_len h1 h2
      simp only [shL, Ln]
      have := Ln_pos k
      omega
    · obtain rfl : k = j := by omega
      have h1 := joinL_len [32] (([60] :: xs.map (shL k)) ++ [[62]])
      rw [map_len_sum] at h1
      have h2 := sum_le (fun x => (shL k x).length) (Ln k) xs fun x hm => ih (hx x hm)
      have h3 : xs.length * Ln k ≤ 20 * Ln k := Nat.mul_le_mul_right _ hl
      simp at h1
      simp only [shL, Ln]
      simp
      omega

/-! ### what show_worth tells -/
noncomputable def showB (me : EvC) : EvS :=
  (sSeq (sIf (fB (fBin isD (fVar 0) (fC .non))) (sRet (fC (.str "-"))) sNil)
    (sSeq (sIf (fTru (fCall isiC (fCons (fVar 0) (fCons (fC (.ty "tuple")) fNil)))) (sRet (fBM "str" joinM (fC (.str " ")) (fCons (fBin addD (fBin addD (fLst (fCons (fC (.str "<")) fNil)) (fComp (iVal (fVar 0)) [1] (tgN 1) cYes (fCall me (fCons (fVar 1) fNil)))) (fLst (fCons (fC (.str ">")) fNil))) fNil))) sNil)
    (sRet (fCall strC (fCons (fVar 0) fNil)))))
noncomputable def showL (me : EvC) : EvS :=
  (sSeq (sIf (fTru (fCall isiC (fCons (fVar 0) (fCons (fC (.ty "tuple")) fNil)))) (sRet (fBM "str" joinM (fC (.str " ")) (fCons (fBin addD (fBin addD (fLst (fCons (fC (.str "<")) fNil)) (fComp (iVal (fVar 0)) [1] (tgN 1) cYes (fCall me (fCons (fVar 1) fNil)))) (fLst (fCons (fC (.str ">")) fNil))) fNil))) sNil)
    (sRet (fIf (fB (fBin isD (fVar 0) (fC .non))) (fC (.str "-")) (fCall strC (fCons (fVar 0) fNil)))))
def ShowOK (k : Nat) (f : EvC) : Prop := ∀ (d : D) (S : Store), isV k d = true → f [d] S = .ok (.str (shS k d)) S
theorem strs_map {α : Type} (f : α → Str) : ∀ xs : List α, strsD (xs.map fun x => D.str (f x)) = some (xs.map f)
  | [] => rfl
  | x :: xs => by simp [strsD, strs_map f xs]
theorem joinM_strs {sep : Str} {zs : List Str} {S : Store} (h : (zs.map Str.length).sum + zs.length * sep.length ≤ 16777216) : joinM (.str sep) [.lst (zs.map D.str)] S = .ok (.str (Txt.join sep zs)) S := by
  have e : strsD (zs.map D.str) = some zs := by
    have := strs_map (fun z : Str => z) zs
    rw [List.map_id'] at this
    exact this
  show (match strsD (zs.map D.str) with
    | some zs => if ((zs : List Str).map Str.length).sum + zs.length * sep.length ≤ 16777216 then R.ok (D.str (Txt.join sep zs)) S else .bad
    | none => .bad) = _
  rw [e]
  exact if_pos h
theorem sp_tl : tl (Str.ofString " ") = [32] := by decide +kernel
theorem lt_tl : tl (Str.ofString "<") = [60] := by decide +kernel
theorem gt_tl : tl (Str.ofString ">") = [62] := by decide +kernel
theorem mi_tl : tl (Str.ofString "-") = [45] := by decide +kernel
theorem strC_int {i : Int} {S : Store} (h : -1000000000 ≤ i) (h2 : i ≤ 1000000000) : strC [.int i] S = .ok (.str (Str.ofString (toString i))) S := by
  have e : i.natAbs.log2 < 1920 := by
    by_cases h0 : i.natAbs = 0
    · rw [h0]; decide
    · rw [Nat.log2_lt h0]
      calc i.natAbs ≤ 1000000000 := by omega
        _ < 2 ^ 1920 := by decide +kernel
  exact if_pos e
theorem strC_str {z : Str} {S : Store} : strC [.str z] S = .ok (.str z) S := rfl
theorem shS_int {k : Nat} {i : Int} : shS k (.int i) = Str.ofString (toString i) := ext_tl (by rw [tl_shS]; cases k <;> rfl)
theorem shS_str {k : Nat} {z : Str} : shS k (.str z) = z := ext_tl (by rw [tl_shS]; cases k <;> rfl)
theorem shS_non {k : Nat} : shS k .non = Str.ofString "-" := ext_tl (by rw [tl_shS, mi_tl]; cases k <;> rfl)
theorem show_join {k : Nat} {xs : List D} {S : Store} (hk : k ≤ 3) (hl : xs.length ≤ 20) (hx : ∀ x ∈ xs, isV k x = true) :
    joinM (.str (Str.ofString " ")) [.lst (D.str (Str.ofString "<") :: (xs.map (fun x => D.str (shS k x)) ++ [D.str (Str.ofString ">")]))] S = .ok (.str (shS (k + 1) (.tup xs))) S := by
  have e : D.str (Str.ofString "<") :: (xs.map (fun x => D.str (shS k x)) ++ [D.str (Str.ofString ">")]) = ((Str.ofString "<" :: xs.map (shS k)) ++ [Str.ofString ">"]).map D.str := by simp
  have el : ((((Str.ofString "<" :: xs.map (shS k)) ++ [Str.ofString ">"]).map Str.length).sum) = 2 + (xs.map fun x => (shL k x).length).sum := by
    simp [List.map_map, Function.comp_def, show (Str.ofString "<").length = 1 from rfl, show (Str.ofString ">").length = 1 from rfl]
    have : (fun x => (shS k x).length) = fun x => (shL k x).length := by
      funext x
      rw [len_tl, tl_shS]
    rw [this]
    omega
  rw [e, joinM_strs]
  · congr 2
    apply ext_tl
    rw [tjoin, tl_shS, sp_tl]
    congr 1
    simp [List.map_map, Function.comp_def, lt_tl, gt_tl, tl_shS]
  · rw [el]
    have h2 := sum_le (fun x => (shL k x).length) (Ln k) xs fun x hm => shL_len (hx x hm)
    have h3 : xs.length * Ln k ≤ 20 * Ln k := Nat.mul_le_mul_right _ hl
    have h4 : Ln k ≤ 110000 := by
      have : k = 0 ∨ k = 1 ∨ k = 2 ∨ k = 3 := by omega
      rcases this with rfl | rfl | rfl | rfl <;> decide
    simp [show (Str.ofString " ").length = 1 from rfl]
    omega
theorem isV.ok1 {k : Nat} {d : D} (h : isV k d = true) : ok1 d = true := by
  rcases isV_cases h with rfl | ⟨z, rfl, hz⟩ | ⟨i, rfl, _⟩ | ⟨xs, j, rfl, _⟩
  · rfl
  · have := hz.le
    simp [Rk.ok1]
    omega
  · rfl
  · rfl
theorem show_step {me : EvC} {k : Nat} (hk : k ≤ 4) (hm : ∀ j, k = j + 1 → ShowOK j me) {d : D} {S : Store} {keep : Bool} (h : isV k d = true) :
    W (finR keep S (showB me [some d, none] S)) (fun x S' => x = .str (shS k d) ∧ S' = S) ∧ W (finR keep S (showL me [some d, none] S)) (fun x S' => x = .str (shS k d) ∧ S' = S) := by
  have ho := isV.ok1 h
  rcases isV_cases h with rfl | ⟨z, rfl, hz⟩ | ⟨i, rfl, h1, h2⟩ | ⟨xs, j, rfl, rfl, hl, hx⟩
  · constructor <;> simp [showB, showL, isi_tuple ho, isTupT, shS_non]
  · constructor <;> simp [showB, showL, isi_tuple ho, isTupT, shS_str, strC_str]
  · constructor <;> simp [showB, showL, isi_tuple ho, isTupT, shS_int, strC_int h1 h2]
  · have hi := hm j rfl
    constructor
    · simp [showB, isi_tuple ho, isTupT]
      refine W_comp_pure (fun _ => true) (fun x => .str (shS j x)) (by omega) (fun x hx' => ⟨_, rfl, rfl, fun _ => ?_⟩) ?_
      · simp [hi x _ (hx x hx')]
      · rw [show (xs.filter fun _ => true) = xs from List.filter_eq_self.mpr fun _ _ => rfl]
        have : xs.length + 1 ≤ 16777216 ∧ xs.length + 1 + 1 ≤ 16777216 := by omega
        simp [show 1 + xs.length ≤ 16777216 from by omega, this.1, this.2, show_join (by omega) hl hx]
    · simp [showL, isi_tuple ho, isTupT]
      refine W_comp_pure (fun _ => true) (fun x => .str (shS j x)) (by omega) (fun x hx' => ⟨_, rfl, rfl, fun _ => ?_⟩) ?_
      · simp [hi x _ (hx x hx')]
      · rw [show (xs.filter fun _ => true) = xs from List.filter_eq_self.mpr fun _ _ => rfl]
        have : xs.length + 1 ≤ 16777216 ∧ xs.length + 1 + 1 ≤ 16777216 := by omega
        simp [show 1 + xs.length ≤ 16777216 from by omega, this.1, this.2, show_join (by omega) hl hx]
theorem show_ok {tab : Nat → FD} {g : Nat} {b : (Nat → EvC) → EvS} (h : tab g = ⟨false, 2, 1, b⟩) (hb : (∀ c, b c = showB (c g)) ∨ ∀ c, b c = showL (c g)) : ∀ (k j : Nat), k ≤ 4 → ShowOK k (evC tab (j + k + 1) g) := by
  intro k
  induction k with
  | zero =>
    intro j _ d S hd
    rw [ev_call h rfl]
    rcases hb with hb | hb <;> rw [hb]
    · exact R_of (show_step (by omega) (fun _ q => by omega) hd).1
    · exact R_of (show_step (by omega) (fun _ q => by omega) hd).2
  | succ k ih =>
    intro j hk d S hd
    have hm : ∀ i, k + 1 = i + 1 → ShowOK i (evC tab (j + k + 1) g) := fun i q => by
      obtain rfl : k = i := by omega
      exact ih j (by omega)
    rw [show j + (k + 1) + 1 = (j + k + 1) + 1 from by omega, ev_call h rfl]
    rcases hb with hb | hb <;> rw [hb]
    · exact R_of (show_step hk hm hd).1
    · exact R_of (show_step hk hm hd).2

/-! ### the texts of unlike worths are unlike -/
theorem cut32 : ∀ {a b r r' : List Nat}, 32 ∉ a → 32 ∉ b → a ++ 32 :: r = b ++ 32 :: r' → a = b ∧ r = r'
  | [], [], _, _, _, _, h => ⟨rfl, (List.cons.inj h).2⟩
  | [], y :: b, _, _, _, hb, h => absurd (List.cons.inj h).1 fun e => hb (by rw [e]; simp)
  | x :: a, [], _, _, ha, _, h => absurd (List.cons.inj h).1 fun e => ha (by rw [← e]; simp)
  | x :: a, y :: b, r, r', ha, hb, h => by
    obtain ⟨h1, h2⟩ := List.cons.inj h
    obtain ⟨h3, h4⟩ := cut32 (a := a) (b := b) (fun e => ha (List.mem_cons_of_mem _ e)) (fun e => hb (List.mem_cons_of_mem _ e)) h2
    exact ⟨by rw [h1, h3], h4⟩
theorem atom_facts {k : Nat} {d : D} (h : isV k d = true) (ht : isTupT d = false) : 32 ∉ shL k d ∧ (∀ c ∈ shL k d, c ≠ 60 ∧ c ≠ 62) := by
  rcases isV_cases h with rfl | ⟨z, rfl, hz⟩ | ⟨i, rfl, h1, h2⟩ | ⟨xs, j, rfl, rfl, hl, hx⟩
  · have e : shL k .non = [45] := by cases k <;> rfl
    rw [e]
    simp
  · have e : shL k (.str z) = tl z := by cases k <;> rfl
    rw [e]
    refine ⟨fun q => ?_, fun c q => ?_⟩
    · have := hz.all _ q; omega
    · have := hz.all _ q; omega
  · have e : shL k (.int i) = numZ i := by cases k <;> rfl
    rw [e]
    refine ⟨fun q => ?_, fun c q => ?_⟩
    · have := numZ_mem q; omega
    · have := numZ_mem q; omega
  · cases ht
theorem atom_ne {k : Nat} {d : D} (h : isV k d = true) (ht : isTupT d = false) : shL k d ≠ [] := by
  rcases isV_cases h with rfl | ⟨z, rfl, hz⟩ | ⟨i, rfl, h1, h2⟩ | ⟨xs, j, rfl, rfl, hl, hx⟩
  · have e : shL k .non = [45] := by cases k <;> rfl
    rw [e]; simp
  · have e : shL k (.str z) = tl z := by cases k <;> rfl
    rw [e]
    intro q
    have := hz.pos
    rw [len_tl, q] at this
    simp at this
  · have e : shL k (.int i) = numZ i := by cases k <;> rfl
    rw [e]
    exact numZ_ne i
  · cases ht
theorem wd_num {z : Str} {i : Int} (hz : Wd z) (h : tl z = numZ i) : False := by
  have h0 := numZ_ne i
  cases hn : numZ i with
  | nil => exact h0 hn
  | cons c l =>
    have h1 := numZ_mem (i := i) (c := c) (by rw [hn]; simp)
    have h2 := hz.all c (by show c ∈ tl z; rw [h, hn]; simp)
    omega
theorem wd_mi {z : Str} (hz : Wd z) (h : tl z = [45]) : False := by
  have := hz.all 45 (by show 45 ∈ tl z; rw [h]; simp)
  omega
theorem atom_inj {k l : Nat} {d e : D} (hd : isV k d = true) (he : isV l e = true) (td : isTupT d = false) (te : isTupT e = false) (h : shL k d = shL l e) : d = e := by
  have n1 : ∀ j, shL j .non = [45] := fun j => by cases j <;> rfl
  have n2 : ∀ j z, shL j (.str z) = tl z := fun j z => by cases j <;> rfl
  have n3 : ∀ j i, shL j (.int i) = numZ i := fun j i => by cases j <;> rfl
  rcases isV_cases hd with rfl | ⟨z, rfl, hz⟩ | ⟨i, rfl, _⟩ | ⟨xs, j, rfl, _⟩
  · rcases isV_cases he with rfl | ⟨z, rfl, hz⟩ | ⟨i, rfl, _⟩ | ⟨xs, j, rfl, _⟩
    · rfl
    · rw [n1, n2] at h; exact (wd_mi hz h.symm).elim
    · rw [n1, n3] at h; exact absurd h.symm (numZ_ne45 i)
    · cases te
  · rcases isV_cases he with rfl | ⟨z', rfl, hz'⟩ | ⟨i, rfl, _⟩ | ⟨xs, j, rfl, _⟩
    · rw [n1, n2] at h; exact (wd_mi hz h).elim
    · rw [n2, n2] at h; rw [ext_tl h]
    · rw [n2, n3] at h; exact (wd_num hz h).elim
    · cases te
  · rcases isV_cases he with rfl | ⟨z', rfl, hz'⟩ | ⟨i', rfl, _⟩ | ⟨xs, j, rfl, _⟩
    · rw [n1, n3] at h; exact absurd h (numZ_ne45 i)
    · rw [n2, n3] at h; exact (wd_num hz' h.symm).elim
    · rw [n3, n3] at h; rw [numZ_inj h]
    · cases te
  · cases td
theorem joinL_end : ∀ (p : List Nat) (ps : List (List Nat)), joinL [32] (p :: ps) ++ [32] = ((p :: ps).map fun q => q ++ [32]).flatten
  | p, [] => by simp [joinL]
  | p, q :: r => by
    have ih := joinL_end q r
    simp only [joinL, List.map_cons, List.flatten_cons] at ih ⊢
    simp only [List.append_assoc]
    rw [ih]
    simp
/-- what stands for parts, each with its blank -/
def shE (k : Nat) (xs : List D) : List Nat := (xs.map fun x => shL k x ++ [32]).flatten
theorem shL_tup {k : Nat} {xs : List D} : shL (k + 1) (.tup xs) ++ [32] = 60 :: 32 :: (shE k xs ++ [62, 32]) := by
  simp only [shL, List.cons_append]
  rw [joinL_end]
  simp [shE, List.map_map, Function.comp_def]
theorem sh_inj : ∀ {k : Nat} {x y : D} {r r' : List Nat}, isV k x = true → isV k y = true → shL k x ++ 32 :: r = shL k y ++ 32 :: r' → x = y ∧ r = r' := by
  have tup2 : ∀ {k : Nat} {xs : List D} {r : List Nat}, shL (k + 1) (.tup xs) ++ 32 :: r = [60] ++ 32 :: (shE k xs ++ 62 :: 32 :: r) := fun {k xs r} => by
    have : shL (k + 1) (.tup xs) ++ 32 :: r = (shL (k + 1) (.tup xs) ++ [32]) ++ r := by simp
    rw [this, shL_tup]
    simp
  intro k
  induction k with
  | zero =>
    intro x y r r' hx hy h
    have tx : isTupT x = false := by cases x <;> first | rfl | (exact absurd hx (by simp [isV, atomV, isNonD, isW, isF]))
    have ty : isTupT y = false := by cases y <;> first | rfl | (exact absurd hy (by simp [isV, atomV, isNonD, isW, isF]))
    obtain ⟨e, e2⟩ := cut32 (atom_facts hx tx).1 (atom_facts hy ty).1 h
    exact ⟨atom_inj hx hy tx ty e, e2⟩
  | succ k ih =>
    have first62 : ∀ {y : D} {s s' : List Nat}, isV k y = true → 62 :: 32 :: s ≠ shL k y ++ 32 :: s' := by
      intro y s s' hy h
      cases ty : isTupT y with
      | false =>
        obtain ⟨e, _⟩ := cut32 (a := [62]) (by simp) (atom_facts hy ty).1 h
        exact ((atom_facts hy ty).2 62 (by rw [← e]; simp)).2 rfl
      | true =>
        obtain ⟨ys, rfl⟩ := tup_of ty
        cases k with
        | zero => exact absurd hy (by simp [isV, atomV, isNonD, isW, isF])
        | succ k =>
          rw [tup2] at h
          exact absurd (List.cons.inj h).1 (by decide)
    have lists : ∀ {xs ys : List D} {r r' : List Nat}, (∀ x ∈ xs, isV k x = true) → (∀ y ∈ ys, isV k y = true) → shE k xs ++ 62 :: 32 :: r = shE k ys ++ 62 :: 32 :: r' → xs = ys ∧ r = r' := by
      intro xs
      induction xs with
      | nil =>
        intro ys r r' _ hy h
        cases ys with
        | nil => exact ⟨rfl, by simpa [shE] using h⟩
        | cons y ys =>
          simp only [shE, List.map_nil, List.flatten_nil, List.nil_append, List.map_cons, List.flatten_cons, List.append_assoc, List.singleton_append] at h
          exact absurd h (first62 (hy y List.mem_cons_self))
      | cons x xs ihx =>
        intro ys r r' hx hy h
        cases ys with
        | nil =>
          simp only [shE, List.map_nil, List.flatten_nil, List.nil_append, List.map_cons, List.flatten_cons, List.append_assoc, List.singleton_append] at h
          exact absurd h.symm (first62 (hx x List.mem_cons_self))
        | cons y ys =>
          simp only [shE, List.map_cons, List.flatten_cons, List.append_assoc, List.singleton_append] at h
          obtain ⟨e1, e2⟩ := ih (hx x List.mem_cons_self) (hy y List.mem_cons_self) h
          obtain ⟨e3, e4⟩ := ihx (fun z hz => hx z (List.mem_cons_of_mem _ hz)) (fun z hz => hy z (List.mem_cons_of_mem _ hz)) e2
          exact ⟨by rw [e1, e3], e4⟩
    intro x y r r' hx hy h
    cases tx : isTupT x with
    | false =>
      cases ty : isTupT y with
      | false =>
        obtain ⟨e, e2⟩ := cut32 (atom_facts hx tx).1 (atom_facts hy ty).1 h
        exact ⟨atom_inj hx hy tx ty e, e2⟩
      | true =>
        obtain ⟨ys, rfl⟩ := tup_of ty
        rw [tup2] at h
        obtain ⟨e, _⟩ := cut32 (atom_facts hx tx).1 (by simp) h
        exact absurd rfl ((atom_facts hx tx).2 60 (by rw [e]; simp)).1
    | true =>
      obtain ⟨xs, rfl⟩ := tup_of tx
      cases ty : isTupT y with
      | false =>
        rw [tup2] at h
        obtain ⟨e, _⟩ := cut32 (by simp) (atom_facts hy ty).1 h
        exact absurd rfl ((atom_facts hy ty).2 60 (by rw [← e]; simp)).1
      | true =>
        obtain ⟨ys, rfl⟩ := tup_of ty
        rw [tup2, tup2] at h
        obtain ⟨_, e⟩ := cut32 (a := [60]) (b := [60]) (by simp) (by simp) h
        rcases isV_cases hx with q | ⟨_, q, _⟩ | ⟨_, q, _⟩ | ⟨xs', j, q, hj, _, hx'⟩ <;> cases q
        rcases isV_cases hy with q | ⟨_, q, _⟩ | ⟨_, q, _⟩ | ⟨ys', j', q, hj', _, hy'⟩ <;> cases q
        obtain rfl : k = j := by omega
        obtain rfl : k = j' := by omega
        obtain ⟨e1, e2⟩ := lists hx' hy' e
        exact ⟨by rw [e1], e2⟩
theorem show_inj {k : Nat} {x y : D} (hx : isV k x = true) (hy : isV k y = true) (h : shS k x = shS k y) : x = y := by
  have e : shL k x = shL k y := by
    have := congrArg tl h
    rwa [tl_shS, tl_shS] at this
  exact (sh_inj (r := []) (r' := []) hx hy (by rw [e])).1
end Rk

namespace Rk
open PySem L2 TL

/-! ### things -/
def atT : D → Bool
  | .non => true
  | .bl _ => true
  | .int _ => true
  | .str z => decide (z.length ≤ 100)
  | .lst xs => Ds.lw 0 xs
  | .dct kvs => kvs.isEmpty
  | _ => false
/-- things of at most n parts, so deep -/
def Th (n : Nat) : Nat → D → Bool
  | 0, d => atT d
  | k + 1, d => atT d || (isTupT d && decide ((parts d).length ≤ n) && (parts d).all (Th n k))
theorem th_at {n k : Nat} {d : D} (h : atT d = true) : Th n k d = true := by cases k <;> simp [Th, h]
theorem th_tup {n k : Nat} {xs : List D} : Th n (k + 1) (.tup xs) = true ↔ xs.length ≤ n ∧ ∀ x ∈ xs, Th n k x = true := by
  simp [Th, atT, isTupT, parts]
  exact fun _ => ⟨of_decide_eq_true, fun h => decide_eq_true h⟩
theorem atT.ok1 {d : D} (h : atT d = true) : ok1 d = true := by
  cases d <;> first | rfl | (exfalso; simp [atT] at h; done) | skip
  simp [atT] at h
  simp [Rk.ok1]
  omega
theorem Th.ok1 {n k : Nat} {d : D} (h : Th n k d = true) : ok1 d = true := by
  cases k with
  | zero => exact atT.ok1 h
  | succ k =>
    simp only [Th, Bool.or_eq_true, Bool.and_eq_true] at h
    rcases h with h | ⟨⟨h, _⟩, _⟩
    · exact atT.ok1 h
    · obtain ⟨xs, rfl⟩ := tup_of h
      rfl
theorem Th.parts {n k : Nat} {d x : D} (h : Th n k d = true) (hx : x ∈ parts d) : ∃ j, k = j + 1 ∧ Th n j x = true := by
  cases d <;> simp [Rk.parts] at hx
  cases k with
  | zero => exact absurd h (by simp [Th, atT])
  | succ k => exact ⟨k, rfl, (th_tup.mp h).2 x hx⟩
theorem Th.okT {n : Nat} : ∀ {j k : Nat} {d : D}, Th n k d = true → okT j d = true
  | 0, k, d, h => Th.ok1 h
  | j + 1, k, d, h => by
    simp only [Rk.okT, Bool.and_eq_true, List.all_eq_true]
    refine ⟨Th.ok1 h, fun x hx => ?_⟩
    obtain ⟨i, _, hi⟩ := Th.parts h hx
    exact Th.okT (j := j) hi
theorem atT.pu {d : D} (h : atT d = true) : Pu d := by
  cases d <;> first | rfl | (exfalso; simp [atT] at h; done) | skip
  · exact h
  · simp [atT] at h
    subst h
    rfl
theorem Th.pu {n : Nat} : ∀ {k : Nat} {d : D}, Th n k d = true → Pu d
  | 0, d, h => atT.pu h
  | k + 1, d, h => by
    simp only [Th, Bool.or_eq_true, Bool.and_eq_true] at h
    rcases h with h | ⟨⟨h, _⟩, h2⟩
    · exact atT.pu h
    · obtain ⟨xs, rfl⟩ := tup_of h
      exact pu_tup.mpr fun x hx => Th.pu (List.all_eq_true.mp h2 x hx)
theorem Th.mono {n n' : Nat} (hn : n ≤ n') : ∀ {k k' : Nat} {d : D}, k ≤ k' → Th n k d = true → Th n' k' d = true
  | 0, k', d, _, h => th_at h
  | k + 1, 0, d, hk, h => by omega
  | k + 1, k' + 1, d, hk, h => by
    simp only [Th, Bool.or_eq_true, Bool.and_eq_true, List.all_eq_true, decide_eq_true_eq] at h ⊢
    rcases h with h | ⟨⟨h, h1⟩, h2⟩
    · exact .inl h
    · exact .inr ⟨⟨h, by omega⟩, fun x hx => Th.mono hn (by omega) (h2 x hx)⟩
theorem isV.th : ∀ {k : Nat} {d : D}, isV k d = true → Th 20 k d = true := by
  intro k
  induction k with
  | zero =>
    intro d h
    rcases isV_cases h with rfl | ⟨z, rfl, hz⟩ | ⟨i, rfl, _⟩ | ⟨xs, j, rfl, hk, _⟩
    · rfl
    · have := hz.le; simp [Th, atT]; omega
    · rfl
    · omega
  | succ k ih =>
    intro d h
    rcases isV_cases h with rfl | ⟨z, rfl, hz⟩ | ⟨i, rfl, _⟩ | ⟨xs, j, rfl, hk, hl, hx⟩
    · rfl
    · have := hz.le; exact th_at (by simp [atT]; omega)
    · rfl
    · obtain rfl : k = j := by omega
      exact th_tup.mpr ⟨hl, fun x hm => ih (hx x hm)⟩

/-! ### _law_odd -/
noncomputable def oddB (dr : EvC) : EvS :=
  (sSeq (sSet 1 (fLst (fCons (fC .non) (fCons (fC (.bl true)) (fCons (fC (.bl false)) (fCons (fUn negD (fC (.int 1))) (fCons (fC (.int 6)) (fCons (fC (.int 1001)) (fCons (fC (.int 1000000001)) (fCons (fUn negD (fC (.int 1000000001))) (fCons (fBin powD (fC (.int 10)) (fC (.int 30))) (fCons (fC (.str "")) (fCons (fC (.str "A")) (fCons (fC (.str "abcdefghi")) (fCons (fC (.str "a b")) (fCons (fC (.str "-")) fNil))))))))))))))))
    (sSeq (sSet 1 (fBin addD (fVar 1) (fLst (fCons (fC (.str "say ")) (fCons (fTup fNil) (fCons (fTup (fCons (fC (.str "say")) fNil)) (fCons (fTup (fCons (fC (.str "echo")) (fCons (fC (.str "a")) fNil))) (fCons (fLst fNil) (fCons (fLst (fCons (fC (.str "say")) (fCons (fC (.str "a")) fNil))) (fCons fDict0 (fCons (fTup (fCons (fTup (fCons (fC (.str "echo")) fNil)) fNil)) (fCons (fLst (fCons (fTup (fCons (fC (.str "echo")) fNil)) fNil)) (fCons (fC (.str "echo")) fNil)))))))))))))
    (sRet (fBin ixD (fBin addD (fVar 1) (fLst (fCons (fC (.int 0)) (fCons (fC (.int 5)) (fCons (fC (.int 1000)) (fCons (fC (.str "a")) fNil)))))) (fCall dr (fCons (fVar 0) (fCons (fC (.int 28)) fNil)))))))
def OddG (d : D) : Prop := Th 3 2 d = true ∧ wt d ≤ 12
def OddOK (f : EvC) : Prop := ∀ (S : Store) (p m : Nat), Pn S p (m + 1) → W (f [.ref p] S) (Dr S p m OddG)
theorem pow30 {S : Store} : powD (.int 10) (.int 30) S = .ok (.int 1000000000000000000000000000000) S := by
  show (if (0 : Int) ≤ 30 ∧ (30 : Int) ≤ 1000000 ∧ (10 : Int).natAbs < 2 ^ 64 then R.ok (D.int ((10 : Int) ^ (30 : Int).toNat)) S else .bad) = _
  rw [if_pos (by decide)]
  rfl
theorem set_app {S T : Store} {p : Nat} {c : C} (h : p < S.length) : (S ++ T).set p c = S.set p c ++ T := by
  rw [List.set_append_left _ _ h]
theorem cut_setapp {S T : Store} {p : Nat} {c : C} (hc : c.lw S.length = true) : Cut S (S.set p c ++ T) := by
  refine ⟨by simp, fun n hn => ?_⟩
  rw [List.getElem?_append_left (by simpa using hn)]
  exact (cut_set hc).2 n hn
theorem fin_setapp {keep : Bool} {S T : Store} {d : D} {p : Nat} {c : C} (hd : d.lw S.length = true) (hc : c.lw S.length = true) : fin keep S d (S.set p c ++ T) = .ok d (S.set p c) := by
  rw [fin_cut (cut_setapp hc) hd]
  congr 1
  rw [List.take_left' (by simp)]
/-- a new dict that is handed back -/
theorem fin_setnewD {S : Store} {xs : List (Key × D)} {p : Nat} {c : C} (hc : c.lw S.length = true) (hd : Ks.lw S.length xs = true) : fin false S (.ref S.length) (S.set p c ++ [.dct xs]) = .ok (.dct xs) (S.set p c) := by
  unfold fin
  rw [if_pos (cut_setapp hc), if_neg (by simp [D.lw])]
  have e : (S.set p c ++ [C.dct xs])[S.length]? = some (.dct xs) := by
    rw [List.getElem?_append_right (by simp)]
    simp
  simp only [e]
  rw [if_pos hd, List.take_left' (by simp)]
  rfl
theorem odd_ok {tab : Nat → FD} {g k : Nat} {b : (Nat → EvC) → EvS} {dr : EvC} (h : tab g = ⟨false, 2, 1, b⟩) (hb : b (evC tab k) = oddB dr) (hd : DrawOK dr) : OddOK (evC tab (k + 1) g) := by
  intro S p m hP
  have hp := hP.lt
  refine W_call h rfl ?_
  rw [hb]
  simp [oddB, pow30]
  refine W_draw hd (m := m) hP.app (by omega) (by omega) fun r c a1 a2 hc => ?_
  rw [set_app hp]
  have key : ∀ d : D, Th 3 2 d = true → wt d ≤ 12 → W (fin false S d (S.set p c ++ [C.dct []])) (Dr S p m OddG) := fun d hd hw => by
    rw [fin_setapp ((Th.pu hd).lw _) (hc.lw _)]
    exact ⟨c, rfl, hc, hd, hw⟩
  refine W_ixL a1 (by simpa using a2) fun d hm => ?_
  simp only [List.mem_cons, List.not_mem_nil, or_false] at hm
  rcases hm with rfl | rfl | rfl | rfl | rfl | rfl | rfl | rfl | rfl | rfl | rfl | rfl | rfl | rfl | rfl | rfl | rfl | rfl | rfl | rfl | rfl | rfl | rfl | rfl | rfl | rfl | rfl | rfl
  all_goals first
    | exact key _ (by decide +kernel) (by decide +kernel)
    | (refine (show W (fin false S (.ref S.length) (S.set p c ++ [C.dct []])) _ from ?_)
       rw [fin_setnewD (hc.lw _) rfl]
       exact ⟨c, rfl, hc, rfl, by decide⟩)
end Rk

namespace Rk
open PySem L2 TL

theorem cut_hi {xs : List D} {a : Int} (h : 0 ≤ a) : cutD xs none (some a) = xs.take a.toNat := by
  unfold cutD
  show (xs.drop 0).take ((if a < 0 then (a + (xs.length : Int)).toNat else min a.toNat xs.length) - 0) = _
  rw [if_neg (by omega), List.drop_zero, Nat.sub_zero]
  by_cases h1 : a.toNat ≤ xs.length
  · rw [Nat.min_eq_left h1]
  · rw [Nat.min_eq_right (by omega), List.take_of_length_le (Nat.le_refl _), List.take_of_length_le (by omega)]
theorem cut_lo {xs : List D} {a : Int} (h : 0 ≤ a) : cutD xs (some a) none = xs.drop a.toNat := by
  unfold cutD
  show (xs.drop (if a < 0 then (a + (xs.length : Int)).toNat else min a.toNat xs.length)).take (xs.length - (if a < 0 then (a + (xs.length : Int)).toNat else min a.toNat xs.length)) = _
  rw [if_neg (by omega)]
  by_cases h1 : a.toNat ≤ xs.length
  · rw [Nat.min_eq_left h1, List.take_of_length_le (by rw [List.length_drop]; exact Nat.le_refl _)]
  · rw [Nat.min_eq_right (by omega), List.take_of_length_le (by rw [List.length_drop]; exact Nat.le_refl _), List.drop_of_length_le (Nat.le_refl _), List.drop_of_length_le (by omega)]
@[simp] theorem slD_tup {xs : List D} {lo hi : Option Int} {S : Store} : slD (.tup xs) lo hi S = .ok (.tup (cutD xs lo hi)) S := rfl
theorem slD_str {z : Str} {lo hi : Option Int} {S : Store} (h : z.length ≤ 16777216) : slD (.str z) lo hi S = .ok (.str (cutS z lo hi)) S := if_pos h
theorem cutS_len {z : Str} {lo hi : Option Int} : (cutS z lo hi).length ≤ z.length := by
  unfold cutS Str.length
  simp [List.size_toArray]
  omega
noncomputable def bentB (dr odd me : EvC) : EvS :=
  (sSeq (sIf (fTOr (fTNot (fTru (fCall isiC (fCons (fVar 1) (fCons (fC (.ty "tuple")) fNil))))) (fTOr (fB (fBin eqD (fVar 1) (fTup fNil))) (fB (fBin eqD (fCall dr (fCons (fVar 0) (fCons (fC (.int 12)) fNil))) (fC (.int 0)))))) (sRet (fCall odd (fCons (fVar 0) fNil))) sNil)
    (sSeq (sPar 2 3 (fCons (fCall dr (fCons (fVar 0) (fCons (fCall lenC (fCons (fVar 1) fNil)) fNil))) (fCons (fCall dr (fCons (fVar 0) (fCons (fCall lenC (fCons (fVar 1) fNil)) fNil))) fNil)))
    (sSeq (sSet 4 (fCall dr (fCons (fVar 0) (fCons (fC (.int 10)) fNil))))
    (sSeq (sIf (fB (fBin ltD (fVar 4) (fC (.int 6)))) (sRet (fBin addD (fBin addD (fSl (fVar 1) oNone (oSome (fVar 2))) (fTup (fCons (fCall me (fCons (fVar 0) (fCons (fBin ixD (fVar 1) (fVar 2)) fNil))) fNil))) (fSl (fVar 1) (oSome (fBin addD (fVar 2) (fC (.int 1)))) oNone))) sNil)
    (sSeq (sIf (fB (fBin eqD (fVar 4) (fC (.int 6)))) (sRet (fBin addD (fSl (fVar 1) oNone (oSome (fVar 2))) (fSl (fVar 1) (oSome (fBin addD (fVar 2) (fC (.int 1)))) oNone))) sNil)
    (sSeq (sIf (fB (fBin eqD (fVar 4) (fC (.int 7)))) (sRet (fBin addD (fBin addD (fSl (fVar 1) oNone (oSome (fVar 2))) (fTup (fCons (fBin ixD (fVar 1) (fVar 3)) fNil))) (fSl (fVar 1) (oSome (fVar 2)) oNone))) sNil)
    (sRet (fBin ixD (fLst (fCons (fBin addD (fBin addD (fSl (fVar 1) oNone (oSome (fVar 2))) (fTup (fCons (fBin ixD (fVar 1) (fVar 3)) fNil))) (fSl (fVar 1) (oSome (fBin addD (fVar 2) (fC (.int 1)))) oNone)) (fCons (fBin ixD (fLst (fCons (fUn revD (fVar 1)) (fCons (fCall listC (fCons (fVar 1) fNil)) fNil))) (fCall dr (fCons (fVar 0) (fCons (fC (.int 2)) fNil)))) fNil))) (fBin subD (fVar 4) (fC (.int 8)))))))))))
/-- what comes of a thing that takes at most w words to write -/
def BentG (n k w : Nat) (d : D) : Prop := Th (n + 1) (k + 2) d = true ∧ wt d ≤ (k + 2) * w + 12
def BentOK (n k : Nat) (f : EvC) : Prop := ∀ (S : Store) (p m w : Nat) (d : D), Th n k d = true → wt d ≤ w → Pn S p (m + 6 * (k + 1)) → W (f [.ref p, d] S) (Dr S p m (BentG n k w))
theorem bent_step {dr odd me : EvC} (hd : DrawOK dr) (ho : OddOK odd) {n k : Nat} (hn : 3 ≤ n) (hn2 : n ≤ 1000) (hm : ∀ j, k = j + 1 → BentOK n j me) {S : Store} {p m w : Nat} {d : D} (ht : Th n k d = true) (hw : wt d ≤ w) (hP : Pn S p (m + 6 * (k + 1))) :
    WS (bentB dr odd me [some (.ref p), some d, none, none, none] S) { rt := fun d S' => W (fin false S d S') (Dr S p m (BentG n k w)) } := by
  have hp := hP.lt
  have hok := Th.ok1 ht
  have fin : ∀ {d : D} {S' : Store} {c : C} {i : Nat}, S' = S.set p c → Th (n + 1) (k + 2) d = true → wt d ≤ (k + 2) * w + 12 → PnC c (m + i) → W (fin false S d S') (Dr S p m (BentG n k w)) := fun e h hw hc => W_finset e (Th.pu h) (hc.le (n := m) (by omega)) ⟨_, rfl, hc.le (by omega), h, hw⟩
  have oddly : ∀ {S1 : Store} {i : Nat}, Pn S1 p (m + i + 1) → (∃ c, S1 = S.set p c) → W (odd [.ref p] S1) fun d S' => W (Rk.fin false S d S') (Dr S p m (BentG n k w)) := fun {S1 i} h1 ⟨c, e⟩ => by
    subst e
    refine W_dr (ho _ p (m + i) h1) fun d c hc hG => ?_
    exact fin (c := c) (i := i) (by simp) (Th.mono (by omega) (by omega) hG.1) (Nat.le_trans hG.2 (Nat.le_add_left _ _)) hc
  obtain ⟨c0, hc0, hpc0⟩ := id hP
  have self : ∃ c, S = S.set p c := ⟨c0, (set_same hc0).symm⟩
  by_cases ht2 : isTupT d = true
  · obtain ⟨xs, rfl⟩ := tup_of ht2
    cases k with
    | zero => exact absurd ht (by simp [Th, atT])
    | succ k =>
      obtain ⟨hl, hx⟩ := th_tup.mp ht
      by_cases he : xs = []
      · subst he
        simp [bentB, isi_tuple hok, isTupT]
        exact oddly (i := 6 * (k + 1 + 1) - 1) (hP.le (by omega)) self
      · have hlen : 0 < xs.length := List.length_pos_iff.mpr he
        simp [bentB, isi_tuple hok, isTupT, he]
        refine W_draw hd (m := m + 6 * (k + 1) + 5) (hP.le (by omega)) (by omega) (by omega) fun r0 c1 a1 a2 hc1 => ?_
        simp
        by_cases h0 : r0 = 0
        · simp [h0]
          exact oddly (i := 6 * (k + 1)) ((hc1.pn hp).le (by omega)) ⟨c1, rfl⟩
        · simp [h0]
          refine W_draw hd (m := m + 6 * (k + 1) + 4) ((hc1.pn hp).le (by omega)) (by omega) (by omega) fun a c2 b1 b2 hc2 => ?_
          simp
          refine W_draw hd (m := m + 6 * (k + 1) + 3) ((hc2.pn hp).le (by omega)) (by omega) (by omega) fun far c3 b3 b4 hc3 => ?_
          simp
          refine W_draw hd (m := m + 6 * (k + 1) + 2) ((hc3.pn hp).le (by omega)) (by omega) (by omega) fun way c4 b5 b6 hc4 => ?_
          have tk : ∀ {x : D}, x ∈ xs.take a.toNat → Th n k x = true := fun h => hx _ (List.mem_of_mem_take h)
          have dk : ∀ {x : D} {i : Nat}, x ∈ xs.drop i → Th n k x = true := fun h => hx _ (List.mem_of_mem_drop h)
          have up : ∀ {x : D}, Th n k x = true → Th (n + 1) (k + 2) x = true := fun h => Th.mono (by omega) (by omega) h
          have la : (xs.take a.toNat).length = a.toNat := by rw [List.length_take]; omega
          have e1 : (a + 1).toNat = a.toNat + 1 := by omega
          have w0 : 2 + wts xs ≤ w := hw
          have w1 := wts_take (xs := xs) a.toNat
          have w2 := wts_drop (xs := xs) a.toNat
          have w3 : (k + 1 + 2) * w = (k + 2) * w + w := by rw [show k + 1 + 2 = (k + 2) + 1 from rfl, Nat.succ_mul]
          have w4 : (k + 2) * w = k * w + 2 * w := by rw [Nat.add_mul]
          have w5 : ∀ {x : D}, x ∈ xs → wt x ≤ wts xs := fun h => wt_mem h
          simp
          by_cases w6 : way < 6
          · simp [w6, cut_hi b1]
            refine W_ixT b1 b2 fun x hxm => ?_
            refine W_dr (hm k rfl _ p (m + 2) w x (hx x hxm) (by have := w5 hxm; omega) ((hc4.pn hp).le (by omega))) fun d5 c5 hc5 hG => ?_
            simp [cut_lo (show 0 ≤ a + 1 by omega), e1]
            rw [if_pos (by omega)]
            simp [cut_lo (show 0 ≤ a + 1 by omega), cut_lo b1, e1]
            rw [if_pos (by omega)]
            simp [cut_lo (show 0 ≤ a + 1 by omega), cut_lo b1, e1]
            refine fin (c := c5) (i := 2) rfl (th_tup.mpr ⟨?_, fun x hm => ?_⟩) ?_ hc5
            · simp; omega
            · simp at hm
              rcases hm with h | h | h
              · exact up (tk h)
              · rw [h]; exact hG.1
              · exact up (dk h)
            · have := hG.2
              simp only [wt, wts, wts_app]
              omega
          · simp [w6]
            by_cases w7 : way = 6
            · simp [w7, cut_hi b1, cut_lo (show 0 ≤ a + 1 by omega), e1]
              rw [if_pos (by omega)]
              simp [cut_lo (show 0 ≤ a + 1 by omega), cut_lo b1, e1]
              refine fin (c := c4) (i := 6 * (k + 1) + 2) rfl (th_tup.mpr ⟨?_, fun x hm => ?_⟩) ?_ hc4
              · simp; omega
              · simp at hm
                rcases hm with h | h
                · exact up (tk h)
                · exact up (dk h)
              · simp only [wt, wts, wts_app]
                omega
            · simp [w7]
              by_cases w8 : way = 7
              · simp [w8, cut_hi b1]
                refine W_ixT b3 b4 fun x hxm => ?_
                simp [cut_lo b1]
                rw [if_pos (by omega)]
                simp [cut_lo (show 0 ≤ a + 1 by omega), cut_lo b1, e1]
                rw [if_pos (by omega)]
                simp [cut_lo (show 0 ≤ a + 1 by omega), cut_lo b1, e1]
                refine fin (c := c4) (i := 6 * (k + 1) + 2) rfl (th_tup.mpr ⟨?_, fun x hm => ?_⟩) ?_ hc4
                · simp; omega
                · simp at hm
                  rcases hm with h | h | h
                  · exact up (tk h)
                  · rw [h]; exact up (hx _ hxm)
                  · exact up (dk h)
                · have := w5 hxm
                  simp only [wt, wts, wts_app]
                  omega
              · simp [w8, cut_hi b1]
                refine W_ixT b3 b4 fun x hxm => ?_
                simp [cut_lo (show 0 ≤ a + 1 by omega), e1]
                rw [if_pos (by omega)]
                simp [cut_lo (show 0 ≤ a + 1 by omega), cut_lo b1, e1]
                rw [if_pos (by omega)]
                simp [cut_lo (show 0 ≤ a + 1 by omega), cut_lo b1, e1]
                refine W_draw hd (m := m + 6 * (k + 1) + 1) ((hc4.pn hp).le (by omega)) (by omega) (by omega) fun r5 c5 b7 b8 hc5 => ?_
                refine W_ixL b7 (by simpa using b8) fun y hy => ?_
                simp
                refine W_ixL (by omega) (by simp; omega) fun z hz => ?_
                refine fin (c := c5) (i := 6 * (k + 1) + 1) rfl ?_ ?_ hc5
                · simp only [List.mem_cons, List.not_mem_nil, or_false] at hz hy
                  rcases hz with rfl | rfl
                  · refine th_tup.mpr ⟨?_, fun x hm => ?_⟩
                    · simp; omega
                    · simp at hm
                      rcases hm with h | h | h
                      · exact up (tk h)
                      · rw [h]; exact up (hx _ hxm)
                      · exact up (dk h)
                  · rcases hy with rfl | rfl
                    · exact th_tup.mpr ⟨by simp; omega, fun x hm => up (hx _ (by simpa using hm))⟩
                    · refine th_at ?_
                      show Ds.lw 0 xs = true
                      exact lws_iff.mpr fun x hm => Th.pu (hx x hm)
                · simp only [List.mem_cons, List.not_mem_nil, or_false] at hz hy
                  rcases hz with rfl | rfl
                  · have := w5 hxm
                    simp only [wt, wts, wts_app]
                    omega
                  · rcases hy with rfl | rfl
                    · have : ∀ l : List D, wts l.reverse = wts l := fun l => by
                        induction l with
                        | nil => rfl
                        | cons x l ih => rw [List.reverse_cons, wts_app, ih]; simp only [wts]; omega
                      simp only [wt, this]
                      omega
                    · simp only [wt]; omega
  · have ht3 : isTupT d = false := by simpa using ht2
    simp [bentB, isi_tuple hok, ht3]
    exact oddly (i := 6 * (k + 1) - 1) (hP.le (by omega)) self
theorem bent_ok {tab : Nat → FD} {g gd go : Nat} {b : (Nat → EvC) → EvS} (h : tab g = ⟨false, 5, 2, b⟩) (hb : ∀ c, b c = bentB (c gd) (c go) (c g)) (hd : ∀ j, DrawOK (evC tab (j + 1) gd)) (ho : ∀ j, OddOK (evC tab (j + 2) go)) {n : Nat} (hn : 3 ≤ n) (hn2 : n ≤ 1000) :
    ∀ (k j : Nat), BentOK n k (evC tab (j + k + 3) g) := by
  intro k
  induction k with
  | zero =>
    intro j S p m w d ht hw hP
    refine W_call h rfl ?_
    rw [hb]
    exact rt_only (bent_step (k := 0) (hd (j + 1)) (ho j) hn hn2 (fun _ q => by omega) ht hw hP)
  | succ k ih =>
    intro j S p m w d ht hw hP
    have hm : ∀ i, k + 1 = i + 1 → BentOK n i (evC tab (j + k + 3) g) := fun i q => by
      obtain rfl : k = i := by omega
      exact ih j
    rw [show j + (k + 1) + 3 = (j + k + 3) + 1 from by omega]
    refine W_call h rfl ?_
    rw [hb]
    exact rt_only (bent_step (k := k + 1) (hd (j + k + 2)) (ho (j + k + 1)) hn hn2 hm ht hw hP)
end Rk

namespace Rk
open PySem L2 TL

/-! ### _law_wide -/
noncomputable def wideB (dr wd : EvC) : EvS :=
  (sSeq (sSet 1 (fCall wd (fCons (fVar 0) fNil)))
    (sSeq (sFor (iRange1 (fBin addD (fC (.int 3)) (fCall dr (fCons (fVar 0) (fCons (fC (.int 3)) fNil))))) (tgN 2) (sSet 1 (fBin mulD (fTup (fCons (fVar 1) fNil)) (fBin addD (fC (.int 1)) (fCall dr (fCons (fVar 0) (fCons (fC (.int 2)) fNil)))))))
    (sRet (fBin ixD (fLst (fCons (fBin mulD (fTup (fCons (fC (.str "a")) fNil)) (fBin addD (fC (.int 19)) (fCall dr (fCons (fVar 0) (fCons (fC (.int 3)) fNil))))) (fCons (fSl (fC (.str "abcdefghijk")) oNone (oSome (fBin addD (fC (.int 7)) (fCall dr (fCons (fVar 0) (fCons (fC (.int 4)) fNil)))))) (fCons (fVar 1) fNil)))) (fCall dr (fCons (fVar 0) (fCons (fC (.int 3)) fNil)))))))
theorem mul_tup1 {d : D} {q : Int} {S : Store} (h1 : 1 ≤ q) (h2 : q ≤ 1000) : mulD (.tup [d]) (.int q) S = .ok (.tup (List.replicate q.toNat d)) S := by
  have e : (List.replicate q.toNat [d]).flatten = List.replicate q.toNat d := by
    generalize q.toNat = n
    induction n with
    | zero => rfl
    | succ n ih => rw [List.replicate_succ, List.flatten_cons, ih, List.replicate_succ]; rfl
  show (if 2 ≤ q ∧ q ≤ 1000 ∧ [d].length ≤ 1000 ∧ [d].length ≠ 0 then R.ok (D.tup (List.replicate q.toNat [d]).flatten) S else if q = 1 then R.ok (D.tup [d]) S else .bad) = _
  by_cases h : 2 ≤ q
  · rw [if_pos ⟨h, h2, by simp, by simp⟩, e]
  · have : q = 1 := by omega
    subst this
    rw [if_neg (by omega), if_pos rfl]
    rfl
def WideOK (f : EvC) : Prop := ∀ (S : Store) (p m : Nat), Pn S p (m + 20) → W (f [.ref p] S) (Dr S p m fun d => Th 21 5 d = true)
theorem isWd.th {d : D} (h : isWd d) (n k : Nat) : Th n k d = true := by
  obtain ⟨z, rfl, hz⟩ := h
  have := hz.le
  exact th_at (by simp [atT]; omega)
theorem wide_ok {tab : Nat → FD} {g k : Nat} {b : (Nat → EvC) → EvS} {dr wd : EvC} (h : tab g = ⟨false, 3, 1, b⟩) (hb : b (evC tab k) = wideB dr wd) (hd : DrawOK dr) (hw : WordOK wd) : WideOK (evC tab (k + 1) g) := by
  intro S p m hP
  have hp := hP.lt
  refine W_call h rfl ?_
  rw [hb]
  simp [wideB]
  refine W_dr (hw _ p (m + 9) hP) fun d0 c0 hc0 hd0 => ?_
  simp
  refine W_draw hd (m := m + 8) (hc0.pn hp) (by omega) (by omega) fun r c1 a1 a2 hc1 => ?_
  simp
  refine W_range1 (by omega) (by omega) ?_
  simp only [k_g, k_goT, k_for, WS_then]
  refine forL_inv (fun xs ds S' => ∃ d x c, ds = [some (.ref p), some d, x] ∧ S' = S.set p c ∧ xs.length ≤ 5 ∧ PnC c (m + 3 + xs.length) ∧ Th 21 (5 - xs.length) d = true) _ ⟨d0, none, c1, rfl, by simp, by rw [range_len]; omega, hc1.le (by rw [range_len]; omega), hd0.th _ _⟩ (fun x xs ds S' h => ?_) (fun ds S' h => ?_)
  · obtain ⟨d, y, c, rfl, rfl, hl, hc, ht⟩ := h
    refine ⟨trivial, _, rfl, ?_⟩
    simp at hl hc ht
    simp
    refine W_draw hd (m := m + 3 + xs.length) (hc.pn hp) (by omega) (by omega) fun r2 c2 a3 a4 hc2 => ?_
    simp [mul_tup1 (show 1 ≤ 1 + r2 by omega) (show 1 + r2 ≤ 1000 by omega)]
    refine ⟨c2, rfl, by omega, hc2, ?_⟩
    rw [show 5 - xs.length = (4 - xs.length) + 1 from by omega]
    refine th_tup.mpr ⟨by simp; omega, fun x hx => ?_⟩
    rw [List.eq_of_mem_replicate hx]
    exact ht
  · obtain ⟨d, y, c, rfl, rfl, hl, hc, ht⟩ := h
    refine ⟨trivial, ?_⟩
    simp at hc ht
    simp
    refine W_draw hd (m := m + 2) (hc.pn hp) (by omega) (by omega) fun r2 c2 a3 a4 hc2 => ?_
    simp [mul_tup1 (show 1 ≤ 19 + r2 by omega) (show 19 + r2 ≤ 1000 by omega)]
    refine W_draw hd (m := m + 1) (hc2.pn hp) (by omega) (by omega) fun r3 c3 a5 a6 hc3 => ?_
    simp [slD_str (z := Str.ofString "abcdefghijk") (by decide +kernel)]
    refine W_draw hd (m := m) (hc3.pn hp) (by omega) (by omega) fun r4 c4 a7 a8 hc4 => ?_
    refine W_ixL a7 (by simpa using a8) fun z hz => ?_
    have hz' : Th 21 5 z = true := by
      simp only [List.mem_cons, List.not_mem_nil, or_false] at hz
      rcases hz with rfl | rfl | rfl
      · refine th_tup.mpr ⟨by simp; omega, fun x hx => ?_⟩
        rw [List.eq_of_mem_replicate hx]
        exact th_at (by decide +kernel)
      · refine th_at ?_
        have := cutS_len (z := Str.ofString "abcdefghijk") (lo := none) (hi := some (7 + r3))
        rw [show (Str.ofString "abcdefghijk").length = 11 from by decide +kernel] at this
        simp only [atT, decide_eq_true_eq]
        omega
      · exact ht
    exact W_finset (p := p) (c := c4) (m := m) (by simp) (Th.pu hz') hc4 ⟨c4, rfl, hc4, hz'⟩

/-! ### == of worths -/
def toV : Nat → D → PyData
  | _, .str z => .str z
  | _, .int i => .int i
  | k + 1, .tup xs => .tuple (xs.map (toV k))
  | _, _ => .none
theorem toPs_map (f : D → PyData) : ∀ xs : List D, (∀ x ∈ xs, toP x = some (f x)) → toPs xs = some (xs.map f)
  | [], _ => rfl
  | x :: xs, h => by
    simp only [toPs, h x List.mem_cons_self, toPs_map f xs fun y hy => h y (List.mem_cons_of_mem _ hy)]
    rfl
theorem toV_atom {k : Nat} : toV k .non = .none ∧ (∀ z, toV k (.str z) = .str z) ∧ ∀ i, toV k (.int i) = .int i := by cases k <;> exact ⟨rfl, fun _ => rfl, fun _ => rfl⟩
theorem toP_V : ∀ {k : Nat} {x : D}, isV k x = true → toP x = some (toV k x) := by
  intro k
  induction k with
  | zero =>
    intro x h
    rcases isV_cases h with rfl | ⟨z, rfl, hz⟩ | ⟨i, rfl, _⟩ | ⟨xs, j, rfl, hj, _⟩
    · rfl
    · rfl
    · rfl
    · omega
  | succ k ih =>
    intro x h
    rcases isV_cases h with rfl | ⟨z, rfl, hz⟩ | ⟨i, rfl, _⟩ | ⟨xs, j, rfl, hj, _, hx⟩
    · rfl
    · rfl
    · rfl
    · obtain rfl : k = j := by omega
      simp only [toP, toPs_map (toV k) xs fun x hm => ih (hx x hm)]
      rfl
theorem all_can (f : D → PyData) : ∀ xs : List D, (∀ x ∈ xs, (f x).canLay0 = true) → PyData.canLayAll0 (xs.map f) = true
  | [], _ => rfl
  | x :: xs, h => by
    simp only [List.map_cons, PyData.canLayAll0, h x List.mem_cons_self, all_can f xs fun y hy => h y (List.mem_cons_of_mem _ hy), Bool.and_self]
theorem all_dep (f : D → PyData) (k : Nat) : ∀ xs : List D, (∀ x ∈ xs, (f x).depth ≤ k) → PyData.depthAll (xs.map f) ≤ k
  | [], _ => Nat.zero_le _
  | x :: xs, h => by
    simp only [List.map_cons, PyData.depthAll]
    exact Nat.max_le.mpr ⟨h x List.mem_cons_self, all_dep f k xs fun y hy => h y (List.mem_cons_of_mem _ hy)⟩
theorem strOk_wd {z : Str} (h : Wd z) : PyData.strOk z = true := by
  unfold PyData.strOk
  rw [← Array.all_toList, List.all_eq_true]
  intro c hc
  have := h.all c hc
  simp
  omega
theorem can_V : ∀ {k : Nat} {x : D}, isV k x = true → (toV k x).canLay0 = true ∧ (toV k x).depth ≤ k := by
  intro k
  induction k with
  | zero =>
    intro x h
    rcases isV_cases h with rfl | ⟨z, rfl, hz⟩ | ⟨i, rfl, _⟩ | ⟨xs, j, rfl, hj, _⟩
    · exact ⟨rfl, Nat.le_refl _⟩
    · exact ⟨by simp only [toV, PyData.canLay0]; exact strOk_wd hz, by simp [toV, PyData.depth]⟩
    · exact ⟨rfl, Nat.le_refl _⟩
    · omega
  | succ k ih =>
    intro x h
    rcases isV_cases h with rfl | ⟨z, rfl, hz⟩ | ⟨i, rfl, _⟩ | ⟨xs, j, rfl, hj, _, hx⟩
    · exact ⟨rfl, by simp [toV, PyData.depth]⟩
    · exact ⟨by simp only [toV, PyData.canLay0]; exact strOk_wd hz, by simp [toV, PyData.depth]⟩
    · exact ⟨rfl, by simp [toV, PyData.depth]⟩
    · obtain rfl : k = j := by omega
      refine ⟨by simp only [toV, PyData.canLay0]; exact all_can _ _ fun x hm => (ih (hx x hm)).1, ?_⟩
      simp only [toV, PyData.depth]
      exact Nat.succ_le_succ (all_dep _ k _ fun x hm => (ih (hx x hm)).2)
theorem eqvAll_V {k : Nat} (ih : ∀ {x y : D}, isV k x = true → isV k y = true → (PyData.eqv (toV k x) (toV k y) = true ↔ x = y)) : ∀ {xs ys : List D}, (∀ x ∈ xs, isV k x = true) → (∀ x ∈ ys, isV k x = true) → (PyData.eqvAll (xs.map (toV k)) (ys.map (toV k)) = true ↔ xs = ys)
  | [], [], _, _ => by simp [PyData.eqvAll]
  | [], y :: ys, _, _ => by simp [PyData.eqvAll]
  | x :: xs, [], _, _ => by simp [PyData.eqvAll]
  | x :: xs, y :: ys, hx, hy => by
    simp only [List.map_cons, PyData.eqvAll, Bool.and_eq_true, List.cons.injEq]
    rw [ih (hx x List.mem_cons_self) (hy y List.mem_cons_self), eqvAll_V ih (fun z hz => hx z (List.mem_cons_of_mem _ hz)) fun z hz => hy z (List.mem_cons_of_mem _ hz)]
theorem eqv_V : ∀ {k : Nat} {x y : D}, isV k x = true → isV k y = true → (PyData.eqv (toV k x) (toV k y) = true ↔ x = y) := by
  intro k
  induction k with
  | zero =>
    intro x y hx hy
    rcases isV_cases hx with rfl | ⟨z, rfl, hz⟩ | ⟨i, rfl, _⟩ | ⟨xs, j, rfl, hj, _⟩ <;> rcases isV_cases hy with rfl | ⟨z', rfl, hz'⟩ | ⟨i', rfl, _⟩ | ⟨ys, j', rfl, hj', _⟩ <;> first | omega | simp [toV, PyData.eqv]
  | succ k ih =>
    intro x y hx hy
    rcases isV_cases hx with rfl | ⟨z, rfl, hz⟩ | ⟨i, rfl, _⟩ | ⟨xs, j, rfl, hj, _, hx'⟩ <;> rcases isV_cases hy with rfl | ⟨z', rfl, hz'⟩ | ⟨i', rfl, _⟩ | ⟨ys, j', rfl, hj', _, hy'⟩ <;> first | (simp [toV, PyData.eqv]; done) | skip
    obtain rfl : k = j := by omega
    obtain rfl : k = j' := by omega
    simp only [toV, PyData.eqv, D.tup.injEq]
    exact eqvAll_V ih hx' hy'
theorem eqS_iff {x y : D} {b : Bool} (h : eqS x y = some b) : b = true ↔ x = y := by
  unfold eqS at h
  split at h <;> first | cases h
  all_goals simp
theorem toPS_V {k : Nat} {x : D} {S : Store} (h : isV k x = true) : toPS S x = some (toV k x) := by
  rw [← toP_V h]
  cases x <;> first | rfl | (exfalso; rcases isV_cases h with q | ⟨_, q, _⟩ | ⟨_, q, _⟩ | ⟨_, _, q, _⟩ <;> cases q)
theorem eqB_V {k : Nat} (hk : k ≤ 64) {x y : D} {S : Store} (hx : isV k x = true) (hy : isV k y = true) : ∃ b, eqB S x y = some b ∧ (b = true ↔ x = y) := by
  unfold eqB
  cases h : eqS x y with
  | some b => exact ⟨b, rfl, eqS_iff h⟩
  | none =>
    have sh : ∀ {z : D}, isV k z = true → SeqAt.shaped (toV k z) = true := fun hz => by
      unfold SeqAt.shaped
      rw [(can_V hz).1, decide_eq_true (Nat.le_trans (can_V hz).2 hk)]
      rfl
    simp only [toPS_V hx, toPS_V hy]
    rw [if_pos ⟨sh hx, sh hy⟩]
    exact ⟨_, rfl, eqv_V hx hy⟩
/-- == and != of worths are == and != of their texts -/
theorem eq_V {k : Nat} (hk : k ≤ 64) {x y : D} {S : Store} (hx : isV k x = true) (hy : isV k y = true) : eqD x y S = .ok (.bl (decide (shS k x = shS k y))) S := by
  obtain ⟨b, e, hb⟩ := eqB_V hk (S := S) hx hy
  have : b = decide (shS k x = shS k y) := by
    rw [Bool.eq_iff_iff, hb, decide_eq_true_iff]
    exact ⟨fun h => by rw [h], show_inj hx hy⟩
  unfold eqD
  rw [e, this]

/-! ### repr -/
theorem repr_bb {a b : Bool} {S : Store} : reprC [.lst [.bl a, .bl b]] S = .ok (.str (PyData.list [.bool a, .bool b]).shown) S := by
  have e : toPS S (.lst [.bl a, .bl b]) = some (.list [.bool a, .bool b]) := rfl
  unfold reprC
  simp only [e]
  rw [if_pos]
  refine ⟨rfl, ?_, by cases a <;> cases b <;> decide, rfl⟩
  cases a <;> cases b <;> decide +kernel
/-- a plain sign -/
def plainC (c : Nat) : Bool := decide (32 ≤ c) && decide (c < 127) && decide (c ≠ 39) && decide (c ≠ 92)
theorem repr1 : ∀ c ∈ List.range 127, plainC c = true → (Builtin.Str.reprChar 39 c).length = 1 := by decide +kernel
theorem repr_plain {z : Str} (h : ∀ c ∈ tl z, plainC c = true) : (reprText z).length = z.length + 2 := by
  have hq : reprQuote z = 39 := by
    unfold reprQuote
    have : z.cps.contains 39 = false := by
      rw [Bool.eq_false_iff]
      intro q
      have := h 39 (by simpa [tl] using q)
      simp [plainC] at this
    rw [this]
    rfl
  rw [← reprLen_eq, hq]
  have : ∀ (l : List Nat) (n : Nat), (∀ c ∈ l, plainC c = true) → l.foldl (fun n c => n + (Builtin.Str.reprChar 39 c).length) n = n + l.length := by
    intro l
    induction l with
    | nil => intro n _; rfl
    | cons c l ih =>
      intro n hl
      have hc := hl c List.mem_cons_self
      have h1 := repr1 c (by simp [plainC] at hc; simp; omega) hc
      rw [List.foldl_cons, ih _ fun d hd => hl d (List.mem_cons_of_mem _ hd), h1, List.length_cons]
      omega
  rw [← Array.foldl_toList, this z.cps.toList 2 h, len_tl]
  exact Nat.add_comm _ _
theorem reprC_str {z : Str} {S : Store} (h : ∀ c ∈ tl z, plainC c = true) (hl : z.length ≤ 16000000) : reprC [.str z] S = .ok (.str (PyData.str z).shown) S := by
  have e : toPS S (.str z) = some (.str z) := rfl
  unfold reprC
  simp only [e]
  rw [if_pos]
  refine ⟨rfl, ?_, Nat.zero_le _, rfl⟩
  show (reprText z).length ≤ _
  rw [repr_plain h]
  simp
  omega
theorem joinL_mem {S : List Nat} {c : Nat} : ∀ {ps : List (List Nat)}, c ∈ joinL S ps → c ∈ S ∨ ∃ p ∈ ps, c ∈ p
  | [], h => by cases h
  | [p], h => .inr ⟨p, by simp, h⟩
  | p :: q :: r, h => by
    simp only [joinL, List.mem_append] at h
    rcases h with h | h | h
    · exact .inr ⟨p, by simp, h⟩
    · exact .inl h
    · rcases joinL_mem (ps := q :: r) h with h | ⟨x, hx, h⟩
      · exact .inl h
      · exact .inr ⟨x, List.mem_cons_of_mem _ hx, h⟩
theorem shL_plain : ∀ {k : Nat} {d : D}, isV k d = true → ∀ c ∈ shL k d, plainC c = true := by
  have num : ∀ {i : Int} {c : Nat}, c ∈ numZ i → plainC c = true := fun h => by
    rcases numZ_mem h with rfl | h
    · rfl
    · simp [plainC]; omega
  have wd : ∀ {z : Str} {c : Nat}, Wd z → c ∈ tl z → plainC c = true := fun hz h => by
    have := hz.all _ h
    simp [plainC]; omega
  intro k
  induction k with
  | zero =>
    intro d h c hc
    rcases isV_cases h with rfl | ⟨z, rfl, hz⟩ | ⟨i, rfl, _⟩ | ⟨xs, j, rfl, hj, _⟩
    · simp [shL] at hc; subst hc; rfl
    · exact wd hz hc
    · exact num hc
    · omega
  | succ k ih =>
    intro d h c hc
    rcases isV_cases h with rfl | ⟨z, rfl, hz⟩ | ⟨i, rfl, _⟩ | ⟨xs, j, rfl, hj, _, hx⟩
    · simp [shL] at hc; subst hc; rfl
    · exact wd hz hc
    · exact num hc
    · obtain rfl : k = j := by omega
      simp only [shL] at hc
      rcases joinL_mem hc with h | ⟨p, hp, h⟩
      · simp at h; subst h; rfl
      · simp at hp
        rcases hp with rfl | ⟨x, hx', rfl⟩ | rfl
        · simp at h; subst h; rfl
        · exact ih (hx x hx') c h
        · simp at h; subst h; rfl
theorem repr_sh {k : Nat} (hk : k ≤ 4) {d : D} {S : Store} (h : isV k d = true) : reprC [.str (shS k d)] S = .ok (.str (PyData.str (shS k d)).shown) S := by
  refine reprC_str (by rw [tl_shS]; exact shL_plain h) ?_
  rw [len_tl, tl_shS]
  refine Nat.le_trans (shL_len h) ?_
  have : k = 0 ∨ k = 1 ∨ k = 2 ∨ k = 3 ∨ k = 4 := by omega
  rcases this with rfl | rfl | rfl | rfl | rfl <;> decide

/-! ### the pen's making -/
noncomputable def penB : EvS :=
  (sRet (fDisp (((fC (.str "cells")), (fCall listC (fCons (fSl (fVar 0) oNone (oSome (fC (.int 63)))) fNil))) :: (((fC (.str "at")), (fC (.int 0))) :: (((fC (.str "left")), (fC (.int 0))) :: [])))))
@[simp] theorem slD_rol {xs : List D} {lo hi : Option Int} {S : Store} : slD (.rol xs) lo hi S = .ok (.lst (cutD xs lo hi)) S := rfl
@[simp] theorem slD_lst {xs : List D} {lo hi : Option Int} {S : Store} : slD (.lst xs) lo hi S = .ok (.lst (cutD xs lo hi)) S := rfl
theorem pen_ok {tab : Nat → FD} {g k : Nat} {b : (Nat → EvC) → EvS} (h : tab g = ⟨true, 1, 1, b⟩) (hb : b (evC tab k) = penB) {ns : List Int} {S : Store} : evC tab (k + 1) g [.rol (ns.map D.int)] S = .ok (.ref S.length) (S ++ [penC (ns.take 63) 0 0]) := by
  rw [ev_call h rfl, hb]
  simp [penB, cut_hi (show (0 : Int) ≤ 63 by decide)]
  rw [dispK_same (by simp)]
  have e : mergeD [] [(Sum.inr (Str.ofString "cells"), D.lst ((ns.map D.int).take 63)), (Sum.inr (Str.ofString "at"), D.int 0), (Sum.inr (Str.ofString "left"), D.int 0)] = [(Sum.inr (Str.ofString "cells"), D.lst ((ns.take 63).map D.int)), (Sum.inr (Str.ofString "at"), D.int 0), (Sum.inr (Str.ofString "left"), D.int 0)] := by
    simp [mergeD, putD, kca, kcl, kal, List.map_take]
  simp
  rw [List.map_take] at e
  rw [e]
  rw [fin_newDK (by simp [Ks.lw, D.lw, ← List.map_take, lw_ints])]
  simp [penC, List.map_take]
theorem pen_new {ns : List Int} {m : Nat} (hm : m < 1152921504606846976) : PnC (penC ns 0 0) m := ⟨ns, 0, 0, rfl, Int.le_refl _, Int.le_refl _, by omega⟩
end Rk

namespace Rk
open PySem L2 TL

/-! ### the forms of deeds -/
def sg (c : Nat) : D := .str ⟨#[c]⟩
def FORMS : List (Key × D) := [(.inr "say", .str "w"), (.inr "echo", .str ""), (.inr "spend", .str "k"), (.inr "post", .str "rwS"), (.inr "micro", .str "S"), (.inr "after", .str "krwS"), (.inr "every", .str "erwS"), (.inr "idle", .str "iwS"), (.inr "stop", .str "w"), (.inr "rerank", .str "wr"), (.inr "make", .str "w"), (.inr "keep", .str "wv"), (.inr "pass", .str "w"), (.inr "break", .str "ww"), (.inr "follow", .str "ww"), (.inr "then", .str "wwss"), (.inr "all", .str "wn"), (.inr "any", .str "wn"), (.inr "first", .str "wn"), (.inr "each", .str "wn"), (.inr "give", .str "v"), (.inr "fail", .str "w"), (.inr "guard", .str "SsS"), (.inr "if", .str "wSS"), (.inr "wait", .str "w"), (.inr "run", .str "w"), (.inr "story", .str "wS"), (.inr "cancel", .str "w"), (.inr "yield", .str "r"), (.inr "call", .str "w")]
def kinds : List Nat := [119, 110, 118, 114, 107, 101, 105, 83, 115]
/-- so many texts at most in a part of a kind -/
def tct (c : Nat) : Nat := if c = 119 then 1 else if c = 110 then 8 else if c = 118 then 60 else 0
/-- so many words at most in a part of a kind -/
def wct (c : Nat) : Nat := if c = 110 then 10 else if c = 118 then 68 else if c = 83 ∨ c = 115 then 2 else 1
def okForm (f : Str) : Bool := f.cps.toList.all (fun c => decide (c ∈ kinds)) && (decide (f.cps.toList.length ≤ 4) && (decide ((f.cps.toList.map tct).sum ≤ 61) && decide ((f.cps.toList.map wct).sum ≤ 69)))
def formOf (z : Str) : Option Str := match valD FORMS (.inr z) with
  | some (.str f) => some f
  | _ => none
theorem valD_mem : ∀ {kvs : List (Key × D)} {k : Key} {d : D}, valD kvs k = some d → (k, d) ∈ kvs
  | [], _, _, h => by cases h
  | (k', d') :: r, k, d, h => by
    unfold valD at h
    split at h
    · rename_i e
      subst e
      cases h
      exact List.mem_cons_self
    · exact List.mem_cons_of_mem _ (valD_mem h)
def goodKV (kv : Key × D) : Bool := match kv with
  | (.inr x, .str f) => okForm f && (match valD FORMS (.inr x) with
    | some (.str g) => decide (g = f)
    | _ => false)
  | _ => false
theorem forms_good : FORMS.all goodKV = true := by decide +kernel
theorem form_cases (z : Str) : (valD FORMS (.inr z) = none ∧ formOf z = none) ∨ ∃ f, valD FORMS (.inr z) = some (.str f) ∧ formOf z = some f ∧ okForm f = true := by
  unfold formOf
  cases h : valD FORMS (.inr z) with
  | none => exact .inl ⟨rfl, rfl⟩
  | some d =>
    have := List.all_eq_true.mp forms_good _ (valD_mem h)
    unfold goodKV at this
    split at this
    · rename_i x f e
      injection e with e1 e2
      subst e2
      simp only [Bool.and_eq_true] at this
      exact .inr ⟨f, rfl, rfl, this.1⟩
    · cases this
theorem okForm.len {f : Str} (h : okForm f = true) : f.cps.toList.length ≤ 4 := by
  simp only [okForm, Bool.and_eq_true, decide_eq_true_eq] at h
  exact h.2.1
theorem okForm.sum {f : Str} (h : okForm f = true) : (f.cps.toList.map tct).sum ≤ 61 := by
  simp only [okForm, Bool.and_eq_true, decide_eq_true_eq] at h
  exact h.2.2.1
theorem okForm.sumw {f : Str} (h : okForm f = true) : (f.cps.toList.map wct).sum ≤ 69 := by
  simp only [okForm, Bool.and_eq_true, decide_eq_true_eq] at h
  exact h.2.2.2
theorem okForm.mem {f : Str} (h : okForm f = true) {c : Nat} (hc : c ∈ f.cps.toList) : c ∈ kinds := by
  simp only [okForm, Bool.and_eq_true, List.all_eq_true, decide_eq_true_eq] at h
  exact h.1 c hc
theorem notIn_kd {z : Str} {S : Store} : notInD (.str z) (.kd FORMS) S = .ok (.bl (formOf z).isNone) S := by
  have e : inB S (.str z) (.kd FORMS) = some (valD FORMS (.inr z)).isSome := rfl
  unfold notInD
  rw [e]
  rcases form_cases z with ⟨h1, h2⟩ | ⟨f, h1, h2, _⟩ <;> rw [h1, h2] <;> rfl
theorem notIn_dct {z : Str} {S : Store} : notInD (.str z) (.dct FORMS) S = .ok (.bl (formOf z).isNone) S := by
  have e : inB S (.str z) (.dct FORMS) = some (valD FORMS (.inr z)).isSome := rfl
  unfold notInD
  rw [e]
  rcases form_cases z with ⟨h1, h2⟩ | ⟨f, h1, h2, _⟩ <;> rw [h1, h2] <;> rfl
theorem ix_kd {z f : Str} {S : Store} (h : formOf z = some f) : ixD (.kd FORMS) (.str z) S = .ok (.str f) S := by
  rcases form_cases z with ⟨h1, h2⟩ | ⟨g, h1, h2, _⟩
  · rw [h2] at h; cases h
  · rw [h2] at h; cases h
    simp [ixD, h1]
theorem ix_dct {z f : Str} {S : Store} (h : formOf z = some f) : ixD (.dct FORMS) (.str z) S = .ok (.str f) S := by
  rcases form_cases z with ⟨h1, h2⟩ | ⟨g, h1, h2, _⟩
  · rw [h2] at h; cases h
  · rw [h2] at h; cases h
    simp [ixD, ixK, asDict, h1]
theorem form_ok {z f : Str} (h : formOf z = some f) : okForm f = true := by
  rcases form_cases z with ⟨h1, h2⟩ | ⟨g, h1, h2, h3⟩
  · rw [h2] at h; cases h
  · rw [h2] at h; cases h
    exact h3

/-! ### what a script is -/
def isNm (d : D) : Bool := isTupT d && decide ((parts d).length ≤ 8) && (parts d).all isW
def lookB (c : Nat) (p : D) : Bool :=
  if c = 119 then isW p else if c = 110 then isNm p else if c = 118 then isV 4 p else if c = 114 then isF 0 5 p else if c = 107 then isF 0 1000 p else if c = 101 then isF 1 1000 p else isNonD p || isF 0 1000 p
def pN (me : D → Option Nat) (c : Nat) (p : D) : Option Nat :=
  if c = 115 ∧ isNonD p = true then some 0 else if c = 83 ∨ c = 115 then me p else if lookB c p = true then some 0 else none
def psN (me : D → Option Nat) : List (Nat × D) → Nat → Option Nat
  | [], n => some n
  | (c, p) :: r, n => match pN me c p with
    | some m => psN me r (n + m)
    | none => none
def dN (me : D → Option Nat) : D → Option Nat
  | .tup (.str w :: ps) => match formOf w with
    | some f => if ps.length = f.cps.toList.length then psN me (f.cps.toList.zip ps) 1 else none
    | none => none
  | _ => none
def dsN (me : D → Option Nat) : List D → Nat → Option Nat
  | [], n => some n
  | d :: r, n => match dN me d with
    | some m => if 200 < n + m then none else dsN me r (n + m)
    | none => none
def scn : Nat → D → Option Nat
  | 0, _ => none
  | k + 1, d => if isTupT d = true then dsN (scn k) (parts d) 0 else none
/-! ### the words of a script, in order, as often as they stand in it -/
def pW (me : D → List Str) (c : Nat) (p : D) : List Str := if c = 119 ∨ c = 110 ∨ c = 118 then txs p else if (c = 83 ∨ c = 115) ∧ isNonD p = false then me p else []
def psW (me : D → List Str) (l : List (Nat × D)) : List Str := l.flatMap fun q => pW me q.1 q.2
def dW (me : D → List Str) : D → List Str
  | .tup (.str w :: ps) => match formOf w with
    | some f => psW me (f.cps.toList.zip ps)
    | none => []
  | _ => []
def dsW (me : D → List Str) (l : List D) : List Str := l.flatMap (dW me)
def scW : Nat → D → List Str
  | 0, _ => []
  | k + 1, d => dsW (scW k) (parts d)
theorem psW_snoc {me : D → List Str} {l : List (Nat × D)} {c : Nat} {p : D} : psW me (l ++ [(c, p)]) = psW me l ++ pW me c p := by simp [psW]
theorem dsW_snoc {me : D → List Str} {l : List D} {d : D} : dsW me (l ++ [d]) = dsW me l ++ dW me d := by simp [dsW]
def oD : Option Nat → D
  | some n => .int n
  | none => .non
@[simp] theorem oD_some {n : Nat} : oD (some n) = .int n := rfl
@[simp] theorem oD_none : oD none = .non := rfl
@[simp] theorem nonD_oD {o : Option Nat} : isNonD (oD o) = o.isNone := by cases o <;> rfl
theorem oD_pu {o : Option Nat} {k : Nat} : (oD o).lw k = true := by cases o <;> rfl
/-- a thing that may be asked -/
def Tg (d : D) : Prop := ∃ k, Th 1000 k d = true
theorem Tg.ok1 {d : D} (h : Tg d) : ok1 d = true := let ⟨_, q⟩ := h; Th.ok1 q
theorem Tg.okT {d : D} (h : Tg d) (j : Nat) : okT j d = true := let ⟨_, q⟩ := h; Th.okT q
theorem Tg.part {d x : D} (h : Tg d) (hx : x ∈ parts d) : Tg x := let ⟨_, q⟩ := h; let ⟨j, _, q'⟩ := Th.parts q hx; ⟨j, q'⟩
theorem Tg.len {xs : List D} (h : Tg (.tup xs)) : xs.length ≤ 1000 := by
  obtain ⟨k, q⟩ := h
  cases k with
  | zero => exact absurd q (by simp [Th, atT])
  | succ k => exact (th_tup.mp q).1

/-! ### the looks -/
def LookOK (f : EvC) (c : Nat) : Prop := ∀ (p : D) (S : Store), Tg p → f [p] S = .ok (.bl (lookB c p)) S
noncomputable def namesB (wd : EvC) : EvS :=
  (sRet (fAnd (fCall isiC (fCons (fVar 0) (fCons (fC (.ty "tuple")) fNil))) (fAnd (fBin leD (fCall lenC (fCons (fVar 0) fNil)) (fC (.int 8))) (fCall allC (fCons (fComp (iVal (fVar 0)) [1] (tgN 1) cYes (fCall wd (fCons (fVar 1) fNil))) fNil)))))
theorem names_B {wd : EvC} (hw : IsWordOK wd) {d : D} {S : Store} {keep : Bool} (hd : Tg d) : W (finR keep S (namesB wd [some d, none] S)) (fun x S' => x = .bl (isNm d) ∧ S' = S) := by
  have ho := hd.ok1
  by_cases ht : isTupT d = true
  · obtain ⟨xs, rfl⟩ := tup_of ht
    by_cases hl : xs.length ≤ 8
    · have hl2 : (xs.length : Int) ≤ 8 := by omega
      have ev : isNm (.tup xs) = xs.all isW := by simp [isNm, isTupT, parts, hl]
      rw [ev]
      simp [namesB, isi_tuple ho, isTupT, hl2]
      refine W_comp_pure (fun _ => true) (fun x => .bl (isW x)) (by omega) (fun x hx => ⟨_, rfl, rfl, fun _ => ?_⟩) ?_
      · simp [hw x _ (hd.part hx).ok1]
      · rw [show (xs.filter fun _ => true) = xs from List.filter_eq_self.mpr fun _ _ => rfl]
        show W (allC [.lst (xs.map fun x => .bl (isW x))] S) _
        rw [allC_lst]
        simp
    · have hl2 : ¬ (xs.length : Int) ≤ 8 := by omega
      have ev : isNm (.tup xs) = false := by simp [isNm, isTupT, parts, hl]
      rw [ev]
      simp [namesB, isi_tuple ho, isTupT, hl2]
  · have ht' : isTupT d = false := by simpa using ht
    have ev : isNm d = false := by simp [isNm, ht']
    rw [ev]
    simp [namesB, isi_tuple ho, ht']
theorem names_ok {tab : Nat → FD} {g k : Nat} {b : (Nat → EvC) → EvS} {wd : EvC} (h : tab g = ⟨false, 2, 1, b⟩) (hb : b (evC tab k) = namesB wd) (hw : IsWordOK wd) : LookOK (evC tab (k + 1) g) 110 := by
  intro p S hp
  rw [ev_call h rfl, hb]
  exact R_of (names_B hw hp)
theorem look_w {f : EvC} (h : IsWordOK f) : LookOK f 119 := fun p S hp => h p S hp.ok1
noncomputable def rangeB (fr : EvC) (a b : Int) : EvS := (sRet (fCall fr (fCons (fVar 0) (fCons (fC (.int a)) (fCons (fC (.int b)) fNil)))))
theorem range_ok {tab : Nat → FD} {g k c : Nat} {a b : Int} {bd : (Nat → EvC) → EvS} {fr : EvC} (h : tab g = ⟨false, 1, 1, bd⟩) (hb : bd (evC tab k) = rangeB fr a b) (hf : FromOK fr) (hc : ∀ p, lookB c p = isF a b p) : LookOK (evC tab (k + 1) g) c := by
  intro p S hp
  rw [ev_call h rfl, hb, hc]
  simp [rangeB, hf _ _ _ _ hp.ok1]
noncomputable def worthB1 (wo : EvC) : EvS := (sRet (fCall wo (fCons (fVar 0) (fCons (fC (.int 4)) fNil))))
theorem look_v {tab : Nat → FD} {g k : Nat} {bd : (Nat → EvC) → EvS} {wo : EvC} (h : tab g = ⟨false, 1, 1, bd⟩) (hb : bd (evC tab k) = worthB1 wo) (hv : IsVOK 4 wo) : LookOK (evC tab (k + 1) g) 118 := by
  intro p S hp
  have := hv p S (hp.okT 4)
  rw [ev_call h rfl, hb]
  simp [worthB1]
  rw [show (4 : Int) = ((4 : Nat) : Int) from rfl, this]
  simp
  rfl
noncomputable def latestB (dl : EvC) : EvS := (sRet (fOr (fBin isD (fVar 0) (fC .non)) (fCall dl (fCons (fVar 0) fNil))))
theorem look_i {tab : Nat → FD} {g k : Nat} {bd : (Nat → EvC) → EvS} {dl : EvC} (h : tab g = ⟨false, 1, 1, bd⟩) (hb : bd (evC tab k) = latestB dl) (hd : LookOK dl 107) : LookOK (evC tab (k + 1) g) 105 := by
  intro p S hp
  rw [ev_call h rfl, hb]
  have e : lookB 105 p = (isNonD p || lookB 107 p) := rfl
  rw [e]
  by_cases hn : isNonD p = true <;> simp [latestB, hn, hd p S hp]

/-! ### count_by, count_in, count_of -/
section
variable {S : Store} {ds : Env}
theorem e_callV {c : Nat → EvC} {L : List Nat} {i k : Nat} {g : EvA} (h : ds[i]? = some (some (.fn k))) (hk : k ∈ L) : fCallV c L i g ds S = (g ds S).bind (c k) := by
  unfold fCallV
  rw [h]
  simp only [if_pos hk]
end
structure Looks (c : Nat → EvC) (gw gn gv gr gk ge gi : Nat) : Prop where
  w : LookOK (c gw) 119
  n : LookOK (c gn) 110
  v : LookOK (c gv) 118
  r : LookOK (c gr) 114
  k : LookOK (c gk) 107
  e : LookOK (c ge) 101
  i : LookOK (c gi) 105
def LOOKS (gw gn gv gr gk ge gi : Nat) : List (Key × D) := [(.inr "w", .fn gw), (.inr "n", .fn gn), (.inr "v", .fn gv), (.inr "r", .fn gr), (.inr "k", .fn gk), (.inr "e", .fn ge), (.inr "i", .fn gi)]
noncomputable def byB (c : Nat → EvC) (gw gn gv gr gk ge gi gc : Nat) : EvS :=
  (sSeq (sIf (fTAnd (fB (fBin eqD (fVar 0) (fC (.str "s")))) (fB (fBin isD (fVar 1) (fC .non)))) (sRet (fC (.int 0))) sNil)
    (sSeq (sIf (fB (fBin inD (fVar 0) (fC (.str "Ss")))) (sRet (fCall (c gc) (fCons (fVar 1) (fCons (fBin subD (fVar 2) (fC (.int 1))) fNil)))) sNil)
    (sSeq (sSet 3 (fBin ixD (fC (.kd (LOOKS gw gn gv gr gk ge gi))) (fVar 0)))
    (sRet (fIf (fTru (fCallV c [gw, gn, gv, gr, gk, ge, gi] 3 (fCons (fVar 1) fNil))) (fC (.int 0)) (fC .non))))))
def CountOK (k : Nat) (f : EvC) : Prop := ∀ (d : D) (S : Store), Tg d → f [d, .int k] S = .ok (oD (scn k d)) S
def DeedOK (k : Nat) (f : EvC) : Prop := ∀ (d : D) (S : Store), Tg d → f [d, .int (k + 1 : Nat)] S = .ok (oD (dN (scn k) d)) S
def ByOK (k : Nat) (f : EvC) : Prop := ∀ (c : Nat) (p : D) (S : Store), c ∈ kinds → Tg p → f [sg c, p, .int (k + 1 : Nat)] S = .ok (oD (pN (scn k) c p)) S
theorem by_step {c : Nat → EvC} {gw gn gv gr gk ge gi gc k : Nat} (hl : Looks c gw gn gv gr gk ge gi) (hc : CountOK k (c gc)) {q : Nat} {p : D} {S : Store} {keep : Bool} (hq : q ∈ kinds) (hp : Tg p) :
    W (finR keep S (byB c gw gn gv gr gk ge gi gc [some (sg q), some p, some (.int (k + 1 : Nat)), none] S)) (fun x S' => x = oD (pN (scn k) q p) ∧ S' = S) := by
  have e1 : ((k + 1 : Nat) : Int) - 1 = (k : Int) := by omega
  have e2 : (k : Int) + 1 - 1 = (k : Int) := by omega
  have lk : ∀ (g : Nat) (z : D), LookOK (c g) q → inD (sg q) (.str "Ss") S = .ok (.bl false) S → eqD (sg q) (.str "s") S = .ok (.bl false) S → ixD (.kd (LOOKS gw gn gv gr gk ge gi)) (sg q) S = .ok (.fn g) S → g ∈ [gw, gn, gv, gr, gk, ge, gi] → (pN (scn k) q p = if lookB q p = true then some 0 else none) →
      W (finR keep S (byB c gw gn gv gr gk ge gi gc [some (sg q), some p, some (.int (k + 1 : Nat)), none] S)) (fun x S' => x = oD (pN (scn k) q p) ∧ S' = S) := fun g z h1 h2 h3 h4 h5 h6 => by
    rw [h6]
    have hz : ∀ ds : Env, ds[3]? = some (some (.fn g)) → ∀ A : EvA, fCallV c [gw, gn, gv, gr, gk, ge, gi] 3 A ds S = (A ds S).bind (c g) := fun ds hd A => e_callV hd h5
    simp [byB, h2, h3, h4]
    rw [hz _ (by simp)]
    simp [h1 p S hp]
    cases lookB q p <;> simp
  simp only [kinds, List.mem_cons, List.not_mem_nil, or_false] at hq
  rcases hq with rfl | rfl | rfl | rfl | rfl | rfl | rfl | rfl | rfl
  · exact lk gw (.non) hl.w rfl rfl rfl (by simp) rfl
  · exact lk gn (.non) hl.n rfl rfl rfl (by simp) rfl
  · exact lk gv (.non) hl.v rfl rfl rfl (by simp) rfl
  · exact lk gr (.non) hl.r rfl rfl rfl (by simp) rfl
  · exact lk gk (.non) hl.k rfl rfl rfl (by simp) rfl
  · exact lk ge (.non) hl.e rfl rfl rfl (by simp) rfl
  · exact lk gi (.non) hl.i rfl rfl rfl (by simp) rfl
  · have h1 : eqD (sg 83) (.str "s") S = .ok (.bl false) S := rfl
    have h2 : inD (sg 83) (.str "Ss") S = .ok (.bl true) S := rfl
    have h3 : pN (scn k) 83 p = scn k p := rfl
    simp [byB, h1, h2, e2, hc p S hp, h3, fin_same oD_pu]
  · have h1 : eqD (sg 115) (.str "s") S = .ok (.bl true) S := rfl
    have h2 : inD (sg 115) (.str "Ss") S = .ok (.bl true) S := rfl
    by_cases hn : isNonD p = true
    · have h3 : pN (scn k) 115 p = some 0 := by simp [pN, hn]
      simp [byB, h1, h2, h3, hn]
    · have h3 : pN (scn k) 115 p = scn k p := by simp [pN, hn]
      simp [byB, h1, h2, e2, hc p S hp, h3, hn, fin_same oD_pu]
end Rk

namespace Rk
open PySem L2 TL

section
variable {S : Store} {ds : Env}
def pairsD (l : List (Nat × D)) : List D := l.map fun p => .tup [sg p.1, p.2]
theorem zip_pairs {x : Str} {ys : List D} : (((signs x).zip ys).map fun p => D.tup [p.1, p.2]) = pairsD (x.cps.toList.zip ys) := by
  unfold signs pairsD
  rw [List.zip_map_left, List.map_map]
  rfl
theorem zipK_lst {x : Str} {ys : List D} (h : ys.length = x.cps.toList.length) : zipK S [.str x, .lst ys] = .ok (pairsD (x.cps.toList.zip ys), gT) S := by
  rw [← zip_pairs]
  exact if_pos h
theorem zipK_tup {x : Str} {ys : List D} (h : ys.length = x.cps.toList.length) : zipK S [.str x, .tup ys] = .ok (pairsD (x.cps.toList.zip ys), gT) S := by
  rw [← zip_pairs]
  exact if_pos h
def izK : List D → Store → R (List D × (Store → Prop)) := fun xs S1 => zipK S1 xs
@[simp] theorem e_iZip {g : EvA} : iZip g ds S = (g ds S).bind izK := rfl
@[simp] theorem k_iz {xs : List D} : izK xs S = zipK S xs := rfl
@[simp] theorem e_tg2 {i j : Nat} {x y : D} : tgTup 2 (tgsCons (tgN i) (tgsCons (tgN j) tgsNil)) (.tup [x, y]) ds = some ((ds.set i (some x)).set j (some y)) := rfl
theorem asgK_some {t : EvG} {x : D} {ds' : Env} (h : t x ds = some ds') : asgK t ds x S = .nx ds' S := by
  unfold asgK
  rw [h]
theorem asg_star {i j : Nat} {x : D} {xs : List D} (h : xs.length ≤ 16000) : asgK (tgStar i j) ds (.tup (x :: xs)) S = .nx ((ds.set i (some x)).set j (some (.lst xs))) S := asgK_some (if_pos h)
theorem asg_tg2 {i j : Nat} {x y : D} : asgK (tgTup 2 (tgsCons (tgN i) (tgsCons (tgN j) tgsNil))) ds (.tup [x, y]) S = .nx ((ds.set i (some x)).set j (some y)) S := rfl
def augK2 (i : Nat) (ds : Env) : D → Store → RS := fun z S2 => .nx (ds.set i (some z)) S2
def augK (i : Nat) (op : D → D → Store → R D) (ds : Env) (x : D) : D → Store → RS := fun y S1 => (op x y S1).go (augK2 i ds)
theorem e_aug {i : Nat} {op : D → D → Store → R D} {fe : EvE} {x : D} (h : ds[i]? = some (some x)) : sAug i op fe ds S = (fe ds S).go (augK i op ds x) := by
  unfold sAug
  rw [h]
  rfl
@[simp] theorem k_aug {i : Nat} {op : D → D → Store → R D} {x y : D} : augK i op ds x y S = (op x y S).go (augK2 i ds) := rfl
@[simp] theorem k_aug2 {i : Nat} {x : D} : augK2 i ds x S = .nx (ds.set i (some x)) S := rfl
@[simp] theorem iaddD_int {i j : Int} : iaddD (.int i) (.int j) S = .ok (.int (i + j)) S := rfl
@[simp] theorem ix0 {x : D} {xs : List D} : ixD (.tup (x :: xs)) (.int 0) S = .ok x S := ix_tup (by simp [atI, ixN])
end
def headT (i : Nat) (fo : EvE) : EvT := (fTOr (fTNot (fTru (fCall isiC (fCons (fVar i) (fCons (fC (.ty "tuple")) fNil))))) (fTOr (fB (fBin eqD (fVar i) (fTup fNil))) (fTOr (fTNot (fTru (fCall isiC (fCons (fBin ixD (fVar i) (fC (.int 0))) (fCons (fC (.ty "str")) fNil))))) (fB (fBin notInD (fBin ixD (fVar i) (fC (.int 0))) fo)))))
noncomputable def deedB (FO : D) (by_ : EvC) : EvS :=
  (sSeq (sIf (headT 0 (fC FO)) (sRet (fC .non)) sNil)
    (sSeq (sAsg (fVar 0) (tgStar 2 3))
    (sSeq (sIf (fB (fBin neD (fCall lenC (fCons (fVar 3) fNil)) (fCall lenC (fCons (fBin ixD (fC FO) (fVar 2)) fNil)))) (sRet (fC .non)) sNil)
    (sSeq (sSet 4 (fC (.int 1)))
    (sSeq (sFor (iZip (fCons (fBin ixD (fC FO) (fVar 2)) (fCons (fVar 3) fNil))) (tgTup 2 (tgsCons (tgN 5) (tgsCons (tgN 6) tgsNil))) (sSeq (sSet 7 (fCall by_ (fCons (fVar 5) (fCons (fVar 6) (fCons (fVar 1) fNil)))))
    (sSeq (sIf (fB (fBin isD (fVar 7) (fC .non))) (sRet (fC .non)) sNil)
    (sAug 4 iaddD (fVar 7)))))
    (sRet (fVar 4)))))))
/-- the head of a deed -/
theorem deed_head {d : D} (hd : Tg d) {S : Store} {FO : D} {fo : EvE} {ds : Env} {i : Nat} (hF : ∀ z, notInD (.str z) FO S = .ok (.bl (formOf z).isNone) S) (hfo : fo ds S = .ok FO S) (hi : ds[i]? = some (some d)) :
    (∃ w f ps, d = .tup (.str w :: ps) ∧ formOf w = some f ∧ okForm f = true ∧ (∀ p ∈ ps, Tg p) ∧ ps.length ≤ 1000 ∧ f.length ≤ 4 ∧ headT i fo ds S = .ok false S)
    ∨ ((∀ w ps, d = .tup (.str w :: ps) → formOf w = none) ∧ headT i fo ds S = .ok true S) := by
  have ho := hd.ok1
  by_cases ht : isTupT d = true
  · obtain ⟨xs, rfl⟩ := tup_of ht
    have hl := hd.len
    cases xs with
    | nil => exact .inr ⟨fun w ps q => (by simp at q), by simp [headT, hi, isi_tuple ho, isTupT]⟩
    | cons x ps =>
      have hx := (hd.part (x := x) List.mem_cons_self).ok1
      by_cases hs : isStrT x = true
      · obtain ⟨w, rfl⟩ : ∃ w, x = .str w := by cases x <;> first | exact ⟨_, rfl⟩ | cases hs
        cases hf : formOf w with
        | none => exact .inr ⟨fun w' ps' q => (by simp at q; rw [← q.1]; exact hf), by simp [headT, hi, isi_tuple ho, isi_str hx, isTupT, isStrT, hfo, hF, hf]⟩
        | some f =>
          have hk := form_ok hf
          have := okForm.len hk
          exact .inl ⟨w, f, ps, rfl, hf, hk, fun p hp => hd.part (List.mem_cons_of_mem _ hp), by rw [List.length_cons] at hl; omega, by rw [show f.length = f.cps.toList.length from by simp [Str.length]]; omega, by simp [headT, hi, isi_tuple ho, isi_str hx, isTupT, isStrT, hfo, hF, hf]⟩
      · have hs' : isStrT x = false := by simpa using hs
        exact .inr ⟨fun w ps q => (by simp at q; rw [q.1] at hs'; cases hs'), by simp [headT, hi, isi_tuple ho, isi_str hx, isTupT, hs']⟩
  · have ht' : isTupT d = false := by simpa using ht
    exact .inr ⟨fun w ps q => (by rw [q] at ht'; cases ht'), by simp [headT, hi, isi_tuple ho, ht']⟩
theorem dN_none {me : D → Option Nat} {d : D} (h : ∀ w ps, d = .tup (.str w :: ps) → formOf w = none) : dN me d = none := by
  unfold dN
  split
  · rename_i w ps
    rw [h w ps rfl]
  · rfl
theorem flen {f : Str} : f.length = f.cps.toList.length := by simp [Str.length]
theorem deed_step {FO : D} (hF : ∀ z S, notInD (.str z) FO S = .ok (.bl (formOf z).isNone) S) (hX : ∀ z f S, formOf z = some f → ixD FO (.str z) S = .ok (.str f) S) {by_ : EvC} {k : Nat} (hb : ByOK k by_) {d : D} {S : Store} (hd : Tg d) {keep : Bool} :
    W (finR keep S (deedB FO by_ [some d, some (.int (k + 1 : Nat)), none, none, none, none, none, none] S)) (fun x S' => x = oD (dN (scn k) d) ∧ S' = S) := by
  rcases deed_head (ds := [some d, some (.int (k + 1 : Nat)), none, none, none, none, none, none]) (i := 0) (fo := fC FO) hd (fun z => hF z S) rfl rfl with ⟨w, f, ps, rfl, hf, hk, hp, hl, hfl, e⟩ | ⟨e1, e⟩
  · simp only [deedB, e_seq, e_sif, e, go_then, R.go_ok]
    have hfc := flen (f := f)
    by_cases hn : ps.length = f.cps.toList.length
    · have hn' : (ps.length : Int) = (f.length : Int) := by omega
      have ed : dN (scn k) (.tup (.str w :: ps)) = psN (scn k) (f.cps.toList.zip ps) 1 := by simp only [dN, hf, if_pos hn]
      simp [asg_star (show ps.length ≤ 16000 by omega), hX _ _ _ hf, lenC_str (show f.length ≤ 16777216 by omega), hn', zipK_lst hn, ed]
      refine forL_inv (fun xs ds S' => S' = S ∧ ∃ l n a b c, xs = pairsD l ∧ ds = [some (.tup (.str w :: ps)), some (.int ((k + 1 : Nat) : Int)), some (.str w), some (.lst ps), some (.int (n : Nat)), a, b, c] ∧ psN (scn k) l n = psN (scn k) (f.cps.toList.zip ps) 1 ∧ ∀ p ∈ l, p.1 ∈ kinds ∧ Tg p.2) _ ⟨rfl, _, 1, none, none, none, rfl, rfl, rfl, fun p h => ⟨okForm.mem hk (List.of_mem_zip h).1, hp _ (List.of_mem_zip h).2⟩⟩ (fun x xs ds S' h => ?_) (fun ds S' h => ?_)
      · obtain ⟨rfl, l, n, a, b, c, hxs, rfl, hps, hal⟩ := h
        cases l with
        | nil => cases hxs
        | cons q l =>
          obtain ⟨q1, q2⟩ := q
          have h1 : x = .tup [sg q1, q2] := by cases hxs; rfl
          have h2 : xs = pairsD l := by cases hxs; rfl
          subst h1 h2
          obtain ⟨hq1, hq2⟩ := hal (q1, q2) List.mem_cons_self
          refine ⟨trivial, _, rfl, ?_⟩
          have hby := hb q1 q2 S' hq1 hq2
          simp [-Int.natCast_add] at hby ⊢
          rw [hby]
          simp only [psN] at hps
          cases hpn : pN (scn k) q1 q2 with
          | none =>
            rw [hpn] at hps
            simp only at hps
            simp [hpn, ← hps]
          | some m =>
            rw [hpn] at hps
            simp only at hps
            simp [-Int.natCast_add, e_aug (show ([some (D.tup (D.str w :: ps)), some (D.int ((k + 1 : Nat) : Int)), some (D.str w), some (D.lst ps), some (D.int (n : Int)), some (sg q1), some q2, some (D.int (m : Int))] : Env)[4]? = some (some (D.int (n : Int))) from rfl)]
            exact ⟨l, rfl, n + m, rfl, hps, fun a b h => hal (a, b) (List.mem_cons_of_mem _ h)⟩
      · obtain ⟨rfl, l, n, a, b, c, hxs, rfl, hps, hal⟩ := h
        cases l with
        | cons q l => cases hxs
        | nil =>
          refine ⟨trivial, ?_⟩
          simp [← hps, psN]
    · have hn' : ¬ (ps.length : Int) = (f.length : Int) := by omega
      have ed : dN (scn k) (.tup (.str w :: ps)) = none := by simp only [dN, hf, if_neg hn]
      simp [asg_star (show ps.length ≤ 16000 by omega), hX _ _ _ hf, lenC_str (show f.length ≤ 16777216 by omega), hn', ed]
  · simp only [deedB, e_seq, e_sif, e, go_then, R.go_ok, dN_none e1]
    simp
noncomputable def countB (di : EvC) : EvS :=
  (sSeq (sIf (fTOr (fB (fBin eqD (fVar 1) (fC (.int 0)))) (fTNot (fTru (fCall isiC (fCons (fVar 0) (fCons (fC (.ty "tuple")) fNil)))))) (sRet (fC .non)) sNil)
    (sSeq (sSet 2 (fC (.int 0)))
    (sSeq (sFor (iVal (fVar 0)) (tgN 3) (sSeq (sSet 4 (fCall di (fCons (fVar 3) (fCons (fVar 1) fNil))))
    (sSeq (sIf (fTOr (fB (fBin isD (fVar 4) (fC .non))) (fB (fBin gtD (fBin addD (fVar 2) (fVar 4)) (fC (.int 200))))) (sRet (fC .non)) sNil)
    (sAug 2 iaddD (fVar 4)))))
    (sRet (fVar 2)))))
theorem count_zero {di : EvC} {d : D} {S : Store} {keep : Bool} : W (finR keep S (countB di [some d, some (.int (0 : Nat)), none, none, none] S)) (fun x S' => x = oD (scn 0 d) ∧ S' = S) := by
  simp [countB, scn]
theorem count_step {di : EvC} {k : Nat} (hdi : DeedOK k di) {d : D} {S : Store} (hd : Tg d) {keep : Bool} :
    W (finR keep S (countB di [some d, some (.int (k + 1 : Nat)), none, none, none] S)) (fun x S' => x = oD (scn (k + 1) d) ∧ S' = S) := by
  have ho := hd.ok1
  have e0 : ¬ ((k : Int) + 1 = 0) := by omega
  by_cases ht : isTupT d = true
  · obtain ⟨xs, rfl⟩ := tup_of ht
    have ed : scn (k + 1) (.tup xs) = dsN (scn k) xs 0 := rfl
    simp [countB, isi_tuple ho, isTupT, e0, ed]
    refine forL_inv (fun ys ds S' => S' = S ∧ ∃ n a b, ds = [some (.tup xs), some (.int ((k + 1 : Nat) : Int)), some (.int (n : Nat)), a, b] ∧ dsN (scn k) ys n = dsN (scn k) xs 0 ∧ ∀ p ∈ ys, Tg p) _ ⟨rfl, 0, none, none, by simp, rfl, fun p h => hd.part h⟩ (fun x ys ds S' h => ?_) (fun ds S' h => ?_)
    · obtain ⟨rfl, n, a, b, rfl, hds, hal⟩ := h
      refine ⟨trivial, _, rfl, ?_⟩
      have := hdi x S' (hal x List.mem_cons_self)
      simp [-Int.natCast_add] at this ⊢
      rw [this]
      simp only [dsN] at hds
      cases hdn : dN (scn k) x with
      | none =>
        rw [hdn] at hds
        simp only at hds
        simp [hdn, ← hds]
      | some m =>
        rw [hdn] at hds
        simp only at hds
        by_cases h2 : 200 < n + m
        · rw [if_pos h2] at hds
          have h3 : (200 : Int) < (n : Int) + (m : Int) := by omega
          simp [h3, ← hds]
        · rw [if_neg h2] at hds
          have h3 : ¬ (200 : Int) < (n : Int) + (m : Int) := by omega
          simp [-Int.natCast_add, h3, e_aug (show ([some (D.tup xs), some (D.int ((k + 1 : Nat) : Int)), some (D.int (n : Int)), some x, some (D.int (m : Int))] : Env)[2]? = some (some (D.int (n : Int))) from rfl)]
          exact ⟨n + m, rfl, hds, fun p h => hal p (List.mem_cons_of_mem _ h)⟩
    · obtain ⟨rfl, n, a, b, rfl, hds, hal⟩ := h
      refine ⟨trivial, ?_⟩
      simp [← hds, dsN]
  · have ht' : isTupT d = false := by simpa using ht
    have ed : scn (k + 1) d = none := by simp [scn, ht']
    simp [countB, isi_tuple ho, ht', e0, ed]
/-- count_of, with fuel that grows by three a level -/
theorem count_ok {tab : Nat → FD} {gc gi gb gw gn gv gr gk ge gl : Nat} {FO : D} {bc bi bb : (Nat → EvC) → EvS} (hc : tab gc = ⟨false, 5, 2, bc⟩) (hi : tab gi = ⟨false, 8, 2, bi⟩) (hb : tab gb = ⟨false, 4, 3, bb⟩)
    (ec : ∀ c, bc c = countB (c gi)) (ei : ∀ c, bi c = deedB FO (c gb)) (eb : ∀ c, bb c = byB c gw gn gv gr gk ge gl gc)
    (hF : ∀ z S, notInD (.str z) FO S = .ok (.bl (formOf z).isNone) S) (hX : ∀ z f S, formOf z = some f → ixD FO (.str z) S = .ok (.str f) S) {n : Nat} (hl : ∀ j, Looks (evC tab (j + n)) gw gn gv gr gk ge gl) :
    ∀ (k j : Nat), CountOK k (evC tab (j + n + 3 * k + 1) gc) := by
  intro k
  induction k with
  | zero =>
    intro j d S hd
    rw [ev_call hc rfl, ec]
    exact R_of count_zero
  | succ k ih =>
    intro j d S hd
    have h1 : ByOK k (evC tab (j + n + 3 * k + 2) gb) := fun c p S hk hp => by
      rw [show j + n + 3 * k + 2 = (j + n + 3 * k + 1) + 1 from rfl, ev_call hb rfl, eb]
      refine R_of (by_step ?_ (ih j) hk hp)
      rw [show j + n + 3 * k + 1 = (j + 3 * k + 1) + n from by omega]
      exact hl _
    have h2 : DeedOK k (evC tab (j + n + 3 * k + 3) gi) := fun d S hd => by
      rw [show j + n + 3 * k + 3 = (j + n + 3 * k + 2) + 1 from rfl, ev_call hi rfl, ei]
      exact R_of (deed_step hF hX h1 hd)
    rw [show j + n + 3 * (k + 1) + 1 = (j + n + 3 * k + 3) + 1 from by omega, ev_call hc rfl, ec]
    exact R_of (count_step h2 hd)
end Rk

namespace Rk
open PySem L2 TL

/-! ### a law's own table of forms -/
def toKV (l : List (Str × Str)) : List (Key × D) := l.map fun p => (.inr p.1, .str p.2)
def toFs (l : List (Str × Str)) : List (EvE × EvE) := l.map fun p => (fC (.str p.1), fC (.str p.2))
def putS (kvs : List (Str × Str)) (k v : Str) : List (Str × Str) :=
  if (kvs.any fun kv => decide (kv.1 = k)) = true then kvs.map (fun kv => if kv.1 = k then (kv.1, v) else kv) else kvs ++ [(k, v)]
def mergeS (kvs more : List (Str × Str)) : List (Str × Str) := more.foldl (fun acc kv => putS acc kv.1 kv.2) kvs
theorem putD_S {kvs : List (Str × Str)} {k v : Str} : putD (toKV kvs) (.inr k) (.str v) = toKV (putS kvs k v) := by
  unfold putD putS
  have e : ((toKV kvs).any fun kv => decide (kv.1 = (.inr k : Key))) = (kvs.any fun kv => decide (kv.1 = k)) := by
    unfold toKV
    rw [List.any_map]
    congr 1
    funext kv
    simp
  rw [e]
  split
  · unfold toKV
    rw [List.map_map, List.map_map]
    apply List.map_congr_left
    intro kv _
    by_cases h : kv.1 = k
    · simp [h]
    · simp [h]
  · simp [toKV]
theorem mergeD_S : ∀ {more kvs : List (Str × Str)}, mergeD (toKV kvs) (toKV more) = toKV (mergeS kvs more)
  | [], kvs => rfl
  | p :: ps, kvs => by
    have : mergeD (toKV kvs) (toKV (p :: ps)) = mergeD (putD (toKV kvs) (.inr p.1) (.str p.2)) (toKV ps) := rfl
    rw [this, putD_S, mergeD_S]
    rfl
theorem pairs_S : ∀ {l : List (Str × Str)} {ds : Env} {S : Store}, fPairs (toFs l) ds S = .ok (toKV l) S
  | [], _, _ => rfl
  | p :: ps, ds, S => by
    have ih := pairs_S (l := ps) (ds := ds) (S := S)
    show fPairs ((fC (.str p.1), fC (.str p.2)) :: toFs ps) ds S = _
    simp [ih]
    rfl
theorem disp_S {l : List (Str × Str)} {ds : Env} {S : Store} (h : l.length ≤ 15) : fDisp (toFs l) ds S = .ok (.ref S.length) (S ++ [.dct (toKV (mergeS [] l))]) := by
  rw [e_disp, pairs_S, R.bind_ok, dispK_same (by simpa [toKV] using h)]
  rw [show ([] : List (Key × D)) = toKV [] from rfl, mergeD_S]
theorem updM_ok {n m : Nat} {ks ms : List (Key × D)} {S : Store} (h : n ≠ m) (h1 : S[n]? = some (.dct ks)) (h2 : S[m]? = some (.dct ms)) (hl : ks.length + ms.length ≤ 16777216) : updM (.ref n) [.ref m] S = .ok .non (S.set n (.dct (mergeD ks ms))) := by
  unfold updM
  simp only [if_neg h, h1, h2]
  exact if_pos hl
theorem upd_S {S R : Store} {ks l : List (Str × Str)} {ds : Env} (hd : ds[0]? = some (some (.ref S.length))) (h : l.length ≤ 15) (hl : ks.length + (mergeS [] l).length ≤ 16777216) :
    sExpr (fBM "dict" updM (fVar 0) (fCons (fDisp (toFs l)) fNil)) ds (S ++ .dct (toKV ks) :: R) = .nx ds (S ++ .dct (toKV (mergeS ks (mergeS [] l))) :: (R ++ [.dct (toKV (mergeS [] l))])) := by
  have e1 : (S ++ C.dct (toKV ks) :: R)[S.length]? = some (.dct (toKV ks)) := by simp
  have ty : tyM (S ++ C.dct (toKV ks) :: R) (.ref S.length) = "dict" := by
    unfold tyM
    simp only [e1]
  have e2 : ((S ++ C.dct (toKV ks) :: R) ++ [C.dct (toKV (mergeS [] l))]) = S ++ C.dct (toKV ks) :: (R ++ [C.dct (toKV (mergeS [] l))]) := by simp
  have e3 : (S ++ C.dct (toKV ks) :: (R ++ [C.dct (toKV (mergeS [] l))]))[S.length]? = some (.dct (toKV ks)) := by simp
  have e4 : (S ++ C.dct (toKV ks) :: (R ++ [C.dct (toKV (mergeS [] l))]))[(S ++ C.dct (toKV ks) :: R).length]? = some (.dct (toKV (mergeS [] l))) := by
    rw [← e2, List.getElem?_append_right (Nat.le_refl _)]
    simp
  rw [e_expr, e_bm, e_var, hd]
  simp only [Rk.R.bind_ok, k_bm, ty, if_true, e_cons, disp_S h, k_cons, e_nil, k_consR, e2]
  rw [updM_ok (by simp) e3 e4 (by simpa [toKV] using hl), mergeD_S]
  simp
def fm0 : List (Str × Str) := [("say", "w"), ("echo", ""), ("spend", "k"), ("post", "rwS"), ("micro", "S"), ("after", "krwS"), ("every", "erwS")]
def fm1 : List (Str × Str) := [("idle", "iwS"), ("stop", "w"), ("rerank", "wr"), ("make", "w"), ("keep", "wv"), ("pass", "w"), ("break", "ww")]
def fm2 : List (Str × Str) := [("follow", "ww"), ("then", "wwss"), ("all", "wn"), ("any", "wn"), ("first", "wn"), ("each", "wn"), ("give", "v")]
def fm3 : List (Str × Str) := [("fail", "w"), ("guard", "SsS"), ("if", "wSS"), ("wait", "w"), ("run", "w"), ("story", "wS"), ("cancel", "w")]
def fm4 : List (Str × Str) := [("yield", "r"), ("call", "w")]
noncomputable def formsB : EvS :=
  (sSeq (sSet 0 (fDisp (toFs fm0)))
    (sSeq (sExpr (fBM "dict" updM (fVar 0) (fCons (fDisp (toFs fm1)) fNil)))
    (sSeq (sExpr (fBM "dict" updM (fVar 0) (fCons (fDisp (toFs fm2)) fNil)))
    (sSeq (sExpr (fBM "dict" updM (fVar 0) (fCons (fDisp (toFs fm3)) fNil)))
    (sSeq (sExpr (fBM "dict" updM (fVar 0) (fCons (fDisp (toFs fm4)) fNil)))
    (sRet (fVar 0)))))))
def fmAll : List (Str × Str) := mergeS (mergeS (mergeS (mergeS (mergeS [] fm0) (mergeS [] fm1)) (mergeS [] fm2)) (mergeS [] fm3)) (mergeS [] fm4)
theorem fmAll_eq : fmAll = fm0 ++ fm1 ++ fm2 ++ fm3 ++ fm4 := by decide +kernel
theorem forms_kv : toKV fmAll = FORMS := by rw [fmAll_eq]; rfl
theorem Ks_kv {k : Nat} : ∀ {l : List (Str × Str)}, Ks.lw k (toKV l) = true
  | [] => rfl
  | p :: ps => by
    have ih := Ks_kv (k := k) (l := ps)
    show (D.lw k (.str p.2) && Ks.lw k (toKV ps)) = true
    rw [ih]
    rfl
theorem fin_newDapp {S T : Store} {xs : List (Key × D)} (hd : Ks.lw S.length xs = true) : fin false S (.ref S.length) (S ++ .dct xs :: T) = .ok (.dct xs) S := by
  unfold fin
  rw [if_pos cut_app, if_neg (by simp [D.lw])]
  simp [hd]
def FormsOK (f : EvC) : Prop := ∀ S : Store, f [] S = .ok (.dct FORMS) S
theorem forms_ok {tab : Nat → FD} {g k : Nat} {b : (Nat → EvC) → EvS} (h : tab g = ⟨false, 1, 0, b⟩) (hb : b (evC tab k) = formsB) : FormsOK (evC tab (k + 1) g) := by
  intro S
  rw [ev_call h rfl, hb, ← forms_kv]
  have l0 : (mergeS [] fm0).length ≤ 7 := by decide +kernel
  have l1 : (mergeS [] fm1).length ≤ 7 := by decide +kernel
  have l2 : (mergeS [] fm2).length ≤ 7 := by decide +kernel
  have l3 : (mergeS [] fm3).length ≤ 7 := by decide +kernel
  have l4 : (mergeS [] fm4).length ≤ 7 := by decide +kernel
  have a1 : (mergeS (mergeS [] fm0) (mergeS [] fm1)).length ≤ 14 := by decide +kernel
  have a2 : (mergeS (mergeS (mergeS [] fm0) (mergeS [] fm1)) (mergeS [] fm2)).length ≤ 21 := by decide +kernel
  have a3 : (mergeS (mergeS (mergeS (mergeS [] fm0) (mergeS [] fm1)) (mergeS [] fm2)) (mergeS [] fm3)).length ≤ 28 := by decide +kernel
  show finR false S (formsB [none] S) = _
  unfold formsB
  rw [e_seq, e_set, disp_S (by decide), R.go_ok, k_set, RS.then_nx]
  show finR false S (sSeq _ _ [some (.ref S.length)] (S ++ [.dct (toKV (mergeS [] fm0))])) = _
  rw [e_seq, upd_S rfl (by decide) (by omega), RS.then_nx, e_seq, upd_S rfl (by decide) (by omega), RS.then_nx, e_seq, upd_S rfl (by decide) (by omega), RS.then_nx, e_seq, upd_S rfl (by decide) (by omega), RS.then_nx, e_ret, e_var]
  exact fin_newDapp Ks_kv

/-! ### the law's own is_part -/
def PartOK (f : EvC) : Prop := ∀ (c : Nat) (p : D) (S : Store), c ∈ [119, 110, 118, 114, 107, 101, 105] → Tg p → f [sg c, p] S = .ok (.bl (lookB c p)) S
noncomputable def partB (nm : EvE) (wd wo fr : EvC) : EvS :=
  (sSeq (sIf (fB (fBin eqD (fVar 0) (fC (.str "w")))) (sRet (fCall wd (fCons (fVar 1) fNil))) sNil)
    (sSeq (sIf (fB (fBin eqD (fVar 0) (fC (.str "n")))) (sRet (fAnd (fCall isiC (fCons (fVar 1) (fCons (fC (.ty "tuple")) fNil))) (fAnd (fBin leD (fCall lenC (fCons (fVar 1) fNil)) (fC (.int 8))) nm))) sNil)
    (sSeq (sIf (fB (fBin eqD (fVar 0) (fC (.str "v")))) (sRet (fCall wo (fCons (fVar 1) (fCons (fC (.int 4)) fNil)))) sNil)
    (sSeq (sIf (fB (fBin eqD (fVar 0) (fC (.str "r")))) (sRet (fCall fr (fCons (fVar 1) (fCons (fC (.int 0)) (fCons (fC (.int 5)) fNil))))) sNil)
    (sRet (fOr (fAnd (fBin eqD (fVar 0) (fC (.str "i"))) (fBin isD (fVar 1) (fC .non))) (fCall fr (fCons (fVar 1) (fCons (fCall intC (fCons (fBin eqD (fVar 0) (fC (.str "e"))) fNil)) (fCons (fC (.int 1000)) fNil))))))))))
noncomputable def nmE (wd : EvC) : EvE := (fBin eqD (fComp (iVal (fVar 1)) [2] (tgN 2) (fTNot (fTru (fCall wd (fCons (fVar 2) fNil)))) (fVar 2)) (fLst fNil))
noncomputable def nmA (wd : EvC) : EvE := (fCall allC (fCons (fComp (iVal (fVar 1)) [2] (tgN 2) cYes (fCall wd (fCons (fVar 2) fNil))) fNil))
theorem part_step {nm : EvE} {wd wo fr : EvC} (hn : nm = nmE wd ∨ nm = nmA wd) (hw : IsWordOK wd) (hv : IsVOK 4 wo) (hf : FromOK fr) {c : Nat} {p : D} {S : Store} {keep : Bool} (hc : c ∈ [119, 110, 118, 114, 107, 101, 105]) (hp : Tg p) :
    W (finR keep S (partB nm wd wo fr [some (sg c), some p, none] S)) (fun x S' => x = .bl (lookB c p) ∧ S' = S) := by
  have ho := hp.ok1
  have s : ∀ (c : Nat) (z : Str), eqD (sg c) (.str z) S = .ok (.bl (decide ((⟨#[c]⟩ : Str) = z))) S := fun c z => rfl
  simp only [List.mem_cons, List.not_mem_nil, or_false] at hc
  rcases hc with rfl | rfl | rfl | rfl | rfl | rfl | rfl
  · simp [partB, show eqD (sg 119) (.str "w") S = .ok (.bl true) S from rfl, hw p S ho]; rfl
  · have ev : lookB 110 p = isNm p := rfl
    by_cases ht : isTupT p = true
    · obtain ⟨xs, rfl⟩ := tup_of ht
      by_cases hl : xs.length ≤ 8
      · have hl2 : (xs.length : Int) ≤ 8 := by omega
        have e : isNm (.tup xs) = xs.all isW := by simp [isNm, isTupT, parts, hl]
        rw [ev, e]
        simp [partB, show eqD (sg 110) (.str "w") S = .ok (.bl false) S from rfl, show eqD (sg 110) (.str "n") S = .ok (.bl true) S from rfl, isi_tuple ho, isTupT, hl2]
        rcases hn with rfl | rfl
        · simp [nmE]
          refine W_comp_pure (fun x => !isW x) (fun x => x) (by omega) (fun x hx => ⟨_, rfl, ?_, fun _ => ?_⟩) ?_
          · simp [hw x _ (hp.part hx).ok1]
          · simp
          · simp [-List.map_id_fun', isEmpty_filter, -List.isEmpty_map]
        · simp [nmA]
          refine W_comp_pure (fun _ => true) (fun x => .bl (isW x)) (by omega) (fun x hx => ⟨_, rfl, rfl, fun _ => ?_⟩) ?_
          · simp [hw x _ (hp.part hx).ok1]
          · rw [show (xs.filter fun _ => true) = xs from List.filter_eq_self.mpr fun _ _ => rfl]
            show W (allC [.lst (xs.map fun x => .bl (isW x))] S) _
            rw [allC_lst]
            simp
      · have hl2 : ¬ (xs.length : Int) ≤ 8 := by omega
        have e : isNm (.tup xs) = false := by simp [isNm, isTupT, parts, hl]
        rw [ev, e]
        simp [partB, show eqD (sg 110) (.str "w") S = .ok (.bl false) S from rfl, show eqD (sg 110) (.str "n") S = .ok (.bl true) S from rfl, isi_tuple ho, isTupT, hl2]
    · have ht' : isTupT p = false := by simpa using ht
      have e : isNm p = false := by simp [isNm, ht']
      rw [ev, e]
      simp [partB, show eqD (sg 110) (.str "w") S = .ok (.bl false) S from rfl, show eqD (sg 110) (.str "n") S = .ok (.bl true) S from rfl, isi_tuple ho, ht']
  · have := hv p S (hp.okT 4)
    rw [show ((4 : Nat) : Int) = 4 from rfl] at this
    simp [partB, show eqD (sg 118) (.str "w") S = .ok (.bl false) S from rfl, show eqD (sg 118) (.str "n") S = .ok (.bl false) S from rfl, show eqD (sg 118) (.str "v") S = .ok (.bl true) S from rfl, this]; rfl
  · simp [partB, show eqD (sg 114) (.str "w") S = .ok (.bl false) S from rfl, show eqD (sg 114) (.str "n") S = .ok (.bl false) S from rfl, show eqD (sg 114) (.str "v") S = .ok (.bl false) S from rfl, show eqD (sg 114) (.str "r") S = .ok (.bl true) S from rfl, hf _ _ _ _ ho]; rfl
  · simp [partB, show eqD (sg 107) (.str "w") S = .ok (.bl false) S from rfl, show eqD (sg 107) (.str "n") S = .ok (.bl false) S from rfl, show eqD (sg 107) (.str "v") S = .ok (.bl false) S from rfl, show eqD (sg 107) (.str "r") S = .ok (.bl false) S from rfl, show eqD (sg 107) (.str "i") S = .ok (.bl false) S from rfl, show eqD (sg 107) (.str "e") S = .ok (.bl false) S from rfl, hf _ _ _ _ ho]; rfl
  · simp [partB, show eqD (sg 101) (.str "w") S = .ok (.bl false) S from rfl, show eqD (sg 101) (.str "n") S = .ok (.bl false) S from rfl, show eqD (sg 101) (.str "v") S = .ok (.bl false) S from rfl, show eqD (sg 101) (.str "r") S = .ok (.bl false) S from rfl, show eqD (sg 101) (.str "i") S = .ok (.bl false) S from rfl, show eqD (sg 101) (.str "e") S = .ok (.bl true) S from rfl, hf _ _ _ _ ho]; rfl
  · have e : lookB 105 p = (isNonD p || isF 0 1000 p) := rfl
    rw [e]
    by_cases hq : isNonD p = true <;> simp [partB, show eqD (sg 105) (.str "w") S = .ok (.bl false) S from rfl, show eqD (sg 105) (.str "n") S = .ok (.bl false) S from rfl, show eqD (sg 105) (.str "v") S = .ok (.bl false) S from rfl, show eqD (sg 105) (.str "r") S = .ok (.bl false) S from rfl, show eqD (sg 105) (.str "i") S = .ok (.bl true) S from rfl, show eqD (sg 105) (.str "e") S = .ok (.bl false) S from rfl, hf _ _ _ _ ho, hq]
theorem part_ok {tab : Nat → FD} {g k : Nat} {b : (Nat → EvC) → EvS} {nm : EvE} {wd wo fr : EvC} (h : tab g = ⟨false, 3, 2, b⟩) (hb : b (evC tab k) = partB nm wd wo fr) (hn : nm = nmE wd ∨ nm = nmA wd) (hw : IsWordOK wd) (hv : IsVOK 4 wo) (hf : FromOK fr) : PartOK (evC tab (k + 1) g) := by
  intro c p S hc hp
  rw [ev_call h rfl, hb]
  exact R_of (part_step hn hw hv hf hc hp)
end Rk

namespace Rk
open PySem L2 TL

/-! ### a law's own count -/
def mpN (me : D → Nat) : List (Nat × D) → Nat → Option Nat
  | [], n => some n
  | (c, p) :: r, n => if (c = 83 ∨ c = 115) ∧ (c = 83 ∨ isNonD p = false) then mpN me r (n + me p) else if ¬ (c = 83 ∨ c = 115) ∧ lookB c p = false then none else mpN me r n
def mD (me : D → Nat) (n : Nat) : D → Option Nat
  | .tup (.str w :: ps) => match formOf w with
    | some f => if ps.length = f.cps.toList.length then mpN me (f.cps.toList.zip ps) (n + 1) else none
    | none => none
  | _ => none
def mdN (me : D → Nat) : List D → Nat → Option Nat
  | [], n => some n
  | d :: r, n => match mD me n d with
    | some m => mdN me r m
    | none => none
def mny : Nat → D → Nat
  | 0, _ => 1000
  | k + 1, d => if isTupT d = true then (mdN (mny k) (parts d) 0).getD 1000 else 1000
theorem mpN_le {me : D → Nat} : ∀ {l : List (Nat × D)} {n m : Nat}, mpN me l n = some m → n ≤ m
  | [], n, m, h => by cases h; exact Nat.le_refl _
  | (c, p) :: r, n, m, h => by
    unfold mpN at h
    split at h
    · have := mpN_le h; omega
    · split at h
      · cases h
      · exact mpN_le h
theorem mD_none {me : D → Nat} {d : D} {n : Nat} (h : ∀ w ps, d = .tup (.str w :: ps) → formOf w = none) : mD me n d = none := by
  unfold mD
  split
  · rename_i w ps
    rw [h w ps rfl]
  · rfl
theorem mD_le {me : D → Nat} {d : D} {n m : Nat} (h : mD me n d = some m) : n ≤ m := by
  unfold mD at h
  split at h
  · split at h
    · split at h
      · have := mpN_le h; omega
      · cases h
    · cases h
  · cases h
theorem mdN_le {me : D → Nat} : ∀ {l : List D} {n m : Nat}, mdN me l n = some m → n ≤ m
  | [], n, m, h => by cases h; exact Nat.le_refl _
  | d :: r, n, m, h => by
    unfold mdN at h
    split at h
    · rename_i q e
      have h1 := mD_le e
      have h2 := mdN_le h
      omega
    · cases h

/-! ### the two counts agree -/
def Ag (a : Option Nat) (b : Nat) : Prop := (∀ m, a = some m → b = m) ∧ (a = none → 200 < b)
def Ag' (a b : Option Nat) (n0 : Nat) : Prop := (∀ m, a = some m → b = some (n0 + m)) ∧ (a = none → ∀ m, b = some m → 200 < m)
theorem ps_ag {me : D → Option Nat} {me' : D → Nat} (h : ∀ p, Ag (me p) (me' p)) (n0 : Nat) : ∀ {l : List (Nat × D)} {n : Nat}, Ag' (psN me l n) (mpN me' l (n0 + n)) n0
  | [], n => ⟨fun m e => by cases e; rfl, fun e => by cases e⟩
  | (c, p) :: r, n => by
    unfold psN mpN pN
    have ih : ∀ k, Ag' (psN me r k) (mpN me' r (n0 + k)) n0 := fun k => ps_ag h n0
    by_cases h1 : c = 115 ∧ isNonD p = true
    · have h2 : ¬ ((c = 83 ∨ c = 115) ∧ (c = 83 ∨ isNonD p = false)) := by rw [h1.1, h1.2]; simp
      have h3 : ¬ (¬ (c = 83 ∨ c = 115) ∧ lookB c p = false) := by rw [h1.1]; simp
      rw [if_pos h1, if_neg h2, if_neg h3]
      exact ih n
    · rw [if_neg h1]
      by_cases h2 : c = 83 ∨ c = 115
      · have h3 : (c = 83 ∨ c = 115) ∧ (c = 83 ∨ isNonD p = false) := by
          refine ⟨h2, ?_⟩
          rcases h2 with h2 | h2
          · exact .inl h2
          · right
            cases hn : isNonD p with
            | false => rfl
            | true => exact absurd ⟨h2, hn⟩ h1
        rw [if_pos h2, if_pos h3]
        obtain ⟨a1, a2⟩ := h p
        cases hm : me p with
        | none =>
          have := a2 hm
          refine ⟨fun m e => by simp at e, fun _ m e => ?_⟩
          have := mpN_le e
          omega
        | some k =>
          have := a1 k hm
          simp only
          rw [this, Nat.add_assoc]
          exact ih _
      · have h3 : ¬ ((c = 83 ∨ c = 115) ∧ (c = 83 ∨ isNonD p = false)) := fun q => h2 q.1
        rw [if_neg h2, if_neg h3]
        cases hl : lookB c p with
        | true =>
          rw [if_pos rfl, if_neg (by simp)]
          exact ih n
        | false =>
          rw [if_neg (by simp), if_pos ⟨h2, rfl⟩]
          exact ⟨fun m e => by simp at e, fun _ m e => by simp at e⟩
theorem d_ag {me : D → Option Nat} {me' : D → Nat} (h : ∀ p, Ag (me p) (me' p)) (n0 : Nat) (d : D) : Ag' (dN me d) (mD me' n0 d) n0 := by
  have no : ∀ b : Option Nat, b = none → Ag' none b n0 := fun b e => ⟨fun m e => (by cases e), fun _ m e' => (by rw [e] at e'; cases e')⟩
  by_cases hd : ∃ w ps, d = .tup (.str w :: ps)
  · obtain ⟨w, ps, rfl⟩ := hd
    simp only [dN, mD]
    cases formOf w with
    | none => exact no _ rfl
    | some f =>
      by_cases hl : ps.length = f.cps.toList.length
      · simp only [if_pos hl]
        exact ps_ag h n0
      · simp only [if_neg hl]
        exact no _ rfl
  · rw [dN_none fun w ps q => absurd ⟨w, ps, q⟩ hd, mD_none fun w ps q => absurd ⟨w, ps, q⟩ hd]
    exact no _ rfl
theorem ds_ag {me : D → Option Nat} {me' : D → Nat} (h : ∀ p, Ag (me p) (me' p)) : ∀ {l : List D} {n : Nat}, Ag' (dsN me l n) (mdN me' l n) 0
  | [], n => ⟨fun m e => (by cases e; simp [mdN]), fun e => (by cases e)⟩
  | d :: r, n => by
    obtain ⟨a1, a2⟩ := d_ag h n d
    unfold dsN mdN
    cases hd : dN me d with
    | none =>
      refine ⟨fun m e => (by cases e), fun _ m e => ?_⟩
      split at e
      · rename_i q hq
        have := a2 hd q hq
        have := mdN_le e
        omega
      · cases e
    | some k =>
      rw [a1 k hd]
      simp only
      split
      · refine ⟨fun m e => (by cases e), fun _ m e => ?_⟩
        have := mdN_le e
        omega
      · exact ds_ag h
theorem count_ag : ∀ (k : Nat) (d : D), Ag (scn k d) (mny k d)
  | 0, d => ⟨fun m e => (by cases e), fun _ => (show 200 < 1000 by decide)⟩
  | k + 1, d => by
    unfold scn mny
    by_cases ht : isTupT d = true
    · rw [if_pos ht, if_pos ht]
      obtain ⟨a1, a2⟩ := ds_ag (count_ag k) (l := parts d) (n := 0)
      refine ⟨fun m e => ?_, fun e => ?_⟩
      · rw [a1 m e]
        simp
      · cases hm : mdN (mny k) (parts d) 0 with
        | none => decide
        | some m => exact a2 e m hm
    · rw [if_neg ht, if_neg ht]
      exact ⟨fun m e => (by cases e), fun _ => (by decide)⟩
theorem dsN_le {me : D → Option Nat} : ∀ {l : List D} {n m : Nat}, n ≤ 200 → dsN me l n = some m → m ≤ 200
  | [], n, m, h, e => by cases e; exact h
  | d :: r, n, m, h, e => by
    unfold dsN at e
    split at e
    · split at e
      · cases e
      · exact dsN_le (by omega) e
    · cases e
theorem scn_le {k : Nat} {d : D} {m : Nat} (h : scn k d = some m) : m ≤ 200 := by
  cases k with
  | zero => cases h
  | succ k =>
    unfold scn at h
    split at h
    · exact dsN_le (by omega) h
    · cases h
/-- the law's is_script -/
theorem script_iff (k : Nat) (d : D) : decide (mny k d ≤ 200) = (scn k d).isSome := by
  obtain ⟨a1, a2⟩ := count_ag k d
  cases h : scn k d with
  | none => have := a2 h; simp; omega
  | some m => have := a1 m h; have := scn_le h; simp; omega

/-! ### the walk -/
section
variable {S : Store}
theorem eq_S {c : Nat} : eqD (sg c) (.str "S") S = .ok (.bl (decide (c = 83))) S := by
  have e : (Str.ofString "S") = ⟨#[83]⟩ := by decide +kernel
  show R.ok (D.bl (decide ((⟨#[c]⟩ : Str) = Str.ofString "S"))) S = _
  rw [e]
  simp
theorem eq_s {c : Nat} : eqD (sg c) (.str "s") S = .ok (.bl (decide (c = 115))) S := by
  have e : (Str.ofString "s") = ⟨#[115]⟩ := by decide +kernel
  show R.ok (D.bl (decide ((⟨#[c]⟩ : Str) = Str.ofString "s"))) S = _
  rw [e]
  simp
theorem in_Ss {c : Nat} : inD (sg c) (.str "Ss") S = .ok (.bl (decide (c = 83 ∨ c = 115))) S := by
  have e : (Str.ofString "Ss") = ⟨#[83, 115]⟩ := by decide +kernel
  show R.ok (D.bl (decide (c ∈ (Str.ofString "Ss").cps.toList))) S = _
  rw [e]
  simp
theorem notIn_Ss {c : Nat} : notInD (sg c) (.str "Ss") S = .ok (.bl (!decide (c = 83 ∨ c = 115))) S := by
  have e : (Str.ofString "Ss") = ⟨#[83, 115]⟩ := by decide +kernel
  show R.ok (D.bl (!decide (c ∈ (Str.ofString "Ss").cps.toList))) S = _
  rw [e]
  simp
end
noncomputable def innerB (pt me : EvC) : EvS :=
  (sIf (fTAnd (fB (fBin inD (fVar 5) (fC (.str "Ss")))) (fTOr (fB (fBin eqD (fVar 5) (fC (.str "S")))) (fB (fBin isNotD (fVar 6) (fC .non))))) (sSet 2 (fBin addD (fVar 2) (fCall me (fCons (fVar 6) (fCons (fBin subD (fVar 1) (fC (.int 1))) fNil))))) (sIf (fTAnd (fB (fBin notInD (fVar 5) (fC (.str "Ss")))) (fTNot (fTru (fCall pt (fCons (fVar 5) (fCons (fVar 6) fNil)))))) (sRet (fC (.int 1000))) sNil))
noncomputable def manyB (fm pt me : EvC) : EvS :=
  (sSeq (sIf (fTOr (fB (fBin eqD (fVar 1) (fC (.int 0)))) (fTNot (fTru (fCall isiC (fCons (fVar 0) (fCons (fC (.ty "tuple")) fNil)))))) (sRet (fC (.int 1000))) sNil)
    (sSeq (sPar 2 3 (fCons (fC (.int 0)) (fCons (fCall fm fNil) fNil)))
    (sSeq (sFor (iVal (fVar 0)) (tgN 4) (sSeq (sIf (headT 4 (fVar 3)) (sRet (fC (.int 1000))) sNil)
    (sSeq (sIf (fB (fBin neD (fCall lenC (fCons (fVar 4) fNil)) (fBin addD (fC (.int 1)) (fCall lenC (fCons (fBin ixD (fVar 3) (fBin ixD (fVar 4) (fC (.int 0)))) fNil))))) (sRet (fC (.int 1000))) sNil)
    (sSeq (sSet 2 (fBin addD (fVar 2) (fC (.int 1))))
    (sFor (iZip (fCons (fBin ixD (fVar 3) (fBin ixD (fVar 4) (fC (.int 0)))) (fCons (fSl (fVar 4) (oSome (fC (.int 1))) oNone) fNil))) (tgTup 2 (tgsCons (tgN 5) (tgsCons (tgN 6) tgsNil))) (innerB pt me))))))
    (sRet (fVar 2)))))
def ManyOK (k : Nat) (f : EvC) : Prop := ∀ (d : D) (S : Store), Tg d → f [d, .int k] S = .ok (.int (mny k d : Nat)) S
theorem many_step {fm pt me : EvC} {k : Nat} (hf : FormsOK fm) (hp : PartOK pt) (hm : ManyOK k me) {d : D} {S : Store} (hd : Tg d) {keep : Bool} :
    W (finR keep S (manyB fm pt me [some d, some (.int (k + 1 : Nat)), none, none, none, none, none] S)) (fun x S' => x = .int (mny (k + 1) d : Nat) ∧ S' = S) := by
  have ho := hd.ok1
  have e0 : ¬ ((k : Int) + 1 = 0) := by omega
  by_cases ht : isTupT d = true
  · obtain ⟨xs, rfl⟩ := tup_of ht
    have ed : mny (k + 1) (.tup xs) = (mdN (mny k) xs 0).getD 1000 := rfl
    simp [manyB, isi_tuple ho, isTupT, e0, ed, hf S]
    refine forL_inv (fun ys ds S' => S' = S ∧ ∃ n a b c, ds = [some (.tup xs), some (.int ((k + 1 : Nat) : Int)), some (.int (n : Nat)), some (.dct FORMS), a, b, c] ∧ mdN (mny k) ys n = mdN (mny k) xs 0 ∧ ∀ p ∈ ys, Tg p) _ ⟨rfl, 0, none, none, none, by simp, rfl, fun p h => hd.part h⟩ (fun x ys ds S' h => ?_) (fun ds S' h => ?_)
    · obtain ⟨rfl, n, a, b, c, rfl, hds, hal⟩ := h
      refine ⟨trivial, _, rfl, ?_⟩
      have hx := hal x List.mem_cons_self
      have hal' : ∀ p ∈ ys, Tg p := fun p h => hal p (List.mem_cons_of_mem _ h)
      simp only [mdN] at hds
      rcases deed_head (ds := ([some (.tup xs), some (.int ((k + 1 : Nat) : Int)), some (.int (n : Nat)), some (.dct FORMS), some x, b, c] : Env)) (i := 4) (fo := fVar 3) (S := S') hx (fun z => notIn_dct) rfl rfl with ⟨w, f, ps, rfl, hfo, hk, hps, hl, hfl, e⟩ | ⟨e1, e⟩
      · simp [-Int.natCast_add] at e ⊢
        rw [e]
        have hfc := flen (f := f)
        simp [-Int.natCast_add, ix_dct hfo, lenC_str (show f.length ≤ 16777216 by omega)]
        by_cases hn : ps.length = f.cps.toList.length
        · have hn' : ((ps.length + 1 : Nat) : Int) = 1 + (f.length : Int) := by omega
          have em : mD (mny k) n (.tup (.str w :: ps)) = mpN (mny k) (f.cps.toList.zip ps) (n + 1) := by simp only [mD, hfo, if_pos hn]
          rw [em] at hds
          simp [-Int.natCast_add, hn', ix_dct hfo, cut_lo (show (0 : Int) ≤ 1 by decide), zipK_lst hn, zipK_tup hn]
          refine forL_inv (fun zs ds S'' => S'' = S' ∧ ∃ l n b c, zs = pairsD l ∧ ds = [some (.tup xs), some (.int ((k + 1 : Nat) : Int)), some (.int (n : Nat)), some (.dct FORMS), some (.tup (.str w :: ps)), b, c] ∧ (match mpN (mny k) l n with
            | some m => mdN (mny k) ys m
            | none => none) = mdN (mny k) xs 0 ∧ ∀ p ∈ l, p.1 ∈ kinds ∧ Tg p.2) _ ⟨rfl, _, n + 1, b, c, rfl, rfl, hds, fun p h => ⟨okForm.mem hk (List.of_mem_zip h).1, hps _ (List.of_mem_zip h).2⟩⟩ (fun z zs ds S'' h => ?_) (fun ds S'' h => ?_)
          · obtain ⟨rfl, l, n, b, c, hzs, rfl, hmp, hall⟩ := h
            cases l with
            | nil => cases hzs
            | cons q l =>
              obtain ⟨q1, q2⟩ := q
              have h1 : z = .tup [sg q1, q2] := by cases hzs; rfl
              have h2 : zs = pairsD l := by cases hzs; rfl
              subst h1 h2
              obtain ⟨hq1, hq2⟩ := hall (q1, q2) List.mem_cons_self
              have hall' : ∀ p ∈ l, p.1 ∈ kinds ∧ Tg p.2 := fun p h => hall p (List.mem_cons_of_mem _ h)
              refine ⟨trivial, _, rfl, ?_⟩
              simp only [mpN] at hmp
              have ek : ((k + 1 : Nat) : Int) - 1 = (k : Int) := by omega
              have hq3 : lookB q1 q2 = false → True := fun _ => trivial
              by_cases c1 : (q1 = 83 ∨ q1 = 115) ∧ (q1 = 83 ∨ isNonD q2 = false)
              · rw [if_pos c1] at hmp
                have g := hm q2 S'' hq2
                have t1 : (fTAnd (fB (fBin inD (fVar 5) (fC (.str "Ss")))) (fTOr (fB (fBin eqD (fVar 5) (fC (.str "S")))) (fB (fBin isNotD (fVar 6) (fC .non))))) [some (.tup xs), some (.int ((k + 1 : Nat) : Int)), some (.int (n : Nat)), some (.dct FORMS), some (.tup (.str w :: ps)), some (sg q1), some q2] S'' = .ok true S'' := by
                  simp [in_Ss, eq_S, c1.1]
                  by_cases h83 : q1 = 83
                  · simp [h83]
                  · have : isNonD q2 = false := c1.2.resolve_left h83
                    simp [h83, this]
                unfold innerB
                simp only [e_sif]
                rw [show (([some (D.tup xs), some (D.int ((k + 1 : Nat) : Int)), some (D.int (n : Nat)), some (D.dct FORMS), some (D.tup (D.str w :: ps)), b, c] : Env).set 5 (some (sg q1))).set 6 (some q2) = [some (.tup xs), some (.int ((k + 1 : Nat) : Int)), some (.int (n : Nat)), some (.dct FORMS), some (.tup (.str w :: ps)), some (sg q1), some q2] from rfl, t1]
                simp [-Int.natCast_add, ek, g]
                exact ⟨l, rfl, n + mny k q2, rfl, hmp, fun a b h => hall' (a, b) h⟩
              · rw [if_neg c1] at hmp
                have t1 : (fTAnd (fB (fBin inD (fVar 5) (fC (.str "Ss")))) (fTOr (fB (fBin eqD (fVar 5) (fC (.str "S")))) (fB (fBin isNotD (fVar 6) (fC .non))))) [some (.tup xs), some (.int ((k + 1 : Nat) : Int)), some (.int (n : Nat)), some (.dct FORMS), some (.tup (.str w :: ps)), some (sg q1), some q2] S'' = .ok false S'' := by
                  simp [in_Ss, eq_S]
                  by_cases h1 : q1 = 83 ∨ q1 = 115
                  · have h83 : ¬ q1 = 83 := fun h => c1 ⟨h1, .inl h⟩
                    have hn : isNonD q2 = true := by
                      cases h : isNonD q2 with
                      | true => rfl
                      | false => exact absurd ⟨h1, .inr h⟩ c1
                    simp [h1, h83, hn]
                  · simp [h1]
                unfold innerB
                simp only [e_sif]
                rw [show (([some (D.tup xs), some (D.int ((k + 1 : Nat) : Int)), some (D.int (n : Nat)), some (D.dct FORMS), some (D.tup (D.str w :: ps)), b, c] : Env).set 5 (some (sg q1))).set 6 (some q2) = [some (.tup xs), some (.int ((k + 1 : Nat) : Int)), some (.int (n : Nat)), some (.dct FORMS), some (.tup (.str w :: ps)), some (sg q1), some q2] from rfl, t1]
                by_cases c2 : q1 = 83 ∨ q1 = 115
                · rw [if_neg (fun h => h.1 c2)] at hmp
                  simp [-Int.natCast_add, notIn_Ss, c2]
                  exact ⟨l, rfl, n, rfl, hmp, fun a b h => hall' (a, b) h⟩
                · have hk7 : q1 ∈ [119, 110, 118, 114, 107, 101, 105] := by
                    have := hq1
                    simp [kinds] at this ⊢
                    omega
                  have g := hp q1 q2 S'' hk7 hq2
                  cases hlk : lookB q1 q2 with
                  | true =>
                    rw [if_neg (by rw [hlk]; simp)] at hmp
                    simp [-Int.natCast_add, notIn_Ss, c2, g, hlk]
                    exact ⟨l, rfl, n, rfl, hmp, fun a b h => hall' (a, b) h⟩
                  | false =>
                    rw [if_pos ⟨c2, hlk⟩] at hmp
                    simp only at hmp
                    simp [-Int.natCast_add, notIn_Ss, c2, g, hlk, ← hmp]
          · obtain ⟨rfl, l, n, b, c, hzs, rfl, hmp, hall⟩ := h
            cases l with
            | cons q l => cases hzs
            | nil => exact ⟨trivial, rfl, n, ⟨_, _, _, rfl⟩, hmp, hal'⟩
        · have hn' : ¬ ((ps.length + 1 : Nat) : Int) = 1 + (f.length : Int) := by omega
          have em : mD (mny k) n (.tup (.str w :: ps)) = none := by simp only [mD, hfo, if_neg hn]
          rw [em] at hds
          simp only at hds
          simp [-Int.natCast_add, hn', ← hds]
      · rw [mD_none e1] at hds
        simp only at hds
        simp [-Int.natCast_add] at e ⊢
        rw [e]
        simp [← hds]
    · obtain ⟨rfl, n, a, b, c, rfl, hds, hal⟩ := h
      refine ⟨trivial, ?_⟩
      simp [← hds, mdN]
  · have ht' : isTupT d = false := by simpa using ht
    have ed : mny (k + 1) d = 1000 := by simp [mny, ht']
    simp [manyB, isi_tuple ho, ht', e0, ed]
theorem many_zero {fm pt me : EvC} {d : D} {S : Store} {keep : Bool} : W (finR keep S (manyB fm pt me [some d, some (.int (0 : Nat)), none, none, none, none, none] S)) (fun x S' => x = .int (mny 0 d : Nat) ∧ S' = S) := by
  simp [manyB, mny]
theorem many_ok {tab : Nat → FD} {g gf gp : Nat} {b : (Nat → EvC) → EvS} (h : tab g = ⟨false, 7, 2, b⟩) (hb : ∀ c, b c = manyB (c gf) (c gp) (c g)) {n : Nat} (hf : ∀ j, FormsOK (evC tab (j + n) gf)) (hp : ∀ j, PartOK (evC tab (j + n) gp)) :
    ∀ (k j : Nat), ManyOK k (evC tab (j + k + n + 1) g) := by
  intro k
  induction k with
  | zero =>
    intro j d S hd
    rw [ev_call h rfl, hb]
    exact R_of many_zero
  | succ k ih =>
    intro j d S hd
    rw [show j + (k + 1) + n + 1 = (j + k + n + 1) + 1 from by omega, ev_call h rfl, hb]
    refine R_of (many_step ?_ ?_ (ih j) hd)
    · rw [show j + k + n + 1 = (j + k + 1) + n from by omega]; exact hf _
    · rw [show j + k + n + 1 = (j + k + 1) + n from by omega]; exact hp _
end Rk

namespace Rk
open PySem L2 TL

/-! ### two cells: the pen and the plan -/
def planC (l : Int) : C := .dct [(.inr "left", .int l)]
theorem lw_plan {k : Nat} {l : Int} : (planC l).lw k = true := rfl
section
variable {S : Store} {q : Nat} {l : Int} (h : S[q]? = some (planC l))
include h
theorem ix_plan : ixD (.ref q) (.str "left") S = .ok (.int l) S := by
  simp [ixD, ixK, asDict, h, planC, valD]
theorem set_plan {ds : Env} {v : Int} : subK ds (.ref q) (.str "left") (.int v) S = .nx ds (S.set q (planC v)) := by
  apply subK_some
  simp [setD, h, planC, keyD, putD]
end
/-- what a call that draws by a plan does -/
def Dr2 (S : Store) (p q m L : Nat) (G : D → Nat → Prop) : D → Store → Prop := fun d S' => ∃ (c : C) (L' : Nat), S' = (S.set p c).set q (planC L') ∧ PnC c m ∧ L' ≤ L ∧ G d L'
theorem set22 {S : Store} {p q : Nat} (h : p ≠ q) {c c' x x' : C} : (((S.set p c).set q x).set p c').set q x' = (S.set p c').set q x' := by
  rw [List.set_comm _ _ (Ne.symm h), List.set_set, List.set_set]
theorem set21 {S : Store} {p q : Nat} (h : p ≠ q) {c c' x : C} : ((S.set p c).set q x).set p c' = (S.set p c').set q x := by
  rw [List.set_comm _ _ (Ne.symm h), List.set_set]
theorem W_dr2 {r : R D} {S : Store} {p q m L : Nat} {G : D → Nat → Prop} {Q : D → Store → Prop} (h : W r (Dr2 S p q m L G)) (w : ∀ d c L', PnC c m → L' ≤ L → G d L' → Q d ((S.set p c).set q (planC L'))) : W r Q := h.mono fun d S' ⟨c, L', e, hc, hl, g⟩ => by
  subst e
  exact w d c L' hc hl g
theorem cut_set2app {S T : Store} {p q : Nat} {c x : C} (hc : c.lw S.length = true) (hx : x.lw S.length = true) : Cut S ((S.set p c).set q x ++ T) := by
  refine ⟨by simp, fun n hn => ?_⟩
  rw [List.getElem?_append_left (by simpa using hn)]
  by_cases h : q = n
  · subst h
    right
    intro c' e
    rw [List.getElem?_set_self (by simpa using hn)] at e
    cases e
    exact hx
  · rw [List.getElem?_set_ne h]
    exact (cut_set hc).2 n hn
theorem fin_set2app {keep : Bool} {S T : Store} {d : D} {p q : Nat} {c x : C} (hd : d.lw S.length = true) (hc : c.lw S.length = true) (hx : x.lw S.length = true) : fin keep S d ((S.set p c).set q x ++ T) = .ok d ((S.set p c).set q x) := by
  rw [fin_cut (cut_set2app hc hx) hd]
  congr 1
  rw [List.take_left' (by simp)]
theorem fin_set2 {keep : Bool} {S : Store} {d : D} {p q : Nat} {c x : C} (hd : d.lw S.length = true) (hc : c.lw S.length = true) (hx : x.lw S.length = true) : fin keep S d ((S.set p c).set q x) = .ok d ((S.set p c).set q x) := by
  have := fin_set2app (T := []) (keep := keep) (p := p) (q := q) hd hc hx
  rwa [List.append_nil] at this
theorem compL_inv {t : EvG} {el : EvE} {ds : Env} (I : List D → List D → Store → Prop) (h : ∀ x xs ys S, I (x :: xs) ys S → ∃ ds1, t x ds = some ds1 ∧ W (el ds1 S) fun d S' => I xs (ys ++ [d]) S') : ∀ {xs ys : List D} {S : Store}, I xs ys S → ∃ zs S', compL gT t cYes el xs ds S = .ok zs S' ∧ I [] (ys ++ zs) S'
  | [], ys, S, hI => ⟨[], S, by unfold compL; exact if_pos trivial, by rw [List.append_nil]; exact hI⟩
  | x :: xs, ys, S, hI => by
    obtain ⟨ds1, e1, e2⟩ := h x xs ys S hI
    obtain ⟨d, S1, e3, hI1⟩ := W_ex e2
    obtain ⟨zs, S2, e4, hI2⟩ := compL_inv I h hI1
    refine ⟨d :: zs, S2, ?_, by rw [List.append_assoc] at hI2; exact hI2⟩
    unfold compL
    rw [if_pos trivial, e1]
    simp [e3, e4]
theorem W_comp_inv {own : List Nat} {t : EvG} {el : EvE} {ds : Env} {S : Store} {xs : List D} {Q : D → Store → Prop} (I : List D → List D → Store → Prop) (hl : xs.length ≤ 16777216) (h0 : I xs [] S)
    (h : ∀ x xs ys S, I (x :: xs) ys S → ∃ ds1, t x (wipeD ds own) = some ds1 ∧ W (el ds1 S) fun d S' => I xs (ys ++ [d]) S') (w : ∀ zs S', I [] zs S' → Q (.lst zs) S') : W (compK own t cYes el ds (xs, gT) S) Q := by
  obtain ⟨zs, S', e, hI⟩ := compL_inv I h h0
  rw [compK_ok hl e]
  exact w zs S' hI
theorem psN_snoc {me : D → Option Nat} {c : Nat} {p : D} {b : Nat} (hp : pN me c p = some b) : ∀ {l : List (Nat × D)} {n a : Nat}, psN me l n = some a → psN me (l ++ [(c, p)]) n = some (a + b)
  | [], n, a, h => by
    cases h
    simp [psN, hp]
  | (c', p') :: r, n, a, h => by
    simp only [psN, List.cons_append] at h ⊢
    split at h
    · exact psN_snoc hp h
    · cases h
theorem dsN_snoc {me : D → Option Nat} {d : D} {b : Nat} (hd : dN me d = some b) : ∀ {l : List D} {n a : Nat}, dsN me l n = some a → a + b ≤ 200 → dsN me (l ++ [d]) n = some (a + b)
  | [], n, a, h, hl => by
    cases h
    simp only [List.nil_append, dsN, hd]
    rw [if_neg (by omega)]
  | d' :: r, n, a, h, hl => by
    simp only [dsN, List.cons_append] at h ⊢
    split at h
    · split at h
      · cases h
      · rename_i h2
        simp only [if_neg h2]
        exact dsN_snoc hd h hl
    · cases h

/-! ### a part is drawn -/
noncomputable def pdrB (dr wd wo sc : EvC) : EvS :=
  (sSeq (sSet 4 (fBin ixD (fLst (fCons (fC (.int 0)) (fCons (fC (.int 1)) (fCons (fCall dr (fCons (fVar 0) (fCons (fC (.int 1001)) fNil))) (fCons (fC (.int 1000)) fNil))))) (fCall dr (fCons (fVar 0) (fCons (fC (.int 4)) fNil)))))
    (sSeq (sIf (fB (fBin eqD (fVar 1) (fC (.str "i")))) (sRet (fBin ixD (fLst (fCons (fC .non) (fCons (fVar 4) fNil))) (fCall dr (fCons (fVar 0) (fCons (fC (.int 2)) fNil))))) sNil)
    (sSeq (sIf (fB (fBin inD (fVar 1) (fC (.str "ke")))) (sRet (fCall maxC (fCons (fVar 4) (fCons (fCall intC (fCons (fBin eqD (fVar 1) (fC (.str "e"))) fNil)) fNil)))) sNil)
    (sSeq (sIf (fB (fBin inD (fVar 1) (fC (.str "wr")))) (sRet (fIf (fB (fBin eqD (fVar 1) (fC (.str "w")))) (fCall wd (fCons (fVar 0) fNil)) (fCall dr (fCons (fVar 0) (fCons (fC (.int 6)) fNil))))) sNil)
    (sSeq (sIf (fB (fBin inD (fVar 1) (fC (.str "vn")))) (sRet (fIf (fB (fBin eqD (fVar 1) (fC (.str "v")))) (fCall wo (fCons (fVar 0) (fCons (fC (.int 2)) fNil))) (fCall tupleC (fCons (fComp (iRange1 (fCall dr (fCons (fVar 0) (fCons (fC (.int 9)) fNil)))) [5] (tgN 5) cYes (fCall wd (fCons (fVar 0) fNil))) fNil)))) sNil)
    (sSeq (sIf (fTAnd (fB (fBin eqD (fVar 1) (fC (.str "s")))) (fTOr (fB (fBin ltD (fVar 3) (fC (.int 2)))) (fB (fBin eqD (fCall dr (fCons (fVar 0) (fCons (fC (.int 3)) fNil))) (fC (.int 0)))))) (sRet (fC .non)) sNil)
    (sRet (fCall sc (fCons (fVar 0) (fCons (fVar 2) (fCons (fBin subD (fVar 3) (fC (.int 1))) fNil)))))))))))
def PtN : Nat → Nat
  | 0 => 6100
  | k + 1 => 6100 + (7 + 24 * PtN k)
def ScN (k : Nat) : Nat := 7 + 24 * PtN k
theorem PtN_succ {k : Nat} : PtN (k + 1) = 6100 + ScN k := rfl
/-- so is a script, a part that was drawn -/
def ScG (k L : Nat) (d : D) (L' : Nat) : Prop := (∀ left, k + 1 ≤ left → scn left d = some (L - L') ∧ (scW left d).length ≤ 61 * (L - L')) ∧ Th 20 (2 * k + 4) d = true ∧ wt d ≤ 2 + 80 * (L - L')
def PtG (k c L : Nat) (d : D) (L' : Nat) : Prop := (∀ left, k ≤ left → pN (scn left) c d = some (L - L') ∧ (pW (scW left) c d).length ≤ 61 * (L - L') + tct c) ∧ Th 20 (2 * k + 2) d = true ∧ wt d ≤ wct c + 80 * (L - L')
/-- a script is drawn, with so much within -/
def ScD (k : Nat) (f : EvC) : Prop := ∀ (S : Store) (p q m L : Nat), Pn S p (m + ScN k) → S[q]? = some (planC L) → p ≠ q → L ≤ 200 →
  W (f [.ref p, .ref q, .int (k + 1 : Nat)] S) (Dr2 S p q m L (ScG k L))
def PtD (k : Nat) (f : EvC) : Prop := ∀ (S : Store) (p q m L c : Nat), Pn S p (m + PtN k) → S[q]? = some (planC L) → p ≠ q → L ≤ 200 → c ∈ kinds → (c = 83 → 1 ≤ k) →
  W (f [.ref p, sg c, .ref q, .int (k + 1 : Nat)] S) (Dr2 S p q m L (PtG k c L))
theorem Dr2.of1 {S : Store} {p q m L : Nat} {G : D → Nat → Prop} {d : D} {c : C} (hq : S[q]? = some (planC L)) (hpq : p ≠ q) (hc : PnC c m) (g : G d L) : Dr2 S p q m L G d (S.set p c) :=
  ⟨c, L, (set_same (by rw [List.getElem?_set_ne hpq]; exact hq)).symm, hc, Nat.le_refl _, g⟩
theorem pN_look {me : D → Option Nat} {c : Nat} {d : D} (h : lookB c d = true) (hc : c ≠ 83) (hc2 : c ≠ 115) : pN me c d = some 0 := by
  unfold pN
  rw [if_neg (fun q => hc2 q.1), if_neg (by omega), if_pos h]
theorem part_dr {dr wd wo sc : EvC} (hd : DrawOK dr) (hw : WordOK wd) (ho : WorthOK 2 wo) {k : Nat} (hs : ∀ j, k = j + 1 → ScD j sc) {S : Store} {p q m L c : Nat} (hP : Pn S p (m + PtN k)) (hq : S[q]? = some (planC L)) (hpq : p ≠ q) (hL : L ≤ 200) (hc : c ∈ kinds) (hc1 : c = 83 → 1 ≤ k) :
    WS (pdrB dr wd wo sc [some (.ref p), some (sg c), some (.ref q), some (.int (k + 1 : Nat)), none, none] S) (fiP false S (Dr2 S p q m L (PtG k c L))) := by
  have hp := hP.lt
  have hPb : 6100 ≤ PtN k := by
    cases k with
    | zero => exact Nat.le_refl _
    | succ k => rw [PtN_succ]; omega
  have fin : ∀ {d : D} {S' : Store} {c' : C}, S' = S.set p c' → Th 20 (2 * k + 2) d = true → lookB c d = true → c ≠ 83 → c ≠ 115 → (c = 119 ∨ c = 110 ∨ c = 118 → (txs d).length ≤ tct c) → wt d ≤ wct c → PnC c' m → W (fin false S d S') (Dr2 S p q m L (PtG k c L)) := fun e h hl h1 h2 ht hw hc' => by
    subst e
    rw [fin_set ((Th.pu h).lw _) (hc'.lw _)]
    rw [W_ok]
    refine Dr2.of1 hq hpq hc' ⟨fun left _ => ⟨by rw [pN_look hl h1 h2, Nat.sub_self], ?_⟩, h, Nat.le_trans hw (Nat.le_add_right _ _)⟩
    unfold pW
    split
    · rename_i h3
      exact Nat.le_trans (ht h3) (Nat.le_add_left _ _)
    · rw [if_neg (fun z => by rcases z.1 with z | z <;> omega)]
      exact Nat.zero_le _
  simp [pdrB]
  refine W_draw hd (m := m + (PtN k - 1)) (hP.le (by omega)) (by omega) (by omega) fun r0 c0 a1 a2 hc0 => ?_
  simp
  refine W_draw hd (m := m + (PtN k - 2)) ((hc0.pn hp).le (by omega)) (by omega) (by omega) fun r1 c1 a3 a4 hc1' => ?_
  refine W_ixL a3 (by simpa using a4) fun d1 hd1 => ?_
  have hn : ∃ n : Int, d1 = .int n ∧ 0 ≤ n ∧ n ≤ 1000 := by
    simp only [List.mem_cons, List.not_mem_nil, or_false] at hd1
    rcases hd1 with rfl | rfl | rfl | rfl <;> exact ⟨_, rfl, by omega, by omega⟩
  obtain ⟨n, rfl, n1, n2⟩ := hn
  have two : ∀ (z : Str) (S : Store), (eqD (sg c) (.str z) S = .ok (.bl (decide ((⟨#[c]⟩ : Str) = z))) S) := fun _ _ => rfl
  simp only [kinds, List.mem_cons, List.not_mem_nil, or_false] at hc
  simp
  have e_i : ∀ {S : Store}, eqD (sg c) (.str "i") S = .ok (.bl (decide (c = 105))) S := fun {S} => by
    have e : (Str.ofString "i") = ⟨#[105]⟩ := by decide +kernel
    rw [two, e]; simp
  have e_e : ∀ {S : Store}, eqD (sg c) (.str "e") S = .ok (.bl (decide (c = 101))) S := fun {S} => by
    have e : (Str.ofString "e") = ⟨#[101]⟩ := by decide +kernel
    rw [two, e]; simp
  have e_w : ∀ {S : Store}, eqD (sg c) (.str "w") S = .ok (.bl (decide (c = 119))) S := fun {S} => by
    have e : (Str.ofString "w") = ⟨#[119]⟩ := by decide +kernel
    rw [two, e]; simp
  have e_v : ∀ {S : Store}, eqD (sg c) (.str "v") S = .ok (.bl (decide (c = 118))) S := fun {S} => by
    have e : (Str.ofString "v") = ⟨#[118]⟩ := by decide +kernel
    rw [two, e]; simp
  have i_ke : ∀ {S : Store}, inD (sg c) (.str "ke") S = .ok (.bl (decide (c = 107 ∨ c = 101))) S := fun {S} => by
    have e : (Str.ofString "ke") = ⟨#[107, 101]⟩ := by decide +kernel
    show R.ok (D.bl (decide (c ∈ (Str.ofString "ke").cps.toList))) S = _
    rw [e]; simp
  have i_wr : ∀ {S : Store}, inD (sg c) (.str "wr") S = .ok (.bl (decide (c = 119 ∨ c = 114))) S := fun {S} => by
    have e : (Str.ofString "wr") = ⟨#[119, 114]⟩ := by decide +kernel
    show R.ok (D.bl (decide (c ∈ (Str.ofString "wr").cps.toList))) S = _
    rw [e]; simp
  have i_vn : ∀ {S : Store}, inD (sg c) (.str "vn") S = .ok (.bl (decide (c = 118 ∨ c = 110))) S := fun {S} => by
    have e : (Str.ofString "vn") = ⟨#[118, 110]⟩ := by decide +kernel
    show R.ok (D.bl (decide (c ∈ (Str.ofString "vn").cps.toList))) S = _
    rw [e]; simp
  have thi : ∀ i : Int, Th 20 (2 * k + 2) (.int i) = true := fun i => th_at rfl
  -- a script is asked
  have ask : ∀ (j : Nat) (c2 : C), k = j + 1 → PnC c2 (m + ScN j) → (c = 83 ∨ c = 115) → W (sc [.ref p, .ref q, .int (k : Nat)] (S.set p c2)) (fun d S' => W (Rk.fin false S d S') (Dr2 S p q m L (PtG k c L))) := fun j c2 hk h2 hcc => by
    subst hk
    refine W_dr2 (hs j rfl _ p q m L (h2.pn hp) (by rw [List.getElem?_set_ne hpq]; exact hq) hpq hL) fun d c3 L' hc3 hl hG => ?_
    have e : ((S.set p c2).set p c3).set q (planC L') = (S.set p c3).set q (planC L') := by rw [List.set_set]
    rw [e, fin_set2 ((Th.pu hG.2.1).lw _) (hc3.lw _) lw_plan]
    refine ⟨c3, L', rfl, hc3, hl, fun left hle => ?_, hG.2.1, ?_⟩
    rotate_left
    · have : wct c = 2 := by rcases hcc with rfl | rfl <;> rfl
      rw [this]
      exact hG.2.2
    have e2 := (hG.1 left hle).1
    have e3 := (hG.1 left hle).2
    have nn : isNonD d = false := by
      have := (hG.1 (j + 1) (Nat.le_refl _)).1
      unfold scn at this
      split at this
      · rename_i ht
        obtain ⟨xs, rfl⟩ := tup_of ht
        rfl
      · cases this
    constructor
    · unfold pN
      rw [if_neg (fun h => by rw [nn] at h; cases h.2), if_pos hcc]
      exact e2
    · unfold pW
      rw [if_neg (by omega), if_pos ⟨hcc, nn⟩]
      exact Nat.le_trans e3 (Nat.le_add_right _ _)
  rcases hc with rfl | rfl | rfl | rfl | rfl | rfl | rfl | rfl | rfl
  · simp [e_i, i_ke, i_wr, e_w]
    refine W_dr (hw _ p (m + (PtN k - 13)) ((hc1'.pn hp).le (by omega))) fun d c2 hc2 hd2 => ?_
    simp
    exact fin (by simp) (hd2.th _ _) hd2.isW (by omega) (by omega) (fun _ => by obtain ⟨z, rfl, _⟩ := hd2; exact Nat.le_refl _) (by obtain ⟨z, rfl, _⟩ := hd2; exact Nat.le_refl _) (hc2.le (by omega))
  · simp [e_i, i_ke, i_wr, i_vn, e_v]
    refine W_draw hd (m := m + 8 * 11) ((hc1'.pn hp).le (by omega)) (by omega) (by omega) fun r2 c2 a5 a6 hc2 => ?_
    simp
    refine W_range1 (by omega) (by omega) ?_
    have hle : r2.toNat * 11 ≤ 8 * 11 := Nat.mul_le_mul_right _ (by omega)
    refine W_comp_draw (p := p) (w := 11) (m := m) (G := isWd) (by rw [range_len]; omega) ((hc2.pn hp).le (by rw [range_len]; omega)) (fun x _ => ⟨_, rfl, fun c' m' hc' => ?_⟩) fun ys c3 hc3 hl hG => ?_
    · simp
      refine (hw _ p m' (hc'.pn hp)).mono fun d S' hD => ?_
      simp only [dr_set] at hD ⊢
      exact hD
    · rw [range_len] at hl
      simp
      refine fin (c' := c3) rfl (Th.mono (n := 8) (k := 1) (by omega) (by omega) (th_tup.mpr ⟨by omega, fun x hx => (hG x hx).th _ _⟩)) ?_ (by omega) (by omega) (fun _ => ?_) ?_ hc3
      rotate_left
      · refine Nat.le_trans (txsL_le (n := 1) (xs := ys) fun x hx => ?_) (by rw [hl]; show _ ≤ 8; omega)
        obtain ⟨z, rfl, _⟩ := hG x hx
        exact Nat.le_refl _
      · have h1 : wts ys ≤ ys.length * 1 := wts_le fun x hx => by
          obtain ⟨z, rfl, _⟩ := hG x hx
          exact Nat.le_refl _
        show 2 + wts ys ≤ 10
        rw [hl] at h1
        omega
      show isNm (.tup ys) = true
      simp [isNm, isTupT, parts]
      exact ⟨decide_eq_true (by omega), fun x hx => (hG x hx).isW⟩
  · simp [e_i, i_ke, i_wr, i_vn, e_v]
    have hwo := ho (S.set p c1) p (m + (PtN k - 2 - Wn 2)) (by rw [show Wn 2 = 5894 from rfl]; exact (hc1'.pn hp).le (by omega))
    rw [show ((2 : Nat) : Int) = 2 from rfl] at hwo
    refine W_dr (by simpa using hwo) fun d c2 hc2 hd2 => ?_
    simp
    obtain ⟨hd2, hd3⟩ := hd2
    have hv : isV 4 d = true := by
      have up : ∀ {j : Nat} {d : D}, isV j d = true → isV (j + 1) d = true := by
        intro j
        induction j with
        | zero => intro d h; exact isV_atom h
        | succ j ih =>
          intro d h
          simp only [isV, Bool.or_eq_true, Bool.and_eq_true, List.all_eq_true] at h ⊢
          rcases h with h | ⟨h, h2⟩
          · exact .inl h
          · exact .inr ⟨h, fun x hx => by
              have := ih (h2 x hx)
              simpa only [isV, Bool.or_eq_true, Bool.and_eq_true, List.all_eq_true] using this⟩
      exact up (up hd2)
    refine fin (c' := c2) (by simp) (Th.mono (by omega) (by omega) (isV.th hd2)) hv (by omega) (by omega) (fun _ => hd3.1) hd3.2 (hc2.le (by omega))
  · simp [e_i, i_ke, i_wr, e_w]
    refine W_draw hd (m := m) ((hc1'.pn hp).le (by omega)) (by omega) (by omega) fun r2 c2 a5 a6 hc2 => ?_
    simp
    refine fin (c' := c2) (by simp) (thi _) ?_ (by omega) (by omega) (by omega) (Nat.le_refl 1) hc2
    show isF 0 5 (.int r2) = true
    simp [isF]
    omega
  · simp [e_i, i_ke, e_e]
    show W (Rk.fin false S (.int (if (0 : Int) > n then 0 else n)) ((S.set p c1))) _
    refine fin (c' := c1) rfl (thi _) ?_ (by omega) (by omega) (by omega) (Nat.le_refl 1) (hc1'.le (by omega))
    show isF 0 1000 (.int _) = true
    simp [isF]
    split <;> omega
  · simp [e_i, i_ke, e_e]
    show W (Rk.fin false S (.int (if (1 : Int) > n then 1 else n)) ((S.set p c1))) _
    refine fin (c' := c1) rfl (thi _) ?_ (by omega) (by omega) (by omega) (Nat.le_refl 1) (hc1'.le (by omega))
    show isF 1 1000 (.int _) = true
    simp [isF]
    split <;> omega
  · simp [e_i]
    refine W_draw hd (m := m) ((hc1'.pn hp).le (by omega)) (by omega) (by omega) fun r2 c2 a5 a6 hc2 => ?_
    refine W_ixL a5 (by simpa using a6) fun d hm => ?_
    simp only [List.mem_cons, List.not_mem_nil, or_false] at hm
    rcases hm with rfl | rfl
    · exact fin (c' := c2) (by simp) (th_at rfl) rfl (by omega) (by omega) (by omega) (Nat.le_refl 1) hc2
    · refine fin (c' := c2) (by simp) (thi _) ?_ (by omega) (by omega) (by omega) (Nat.le_refl 1) hc2
      show (isNonD (.int n) || isF 0 1000 (.int n)) = true
      simp [isF]
      omega
  · obtain ⟨j, rfl⟩ : ∃ j, k = j + 1 := ⟨k - 1, by have := hc1 rfl; omega⟩
    have ek : ((j + 1 + 1 : Nat) : Int) - 1 = ((j + 1 : Nat) : Int) := by omega
    simp [-Int.natCast_add, e_i, i_ke, i_wr, i_vn, eq_s, ek]
    exact ask j c1 rfl (hc1'.le (by rw [PtN_succ] at *; omega)) (.inl rfl)
  · have nn : ∀ {S' : Store} {c' : C}, S' = S.set p c' → PnC c' m → W (Rk.fin false S .non S') (Dr2 S p q m L (PtG k 115 L)) := fun {S' c'} e h => by
      subst e
      rw [fin_set rfl (h.lw _)]
      rw [W_ok]
      exact Dr2.of1 hq hpq h ⟨fun left _ => ⟨by simp [pN], by simp [pW]⟩, th_at rfl, by show 1 ≤ 2 + _; omega⟩
    cases k with
    | zero =>
      simp [e_i, i_ke, i_wr, i_vn, eq_s]
      simpa using nn rfl (hc1'.le (Nat.le_add_right _ _))
    | succ j =>
      have ek : ((j + 1 + 1 : Nat) : Int) - 1 = ((j + 1 : Nat) : Int) := by omega
      have h2 : ¬ (((j + 1 : Nat) : Int) + 1 < 2) := by omega
      have ek2 : ((j + 1 : Nat) : Int) + 1 - 1 = ((j + 1 : Nat) : Int) := by omega
      have h9 : m + ScN j + 1 ≤ m + (PtN (j + 1) - 2) := by rw [PtN_succ]; omega
      simp [-Int.natCast_add, e_i, i_ke, i_wr, i_vn, eq_s, h2]
      refine W_draw hd (m := m + ScN j) ((hc1'.pn hp).le h9) (by omega) (by omega) fun r2 c2 a5 a6 hc2 => ?_
      by_cases h0 : r2 = 0
      · simp [-Int.natCast_add, h0]
        exact nn rfl (hc2.le (by omega))
      · simp [-Int.natCast_add, h0, ek2]
        exact ask j c2 rfl hc2 (.inr rfl)
end Rk

namespace Rk
open PySem L2 TL

/-! ### a script is drawn -/
noncomputable def sdrB (fm dr pk pt : EvC) : EvS :=
  (sSeq (sAsg (fTup (fCons (fNew fNil) (fCons (fCall fm fNil) fNil))) (tgTup 2 (tgsCons (tgN 3) (tgsCons (tgN 4) tgsNil))))
    (sSeq (sSet 5 (fComp (iVal (fVar 4)) [6] (tgN 6) (fTOr (fB (fBin gtD (fVar 2) (fC (.int 1)))) (fB (fBin notInD (fC (.str "S")) (fBin ixD (fVar 4) (fVar 6))))) (fVar 6)))
    (sSeq (sFor (iRange1 (fCall dr (fCons (fVar 0) (fCons (fC (.int 7)) fNil)))) (tgN 7) (sIf (fB (fBin gtD (fBin ixD (fVar 1) (fC (.str "left"))) (fC (.int 0)))) (sSeq (sSub (fBin subD (fBin ixD (fVar 1) (fC (.str "left"))) (fC (.int 1))) (fVar 1) (fC (.str "left")))
    (sSeq (sSet 6 (fCall pk (fCons (fVar 0) (fCons (fVar 5) fNil))))
    (sExpr (fBM "list" appM (fVar 3) (fCons (fCall tupleC (fCons (fBin addD (fLst (fCons (fVar 6) fNil)) (fComp (iVal (fBin ixD (fVar 4) (fVar 6))) [8] (tgN 8) cYes (fCall pt (fCons (fVar 0) (fCons (fVar 8) (fCons (fVar 1) (fCons (fVar 2) fNil))))))) fNil)) fNil))))) sNil))
    (sRet (fCall tupleC (fCons (fVar 3) fNil))))))
def hasS : D → Bool
  | .str z => match formOf z with
    | some f => decide (83 ∈ f.cps.toList)
    | none => true
  | _ => true
def keysF : List D := FORMS.map fun kv => kD kv.1
def wordsF (b : Bool) : List D := keysF.filter fun x => b || !hasS x
theorem key_form {x : D} (h : x ∈ keysF) : ∃ z f, x = .str z ∧ formOf z = some f := by
  unfold keysF at h
  obtain ⟨kv, hm, rfl⟩ := List.mem_map.mp h
  have := List.all_eq_true.mp forms_good kv hm
  obtain ⟨key, v⟩ := kv
  cases key with
  | inl i => simp [goodKV] at this
  | inr z =>
    refine ⟨z, ?_⟩
    unfold goodKV at this
    split at this
    · rename_i x f e
      injection e with e1 e2
      injection e1 with e1
      subst e1
      simp only [Bool.and_eq_true] at this
      obtain ⟨_, h2⟩ := this
      split at h2
      · rename_i g hg
        refine ⟨g, rfl, ?_⟩
        unfold formOf
        rw [hg]
      · cases h2
    · cases this
theorem say_key : (D.str "say") ∈ keysF := List.mem_cons_self
theorem say_noS : hasS (.str "say") = false := by decide +kernel
theorem words_ne (b : Bool) : wordsF b ≠ [] := by
  have : (D.str "say") ∈ wordsF b := List.mem_filter.mpr ⟨say_key, by rw [say_noS]; cases b <;> rfl⟩
  intro h
  rw [h] at this
  cases this
theorem words_len (b : Bool) : (wordsF b).length ≤ 30 := Nat.le_trans (List.length_filter_le _ _) (by decide)
theorem words_form {b : Bool} {x : D} (h : x ∈ wordsF b) : ∃ z f, x = .str z ∧ formOf z = some f ∧ okForm f = true ∧ (b = false → 83 ∉ f.cps.toList) := by
  obtain ⟨h1, h2⟩ := List.mem_filter.mp h
  obtain ⟨z, f, rfl, hf⟩ := key_form h1
  refine ⟨z, f, rfl, hf, form_ok hf, fun hb => ?_⟩
  subst hb
  simpa [hasS, hf] using h2
theorem signs_sg {x : Str} : signs x = x.cps.toList.map sg := rfl
theorem th_str {n k : Nat} {z f : Str} (h : formOf z = some f) : Th n k (.str z) = true := by
  have hz : ∀ p ∈ FORMS, (match p.1 with
    | .inr x => decide (x.length ≤ 100)
    | _ => true) = true := by decide +kernel
  have : valD FORMS (.inr z) = some (.str f) := by
    rcases form_cases z with ⟨_, h2⟩ | ⟨g, h1, h2, _⟩
    · rw [h2] at h; cases h
    · rw [h2] at h; cases h; exact h1
  have := hz _ (valD_mem this)
  exact th_at this
theorem script_dr {fm dr pk pt : EvC} (hf : FormsOK fm) (hd : DrawOK dr) (hk : PickOK pk) {k : Nat} (hpt : PtD k pt) {S : Store} {p q m L : Nat} (hP : Pn S p (m + ScN k)) (hq : S[q]? = some (planC L)) (hpq : p ≠ q) (hL : L ≤ 200) :
    WS (sdrB fm dr pk pt [some (.ref p), some (.ref q), some (.int (k + 1 : Nat)), none, none, none, none, none, none] S) (fiP false S (Dr2 S p q m L (ScG k L))) := by
  have hp := hP.lt
  have hql : q < S.length := (List.getElem?_eq_some_iff.mp hq).1
  have hTh : ∀ (n : Nat) (ds : Env), asgK (tgTup 2 (tgsCons (tgN 3) (tgsCons (tgN 4) tgsNil))) ds (.tup [.ref n, .dct FORMS]) (S ++ [.lst []]) = .nx ((ds.set 3 (some (.ref n))).set 4 (some (.dct FORMS))) (S ++ [.lst []]) := fun n ds => asg_tg2
  have hkl : keysF.length ≤ 16777216 := by decide
  simp [-Int.natCast_add, sdrB, hf (S ++ [C.lst []]), hTh]
  refine W_comp_pure (fun x => decide ((1 : Int) < ((k + 1 : Nat) : Int)) || !hasS x) (fun x => x) hkl (fun x hx => ?_) ?_
  · obtain ⟨z, f, rfl, hz⟩ := key_form hx
    have hin : notInD (.str "S") (.str f) (S ++ [C.lst []]) = .ok (.bl (!hasS (.str z))) (S ++ [C.lst []]) := by
      have e : (Str.ofString "S") = ⟨#[83]⟩ := by decide +kernel
      rw [e]
      simp only [hasS, hz]
      rfl
    refine ⟨_, rfl, ?_, fun _ => ?_⟩
    · simp [-Int.natCast_add]
      by_cases h1 : (1 : Int) < ((k + 1 : Nat) : Int)
      · simp [-Int.natCast_add, h1]
      · simp [-Int.natCast_add, h1, ix_dct hz, hin]
    · simp [-Int.natCast_add]
  · rw [show (FORMS.map fun kv => kD kv.1) = keysF from rfl, show (keysF.filter fun x => decide ((1 : Int) < ((k + 1 : Nat) : Int)) || !hasS x) = wordsF (decide ((1 : Int) < ((k + 1 : Nat) : Int))) from rfl, List.map_id']
    generalize hb : decide ((1 : Int) < ((k + 1 : Nat) : Int)) = b
    have hkb : b = true → 1 ≤ k := fun h => by subst h; simp at hb; omega
    have hkb2 : b = false → k = 0 := fun h => by subst h; simp at hb; omega
    simp [-Int.natCast_add]
    refine W_draw hd (m := m + 6 * (1 + 4 * PtN k)) (hP.app.le (by unfold ScN; omega)) (by omega) (by omega) fun r0 c0 a1 a2 hc0 => ?_
    rw [set_app hp]
    simp [-Int.natCast_add]
    refine W_range1 (by omega) (by omega) ?_
    simp only [k_g, k_goT, k_for, WS_then]
    refine forL_inv (fun xs ds S' => ∃ (c : C) (L' : Nat) (rows : List D) (w6 k7 k8 : Option D), ds = [some (.ref p), some (.ref q), some (.int ((k + 1 : Nat) : Int)), some (.ref S.length), some (.dct FORMS), some (.lst (wordsF b)), w6, k7, k8] ∧
        S' = (S.set p c).set q (planC L') ++ [.lst rows] ∧ PnC c (m + xs.length * (1 + 4 * PtN k)) ∧ L' ≤ L ∧ rows.length + xs.length ≤ 6 ∧ (∀ left, k ≤ left → dsN (scn left) rows 0 = some (L - L') ∧ (dsW (scW left) rows).length ≤ 61 * (L - L')) ∧ wts rows ≤ 80 * (L - L') ∧ ∀ r ∈ rows, Th 20 (2 * k + 3) r = true) _
      ⟨c0, L, [], none, none, none, rfl, ?_, ?_, Nat.le_refl _, ?_, ?_, ?_, ?_⟩ (fun x xs ds S' h => ?_) (fun ds S' h => ?_)
    · rw [set_same (S := S.set p c0) (p := q) (by rw [List.getElem?_set_ne hpq]; exact hq)]
    · rw [range_len]
      have : r0.toNat * (1 + 4 * PtN k) ≤ 6 * (1 + 4 * PtN k) := Nat.mul_le_mul_right _ (by omega)
      exact hc0.le (by omega)
    · rw [range_len]; simp; omega
    · intro left _; simp [dsN, dsW]
    · exact Nat.zero_le _
    · intro r hr; cases hr
    · obtain ⟨c, L', rows, w6, k7, k8, rfl, rfl, hc, hLe, hrl, hds, hwt, hth⟩ := h
      refine ⟨trivial, _, rfl, ?_⟩
      rw [List.length_cons] at hrl hc
      have gq : ((S.set p c).set q (planC L') ++ [C.lst rows])[q]? = some (planC L') := by
        rw [List.getElem?_append_left (by simpa using hql), List.getElem?_set_self (by simpa using hql)]
      simp [-Int.natCast_add, ix_plan gq]
      by_cases hz : 0 < L'
      · obtain ⟨L1, rfl⟩ : ∃ L1, L' = L1 + 1 := ⟨L' - 1, by omega⟩
        have hz2 : (0 : Int) < ((L1 + 1 : Nat) : Int) := by omega
        have e1 : ((L1 + 1 : Nat) : Int) - 1 = (L1 : Int) := by omega
        rw [if_pos hz]
        simp [-Int.natCast_add, ix_plan gq, e1, set_plan gq]
        rw [show ((S.set p c).set q (planC ((L1 + 1 : Nat) : Int)) ++ [C.lst rows]).set q (planC (L1 : Int)) = (S.set p c).set q (planC L1) ++ [C.lst rows] from by rw [set_app (by simpa using hql), List.set_set]]
        have gp : Pn ((S.set p c).set q (planC L1) ++ [C.lst rows]) p (m + (xs.length + 1) * (1 + 4 * PtN k)) := by
          refine ⟨c, ?_, hc⟩
          rw [List.getElem?_append_left (by simpa using hp), List.getElem?_set_ne (Ne.symm hpq), List.getElem?_set_self hp]
        refine W_dr (hk.lst _ p (m + xs.length * (1 + 4 * PtN k) + 4 * PtN k) _ (gp.le (by rw [Nat.succ_mul xs.length]; omega)) (words_ne b) (by have := words_len b; omega) fun d hd => ?_) fun w c1 hc1 hw => ?_
        · obtain ⟨z, f, rfl, _⟩ := words_form hd
          rfl
        · obtain ⟨z, f, rfl, hf', hok, hS⟩ := words_form hw
          have hfl := okForm.len hok
          rw [show (((S.set p c).set q (planC L1)) ++ [C.lst rows]).set p c1 = (S.set p c1).set q (planC L1) ++ [C.lst rows] from by rw [set_app (by simpa using hp), set21 hpq]]
          have ty : ∀ c L3 rs, tyM ((S.set p c).set q (planC L3) ++ [C.lst rs]) (.ref S.length) = "list" := fun c L3 rs => by
            have : ((S.set p c).set q (planC L3) ++ [C.lst rs])[S.length]? = some (.lst rs) := by
              rw [List.getElem?_append_right (by simp)]
              simp
            unfold tyM
            simp only [this]
          simp [-Int.natCast_add, ix_dct hf', ty]
          rw [signs_sg]
          refine W_comp_inv (fun zs ys S' => ∃ (c : C) (L' : Nat) (done rest : List Nat), S' = (S.set p c).set q (planC L') ++ [C.lst rows] ∧ PnC c (m + xs.length * (1 + 4 * PtN k) + rest.length * PtN k) ∧ L' ≤ L1 ∧ f.cps.toList = done ++ rest ∧ zs = rest.map sg ∧ ys.length = done.length ∧
            (∀ left, k ≤ left → psN (scn left) (done.zip ys) 1 = some (1 + (L1 - L')) ∧ (psW (scW left) (done.zip ys)).length ≤ 61 * (L1 - L') + (done.map tct).sum) ∧ wts ys ≤ (done.map wct).sum + 80 * (L1 - L') ∧ ∀ y ∈ ys, Th 20 (2 * k + 2) y = true) (by rw [List.length_map]; omega) ⟨c1, L1, [], f.cps.toList, rfl, ?_, Nat.le_refl _, rfl, rfl, rfl, ?_, ?_, ?_⟩ (fun y ys zs S' h => ?_) (fun zs S' h => ?_)
          · have : f.cps.toList.length * PtN k ≤ 4 * PtN k := Nat.mul_le_mul_right _ hfl
            exact hc1.le (by omega)
          · intro left _; simp [psN, psW]
          · exact Nat.zero_le _
          · intro y hy; cases hy
          · obtain ⟨c2, L2, done, rest, rfl, hc2, hL2, hfd, hzs, hyl, hps, hyw, hyt⟩ := h
            cases rest with
            | nil => cases hzs
            | cons ch rest =>
              obtain ⟨rfl, rfl⟩ : y = sg ch ∧ ys = rest.map sg := by cases hzs; exact ⟨rfl, rfl⟩
              refine ⟨_, rfl, ?_⟩
              have hch : ch ∈ f.cps.toList := by rw [hfd]; simp
              have gq2 : ((S.set p c2).set q (planC L2) ++ [C.lst rows])[q]? = some (planC L2) := by
                rw [List.getElem?_append_left (by simpa using hql), List.getElem?_set_self (by simpa using hql)]
              have gp2 : Pn ((S.set p c2).set q (planC L2) ++ [C.lst rows]) p (m + xs.length * (1 + 4 * PtN k) + rest.length * PtN k + PtN k) := by
                refine ⟨c2, ?_, hc2.le (by rw [List.length_cons, Nat.succ_mul rest.length]; omega)⟩
                rw [List.getElem?_append_left (by simpa using hp), List.getElem?_set_ne (Ne.symm hpq), List.getElem?_set_self hp]
              have := hpt _ p q (m + xs.length * (1 + 4 * PtN k) + rest.length * PtN k) L2 ch gp2 gq2 hpq (by omega) (okForm.mem hok hch) (fun e => by
                cases hbb : b with
                | true => exact hkb hbb
                | false => exact absurd (e ▸ hch) (hS hbb))
              simp [-Int.natCast_add]
              refine this.mono fun d S' ⟨c3, L3, e, hc3, hl3, hG, hGt, hGw⟩ => ?_
              refine ⟨c3, L3, ?_, done ++ [ch], rest, hc3, by omega, by rw [hfd]; simp, rfl, by simp [hyl], fun left hle => ?_, ?_, fun y hy => ?_⟩
              · rw [e, set_app (by simpa using hp), set21 hpq, set_app (by simpa using hql), List.set_set]
              · rw [List.zip_append hyl.symm]
                rw [show [ch].zip [d] = [(ch, d)] from rfl, psN_snoc (hG left hle).1 (hps left hle).1, psW_snoc]
                refine ⟨by congr 1; omega, ?_⟩
                have q1 := (hG left hle).2
                have q2 := (hps left hle).2
                rw [List.length_append, List.map_append, List.sum_append]
                simp only [List.map_cons, List.map_nil, List.sum_cons, List.sum_nil]
                omega
              · rw [wts_app, List.map_append, List.sum_append]
                simp only [List.map_cons, List.map_nil, List.sum_cons, List.sum_nil, wts]
                omega
              · rcases hy with h | h
                · exact hyt y h
                · rw [h]
                  exact hGt
          · obtain ⟨c2, L2, done, rest, rfl, hc2, hL2, hfd, hzs, hyl, hps, hyw, hyt⟩ := h
            have hr0 : rest = [] := by cases rest with
              | nil => rfl
              | cons _ _ => cases hzs
            subst hr0
            rw [List.append_nil] at hfd
            subst hfd
            have hzl : zs.length ≤ 4 := by omega
            have g3 : ((S.set p c2).set q (planC L2) ++ [C.lst rows])[S.length]? = some (.lst rows) := by
              rw [List.getElem?_append_right (by simp)]
              simp
            have ap : appM (.ref S.length) [.tup (.str z :: zs)] ((S.set p c2).set q (planC L2) ++ [C.lst rows]) = .ok .non ((S.set p c2).set q (planC L2) ++ [C.lst (rows ++ [.tup (.str z :: zs)])]) := by
              unfold appM
              simp only [g3]
              rw [if_pos (by simp; omega)]
              congr 1
              rw [List.set_append_right _ _ (by simp)]
              simp
            simp [-Int.natCast_add]
            rw [if_pos (by omega)]
            simp [-Int.natCast_add, ap]
            have hzf : zs.length = f.cps.toList.length := hyl
            refine ⟨c2, L2, _, ⟨rfl, rfl⟩, hc2.le (by omega), by omega, by simp; omega, fun left hle => ?_, ?_, fun r hr => ?_⟩
            · have e : dN (scn left) (.tup (.str z :: zs)) = some (1 + (L1 - L2)) := by
                simp only [dN, hf', if_pos hzf]
                exact (hps left hle).1
              have e2 : dW (scW left) (.tup (.str z :: zs)) = psW (scW left) (f.cps.toList.zip zs) := by simp only [dW, hf']
              have h0 := (hds left hle).1
              have h1 := (hds left hle).2
              have h2 := (hps left hle).2
              have h3 := okForm.sum hok
              rw [dsN_snoc e h0 (by omega), dsW_snoc, List.length_append, e2]
              refine ⟨by congr 1; omega, by omega⟩
            · rw [wts_app]
              have h3 := okForm.sumw hok
              have : wts [.tup (.str z :: zs)] = 2 + (1 + wts zs) + 0 := rfl
              rw [this]
              omega
            · rcases List.mem_append.mp hr with h | h
              · exact hth r h
              · simp at h
                rw [h]
                refine th_tup.mpr ⟨by simp; omega, fun y hy => ?_⟩
                rcases List.mem_cons.mp hy with rfl | hy
                · exact th_str hf'
                · exact hyt y hy
      · rw [if_neg hz]
        exact ⟨⟨_, _, _, rfl⟩, c, L', rows, rfl, hc.le (by rw [Nat.succ_mul xs.length]; omega), hLe, by omega, hds, hwt, hth⟩
    · obtain ⟨c, L', rows, w6, k7, k8, rfl, rfl, hc, hLe, hrl, hds, hwt, hth⟩ := h
      refine ⟨trivial, ?_⟩
      have g3 : ((S.set p c).set q (planC L') ++ [C.lst rows])[S.length]? = some (.lst rows) := by
        rw [List.getElem?_append_right (by simp)]
        simp
      have tp : tupleC [.ref S.length] ((S.set p c).set q (planC L') ++ [C.lst rows]) = .ok (.tup rows) ((S.set p c).set q (planC L') ++ [C.lst rows]) := by
        unfold tupleC asL
        simp only [g3]
      have htt : Th 20 (2 * k + 4) (.tup rows) = true := th_tup.mpr ⟨by simp at hrl; omega, hth⟩
      simp [-Int.natCast_add, tp]
      rw [fin_set2app ((Th.pu htt).lw _) (hc.lw _) lw_plan]
      refine ⟨c, L', rfl, by simpa using hc, hLe, fun left hle => ?_, htt, Nat.add_le_add_left hwt 2⟩
      obtain ⟨j, rfl⟩ : ∃ j, left = j + 1 := ⟨left - 1, by omega⟩
      exact hds j (by omega)
theorem scr_ok {tab : Nat → FD} {gs gp gd gk gw go gf : Nat} {bs bp : (Nat → EvC) → EvS} (hs : tab gs = ⟨false, 9, 3, bs⟩) (hp : tab gp = ⟨false, 6, 4, bp⟩) (es : ∀ c, bs c = sdrB (c gf) (c gd) (c gk) (c gp)) (ep : ∀ c, bp c = pdrB (c gd) (c gw) (c go) (c gs))
    (hd : ∀ j, DrawOK (evC tab (j + 1) gd)) (hk : ∀ j, PickOK (evC tab (j + 2) gk)) (hw : ∀ j, WordOK (evC tab (j + 3) gw)) (ho : ∀ j, WorthOK 2 (evC tab (j + 6) go)) (hf : ∀ j, FormsOK (evC tab (j + 1) gf)) :
    ∀ (k j : Nat), PtD k (evC tab (j + 2 * k + 7) gp) ∧ ScD k (evC tab (j + 2 * k + 8) gs) := by
  intro k
  have part : ∀ j : Nat, (∀ i, k = i + 1 → ScD i (evC tab (j + 2 * k + 6) gs)) → PtD k (evC tab (j + 2 * k + 7) gp) := fun j h S p q m L c hP hq hpq hL hc hc1 => by
    refine W_call hp rfl ?_
    rw [ep]
    exact part_dr (hd _) (hw (j + 2 * k + 3)) (ho (j + 2 * k)) h hP hq hpq hL hc hc1
  have scr : ∀ j : Nat, PtD k (evC tab (j + 2 * k + 7) gp) → ScD k (evC tab (j + 2 * k + 8) gs) := fun j h S p q m L hP hq hpq hL => by
    refine W_call hs rfl ?_
    rw [es]
    exact script_dr (hf _) (hd _) (hk (j + 2 * k + 5)) h hP hq hpq hL
  induction k with
  | zero =>
    intro j
    have h1 := part j fun i e => by omega
    exact ⟨h1, scr j h1⟩
  | succ k ih =>
    intro j
    have h1 := part j fun i e => by
      obtain rfl : k = i := by omega
      have := (ih (fun j h S p q m L c hP hq hpq hL hc hc1 => by
        refine W_call hp rfl ?_
        rw [ep]
        exact part_dr (hd _) (hw (j + 2 * k + 3)) (ho (j + 2 * k)) h hP hq hpq hL hc hc1) (fun j h S p q m L hP hq hpq hL => by
        refine W_call hs rfl ?_
        rw [es]
        exact script_dr (hf _) (hd _) (hk (j + 2 * k + 5)) h hP hq hpq hL) j).2
      rw [show j + 2 * (k + 1) + 6 = j + 2 * k + 8 from by omega]
      exact this
    exact ⟨h1, scr j h1⟩
end Rk

namespace Rk
open PySem L2 TL

/-! ### the texts in a script are words -/
theorem isV_txs : ∀ {k : Nat} {d : D}, isV k d = true → ∀ z ∈ txs d, isW (.str z) = true := by
  intro k
  induction k with
  | zero =>
    intro d h z hz
    cases d <;> first | (cases hz; done) | skip
    case str y =>
      obtain rfl : z = y := List.mem_singleton.mp hz
      simpa [isV, atomV, isNonD, isF] using h
    case tup xs => simp [isV, atomV, isNonD, isW, isF] at h
  | succ k ih =>
    intro d h z hz
    cases d <;> first | (cases hz; done) | skip
    case str y =>
      obtain rfl : z = y := List.mem_singleton.mp hz
      simpa [isV, atomV, isNonD, isF, isTupT] using h
    case tup xs =>
      simp [isV, atomV, isNonD, isW, isF, isTupT, parts] at h
      rw [txs, txsL_flat] at hz
      obtain ⟨x, hx, hz⟩ := List.mem_flatMap.mp hz
      exact ih (h.2 x hx) z hz
theorem lookB_txs {c : Nat} {p : D} (h : lookB c p = true) (hc : c = 119 ∨ c = 110 ∨ c = 118) : ∀ z ∈ txs p, isW (.str z) = true := by
  intro z hz
  rcases hc with rfl | rfl | rfl
  · have h : isW p = true := h
    cases p <;> first | (cases hz; done) | skip
    case str =>
      rename_i y h'
      obtain rfl : z = y := List.mem_singleton.mp hz
      exact h
    case tup xs => cases h
  · have h : isNm p = true := h
    simp only [isNm, Bool.and_eq_true, decide_eq_true_eq, List.all_eq_true] at h
    obtain ⟨xs, rfl⟩ := tup_of h.1.1
    rw [txs, txsL_flat] at hz
    obtain ⟨x, hx, hz⟩ := List.mem_flatMap.mp hz
    have hw : isW x = true := h.2 x hx
    cases x <;> first | (cases hz; done) | skip
    case str y =>
      obtain rfl : z = y := List.mem_singleton.mp hz
      exact hw
    case tup xs => cases hw
  · exact isV_txs (k := 4) h z hz
theorem psN_mem {me : D → Option Nat} : ∀ {l : List (Nat × D)} {n m : Nat}, psN me l n = some m → ∀ q ∈ l, ∃ j, pN me q.1 q.2 = some j
  | [], _, _, _, q, hq => by cases hq
  | (c, p) :: r, n, m, h, q, hq => by
    unfold psN at h
    split at h
    · rename_i j e
      rcases List.mem_cons.mp hq with rfl | hq
      · exact ⟨j, e⟩
      · exact psN_mem h q hq
    · cases h
theorem dsN_mem {me : D → Option Nat} : ∀ {l : List D} {n m : Nat}, dsN me l n = some m → ∀ q ∈ l, ∃ j, dN me q = some j
  | [], _, _, _, q, hq => by cases hq
  | d :: r, n, m, h, q, hq => by
    unfold dsN at h
    split at h
    · rename_i j e
      split at h
      · cases h
      · rcases List.mem_cons.mp hq with rfl | hq
        · exact ⟨j, e⟩
        · exact dsN_mem h q hq
    · cases h
theorem scn_words : ∀ (k : Nat) (d : D) (m : Nat), scn k d = some m → ∀ z ∈ scW k d, isW (.str z) = true
  | 0, d, m, h, z, hz => by cases hz
  | k + 1, d, m, h, z, hz => by
    have ih := scn_words k
    unfold scn at h
    split at h
    case isFalse => cases h
    unfold scW dsW at hz
    obtain ⟨y, hy, hz⟩ := List.mem_flatMap.mp hz
    obtain ⟨j, hj⟩ := dsN_mem h y hy
    unfold dW at hz
    split at hz
    case h_2 => cases hz
    rename_i w ps
    unfold dN at hj
    simp only at hj
    split at hz
    case h_2 => cases hz
    rename_i f hf
    simp only [hf] at hj
    split at hj
    case isFalse => cases hj
    unfold psW at hz
    obtain ⟨q, hq, hz⟩ := List.mem_flatMap.mp hz
    obtain ⟨i, hi⟩ := psN_mem hj q hq
    unfold pW at hz
    unfold pN at hi
    split at hz
    · rename_i hc
      rw [if_neg (by omega), if_neg (by omega)] at hi
      split at hi
      · rename_i hl
        exact lookB_txs hl hc z hz
      · cases hi
    · split at hz
      · rename_i hc
        rw [if_neg (by rw [hc.2]; simp), if_pos hc.1] at hi
        exact ih _ _ hi z hz
      · cases hz

/-! ### texts_in -/
noncomputable def comp2K (own : List Nat) (t : EvG) (it1 : EvI) (own1 : List Nat) (t1 : EvG) (el : EvE) (ds : Env) : List D × (Store → Prop) → Store → R D := fun p S1 =>
  (compL2 p.2 t cYes it1 own1 t1 cYes el p.1 (wipeD ds own) S1).bind fun ys S2 => if ys.length ≤ sizeLine then .ok (.lst ys) S2 else .bad
@[simp] theorem e_comp2 {it it1 : EvI} {own own1 : List Nat} {t t1 : EvG} {el : EvE} {ds : Env} {S : Store} : fComp2 it own t cYes it1 own1 t1 cYes el ds S = (it ds S).bind (comp2K own t it1 own1 t1 el ds) := rfl
theorem compL2_pure {t t1 : EvG} {it1 : EvI} {own1 : List Nat} {el : EvE} {ds : Env} {S : Store} (f : D → List D) : ∀ {xs : List D}, (∀ x ∈ xs, ∃ ds1, t x ds = some ds1 ∧ it1 ds1 S = .ok (f x, gT) S ∧ compL gT t1 cYes el (f x) (wipeD ds1 own1) S = .ok (f x) S) →
    compL2 gT t cYes it1 own1 t1 cYes el xs ds S = .ok (xs.flatMap f) S
  | [], _ => by
    unfold compL2
    exact if_pos trivial
  | x :: xs, h => by
    obtain ⟨ds1, e1, e2, e3⟩ := h x List.mem_cons_self
    have ih := compL2_pure f (xs := xs) fun y hy => h y (List.mem_cons_of_mem _ hy)
    unfold compL2
    rw [if_pos trivial, e1]
    have ec : cYes ds1 S = .ok true S := rfl
    simp only [ec, R.bind_ok, if_true, e2, e3, ih, List.flatMap_cons]
theorem comp2K_ok {own own1 : List Nat} {t t1 : EvG} {it1 : EvI} {el : EvE} {ds : Env} {S : Store} (f : D → List D) {xs : List D} (h : ∀ x ∈ xs, ∃ ds1, t x (wipeD ds own) = some ds1 ∧ it1 ds1 S = .ok (f x, gT) S ∧ compL gT t1 cYes el (f x) (wipeD ds1 own1) S = .ok (f x) S)
    (hl : (xs.flatMap f).length ≤ 16777216) : comp2K own t it1 own1 t1 el ds (xs, gT) S = .ok (.lst (xs.flatMap f)) S := by
  unfold comp2K
  rw [compL2_pure f h]
  exact if_pos hl
def TextsOK (k : Nat) (f : EvC) : Prop := ∀ (d : D) (S : Store), Th 1000 k d = true → (txs d).length ≤ 16000000 → f [d] S = .ok (.lst ((txs d).map D.str)) S
noncomputable def textB (me : EvC) : EvS :=
  (sSeq (sIf (fTru (fCall isiC (fCons (fVar 0) (fCons (fC (.ty "tuple")) fNil)))) (sRet (fComp2 (iVal (fVar 0)) [1, 2] (tgN 1) cYes (iVal (fCall me (fCons (fVar 1) fNil))) [2] (tgN 2) cYes (fVar 2))) sNil)
    (sRet (fIf (fTru (fCall isiC (fCons (fVar 0) (fCons (fC (.ty "str")) fNil)))) (fLst (fCons (fVar 0) fNil)) (fLst fNil))))
noncomputable def textL (me : EvC) : EvS :=
  (sSeq (sIf (fTru (fCall isiC (fCons (fVar 0) (fCons (fC (.ty "tuple")) fNil)))) (sSeq (sSet 1 (fLst fNil))
    (sSeq (sFor (iVal (fVar 0)) (tgN 2) (sSet 1 (fBin addD (fVar 1) (fCall me (fCons (fVar 2) fNil)))))
    (sRet (fVar 1)))) sNil)
    (sRet (fBin mulD (fLst (fCons (fVar 0) fNil)) (fCall intC (fCons (fCall isiC (fCons (fVar 0) (fCons (fC (.ty "str")) fNil))) fNil)))))
theorem len_le_flat {α β : Type} {f : α → List β} {x : α} : ∀ {xs : List α}, x ∈ xs → (f x).length ≤ (xs.flatMap f).length
  | y :: ys, h => by
    rw [List.flatMap_cons, List.length_append]
    rcases List.mem_cons.mp h with rfl | h
    · omega
    · have := len_le_flat (f := f) h
      omega
theorem strs_lw {k : Nat} : ∀ zs : List Str, Ds.lw k (zs.map D.str) = true
  | [] => rfl
  | z :: r => by
    have := strs_lw (k := k) r
    show (D.lw k (.str z) && Ds.lw k (r.map D.str)) = true
    rw [this]
    rfl
theorem strs_pu (zs : List Str) : Pu (.lst (zs.map D.str)) := strs_lw zs
theorem fin_strs {keep : Bool} {S : Store} (zs : List Str) : fin keep S (.lst (zs.map D.str)) S = .ok (.lst (zs.map D.str)) S := fin_same (show D.lw _ (.lst _) = true from strs_lw zs)
theorem text_step {me : EvC} {k : Nat} (hm : ∀ j, k = j + 1 → TextsOK j me) {d : D} {S : Store} {keep : Bool} (hd : Th 1000 k d = true) (hl : (txs d).length ≤ 16000000) :
    W (finR keep S (textB me [some d, none, none] S)) (fun x S' => x = .lst ((txs d).map D.str) ∧ S' = S) ∧ W (finR keep S (textL me [some d, none, none] S)) (fun x S' => x = .lst ((txs d).map D.str) ∧ S' = S) := by
  have ho : ok1 d = true := Th.ok1 hd
  by_cases ht : isTupT d = true
  · obtain ⟨xs, rfl⟩ := tup_of ht
    cases k with
    | zero => exact absurd hd (by simp [Th, atT])
    | succ k =>
      obtain ⟨_, hp⟩ := th_tup.mp hd
      have hm := hm k rfl
      have hl : (txsL xs).length ≤ 16000000 := hl
      have hx : ∀ x ∈ xs, (txs x).length ≤ 16000000 := fun x h => by
        refine Nat.le_trans ?_ hl
        rw [txsL_flat]
        exact len_le_flat h
      have e : txs (.tup xs) = txsL xs := rfl
      constructor
      · simp [textB, isi_tuple ho, isTupT]
        refine W_of (comp2K_ok (fun x => (txs x).map D.str) (fun x h => ⟨_, rfl, ?_, ?_⟩) ?_) ?_
        · simp [hm x S (hp x h) (hx x h)]
        · rw [compL_pure (t := tgN 2) (c := cYes) (el := fVar 2) (fun _ => true) (fun y => y) (fun y hy => ⟨_, rfl, rfl, fun _ => by simp⟩)]
          simp
        · rw [← List.map_flatMap, ← txsL_flat, List.length_map]; omega
        · rw [← List.map_flatMap, ← txsL_flat]
          simp [fin_strs (txsL xs), e]
      · simp [textL, isi_tuple ho, isTupT]
        refine forL_inv (fun ys ds S' => S' = S ∧ ∃ acc a, ds = [some (.tup xs), some (.lst (acc.map D.str)), a] ∧ acc ++ txsL ys = txsL xs ∧ ∀ y ∈ ys, y ∈ xs) _ ⟨rfl, [], none, rfl, rfl, fun y h => h⟩ (fun x ys ds S' h => ?_) (fun ds S' h => ?_)
        · obtain ⟨rfl, acc, a, rfl, hacc, hall⟩ := h
          refine ⟨trivial, _, rfl, ?_⟩
          have hxx := hall x List.mem_cons_self
          have hlen : acc.length + (txs x).length ≤ 16777216 := by
            have := congrArg List.length hacc
            rw [txsL, List.length_append, List.length_append] at this
            omega
          simp [hm x S' (hp x hxx) (hx x hxx), hlen]
          exact ⟨acc ++ txs x, by simp, by rw [← hacc, txsL]; simp, fun y h => hall y (List.mem_cons_of_mem _ h)⟩
        · obtain ⟨rfl, acc, a, rfl, hacc, hall⟩ := h
          refine ⟨trivial, ?_⟩
          rw [txsL, List.append_nil] at hacc
          subst hacc
          simp [fin_strs (txsL xs), e]
  · have ht' : isTupT d = false := by simpa using ht
    by_cases hs : isStrT d = true
    · obtain ⟨z, rfl⟩ : ∃ z, d = .str z := by cases d <;> first | exact ⟨_, rfl⟩ | cases hs
      have e : txs (.str z) = [z] := rfl
      have hf : fin keep S (.lst [.str z]) S = .ok (.lst [.str z]) S := fin_strs [z]
      constructor
      · simp [textB, isi_tuple ho, isTupT, isi_str ho, isStrT, hf, e]
      · have em : mulD (.lst [.str z]) (.int 1) S = .ok (.lst [.str z]) S := by
          simp [mulD, asX]
        simp [textL, isi_tuple ho, isTupT, isi_str ho, isStrT, em, hf, e]
    · have hs' : isStrT d = false := by simpa using hs
      have e : txs d = [] := by
        cases d <;> first | rfl | (cases ht'; done) | (cases hs'; done)
      have hf : fin keep S (.lst []) S = .ok (.lst []) S := fin_strs []
      constructor
      · simp [textB, isi_tuple ho, ht', isi_str ho, hs', hf, e]
      · have em : mulD (.lst [d]) (.int 0) S = .ok (.lst []) S := by
          simp [mulD, asX]
        simp [textL, isi_tuple ho, ht', isi_str ho, hs', em, hf, e]
/-- with fuel k + 1 at the least -/
theorem text_ok {tab : Nat → FD} {g : Nat} {b : (Nat → EvC) → EvS} (h : tab g = ⟨false, 3, 1, b⟩) (hb : (∀ c, b c = textB (c g)) ∨ ∀ c, b c = textL (c g)) : ∀ (k j : Nat), TextsOK k (evC tab (j + k + 1) g) := by
  intro k
  induction k with
  | zero =>
    intro j d S hd hl
    rw [ev_call h rfl]
    rcases hb with hb | hb <;> rw [hb]
    · exact R_of (text_step (fun _ q => by omega) hd hl).1
    · exact R_of (text_step (fun _ q => by omega) hd hl).2
  | succ k ih =>
    intro j d S hd hl
    have hm : ∀ i, k + 1 = i + 1 → TextsOK i (evC tab (j + k + 1) g) := fun i q => by
      obtain rfl : k = i := by omega
      exact ih j
    rw [show j + (k + 1) + 1 = (j + k + 1) + 1 from by omega, ev_call h rfl]
    rcases hb with hb | hb <;> rw [hb]
    · exact R_of (text_step hm hd hl).1
    · exact R_of (text_step hm hd hl).2
end Rk

namespace Rk
open PySem L2 TL

/-! ### all_words -/
section
variable {S : Store}
theorem in_wnv {c : Nat} : inD (sg c) (.str "wnv") S = .ok (.bl (decide (c = 119 ∨ c = 110 ∨ c = 118))) S := by
  have e : (Str.ofString "wnv") = ⟨#[119, 110, 118]⟩ := by decide +kernel
  show R.ok (D.bl (decide (c ∈ (Str.ofString "wnv").cps.toList))) S = _
  rw [e]
  simp
theorem in_wvn {c : Nat} : inD (sg c) (.str "wvn") S = .ok (.bl (decide (c = 119 ∨ c = 110 ∨ c = 118))) S := by
  have e : (Str.ofString "wvn") = ⟨#[119, 118, 110]⟩ := by decide +kernel
  show R.ok (D.bl (decide (c ∈ (Str.ofString "wvn").cps.toList))) S = _
  rw [e]
  simp only [List.mem_cons, List.not_mem_nil, or_false]
  congr 2
  rw [decide_eq_decide]
  omega
theorem ext_last {xs zs : List D} (h : xs.length + zs.length ≤ 16777216) : extM (.ref S.length) [.lst zs] (S ++ [.lst xs]) = .ok .non (S ++ [.lst (xs ++ zs)]) := by
  have g : (S ++ [C.lst xs])[S.length]? = some (.lst xs) := by simp
  have g2 : asX (S ++ [C.lst xs]) (.lst zs) = some zs := rfl
  unfold extM
  simp only [g, g2]
  rw [if_pos (show xs.length + zs.length ≤ sizeLine from h)]
  simp
theorem app_last {xs : List D} {x : D} (h : xs.length < 16777216) : appM (.ref S.length) [x] (S ++ [C.lst xs]) = .ok .non (S ++ [C.lst (xs ++ [x])]) := by
  have g : (S ++ [C.lst xs])[S.length]? = some (.lst xs) := by simp
  unfold appM
  simp only [g]
  rw [if_pos (show xs.length < sizeLine from h)]
  simp
theorem rev_last {xs : List D} : revM (.ref S.length) [] (S ++ [C.lst xs]) = .ok .non (S ++ [C.lst xs.reverse]) := by
  have g : (S ++ [C.lst xs])[S.length]? = some (.lst xs) := by simp
  unfold revM
  simp only [g]
  simp
theorem ty_last {xs : List D} : tyM (S ++ [C.lst xs]) (.ref S.length) = "list" := by
  have g : (S ++ [C.lst xs])[S.length]? = some (.lst xs) := by simp
  unfold tyM
  simp only [g]
theorem fin_newL {xs : List D} (hd : Ds.lw S.length xs = true) : fin false S (.ref S.length) (S ++ [.lst xs]) = .ok (.lst xs) S := by
  unfold fin
  rw [if_pos cut_app, if_neg (by simp [D.lw])]
  simp [hd]
end
noncomputable def allwB (FO : D) (tx me : EvC) : EvS :=
  (sSeq (sSet 1 (fNew fNil))
    (sSeq (sFor (iVal (fVar 0)) (tgStar 2 3) (sFor (iZip (fCons (fBin ixD (fC FO) (fVar 2)) (fCons (fVar 3) fNil))) (tgTup 2 (tgsCons (tgN 4) (tgsCons (tgN 5) tgsNil))) (sIf (fB (fBin inD (fVar 4) (fC (.str "wnv")))) (sExpr (fBM "list" extM (fVar 1) (fCons (fCall tx (fCons (fVar 5) fNil)) fNil))) (sIf (fTAnd (fB (fBin inD (fVar 4) (fC (.str "Ss")))) (fB (fBin isNotD (fVar 5) (fC .non)))) (sExpr (fBM "list" extM (fVar 1) (fCons (fCall me (fCons (fVar 5) fNil)) fNil))) sNil))))
    (sRet (fVar 1))))
/-- a script's words -/
def WordsOK (K k : Nat) (f : EvC) : Prop := ∀ (d : D) (S : Store), (scn k d).isSome = true → Th 1000 K d = true → (scW k d).length ≤ 16000000 → f [d] S = .ok (.lst ((scW k d).map D.str)) S
theorem isSome_of {o : Option Nat} {m : Nat} (h : o = some m) : o.isSome = true := by rw [h]; rfl
/-- what a deed of a script is -/
theorem dN_inv {me : D → Option Nat} {d : D} {j : Nat} (h : dN me d = some j) : ∃ w f ps, d = .tup (.str w :: ps) ∧ formOf w = some f ∧ okForm f = true ∧ ps.length = f.cps.toList.length ∧ psN me (f.cps.toList.zip ps) 1 = some j := by
  unfold dN at h
  split at h
  case h_2 => cases h
  rename_i w ps
  split at h
  case h_2 => cases h
  rename_i f hf
  split at h
  case isFalse => cases h
  rename_i hl
  exact ⟨w, f, ps, rfl, hf, form_ok hf, hl, h⟩
theorem Th_part {n k : Nat} {xs : List D} (h : Th n k (.tup xs) = true) {x : D} (hx : x ∈ xs) : Th n k x = true := by
  obtain ⟨j, hj, q⟩ := Th.parts h (x := x) hx
  exact Th.mono (Nat.le_refl _) (by omega) q
theorem words_step {FO : D} (hX : ∀ z f S, formOf z = some f → ixD FO (.str z) S = .ok (.str f) S) {K : Nat} {tx me : EvC} {k : Nat} (hx : TextsOK K tx) (hm : WordsOK K k me) {d : D} {S : Store} (hs : (scn (k + 1) d).isSome = true) (hd : Th 1000 K d = true) (hl : (scW (k + 1) d).length ≤ 16000000) :
    W (finR false S (allwB FO tx me [some d, none, none, none, none, none] S)) (fun x S' => x = .lst ((scW (k + 1) d).map D.str) ∧ S' = S) := by
  have hs0 := hs
  unfold scn at hs
  split at hs
  case isFalse => cases hs
  rename_i ht
  obtain ⟨xs, rfl⟩ := tup_of ht
  obtain ⟨n, hn⟩ := Option.isSome_iff_exists.mp hs
  have hn : dsN (scn k) xs 0 = some n := hn
  have ew : scW (k + 1) (.tup xs) = dsW (scW k) xs := rfl
  rw [ew] at hl ⊢
  simp [allwB]
  refine forL_inv (fun ys ds S' => ∃ acc a b c e, S' = S ++ [.lst (acc.map D.str)] ∧ ds = [some (.tup xs), some (.ref S.length), a, b, c, e] ∧ acc ++ dsW (scW k) ys = dsW (scW k) xs ∧ ∀ y ∈ ys, y ∈ xs) _ ⟨[], none, none, none, none, rfl, rfl, rfl, fun y h => h⟩ (fun x ys ds S' h => ?_) (fun ds S' h => ?_)
  · obtain ⟨acc, a, b, c, e, rfl, rfl, hacc, hall⟩ := h
    have hxx := hall x List.mem_cons_self
    obtain ⟨j, hj⟩ := dsN_mem hn x hxx
    have hTx := Th_part hd hxx
    obtain ⟨w, f, ps, rfl, hf, hok, hpl, hps⟩ := dN_inv hj
    have hpl4 := okForm.len hok
    have ed : dW (scW k) (.tup (.str w :: ps)) = psW (scW k) (f.cps.toList.zip ps) := by simp only [dW, hf]
    have hacc2 : acc ++ psW (scW k) (f.cps.toList.zip ps) ++ dsW (scW k) ys = dsW (scW k) xs := by
      rw [← hacc, ← ed]
      simp [dsW]
    refine ⟨trivial, _, if_pos (show ps.length ≤ 16000 by omega), ?_⟩
    simp [hX _ _ _ hf, zipK_lst hpl]
    refine forL_inv (fun zs ds S' => ∃ l acc c e, zs = pairsD l ∧ S' = S ++ [.lst (acc.map D.str)] ∧ ds = [some (.tup xs), some (.ref S.length), some (.str w), some (.lst ps), c, e] ∧ acc ++ psW (scW k) l ++ dsW (scW k) ys = dsW (scW k) xs ∧ ∀ q ∈ l, q ∈ f.cps.toList.zip ps) _
      ⟨_, acc, c, e, rfl, rfl, rfl, hacc2, fun q h => h⟩ (fun z zs ds S' h => ?_) (fun ds S' h => ?_)
    · obtain ⟨l, acc, c, e, hzs, rfl, rfl, hacc, hal⟩ := h
      cases l with
      | nil => cases hzs
      | cons q l =>
        obtain ⟨q1, q2⟩ := q
        have h1 : z = .tup [sg q1, q2] := by cases hzs; rfl
        have h2 : zs = pairsD l := by cases hzs; rfl
        subst h1 h2
        have hq := hal (q1, q2) List.mem_cons_self
        have hal' : ∀ q ∈ l, q ∈ f.cps.toList.zip ps := fun q h => hal q (List.mem_cons_of_mem _ h)
        obtain ⟨i, hi⟩ := psN_mem hps _ hq
        have hT2 : Th 1000 K q2 = true := Th_part hTx (List.mem_cons_of_mem _ (List.of_mem_zip hq).2)
        have ep : psW (scW k) ((q1, q2) :: l) = pW (scW k) q1 q2 ++ psW (scW k) l := by simp [psW]
        rw [ep] at hacc
        have hlen : acc.length + (pW (scW k) q1 q2).length ≤ 16000000 := by
          have := congrArg List.length hacc
          simp only [List.length_append] at this
          omega
        have hacc' : (acc ++ pW (scW k) q1 q2) ++ psW (scW k) l ++ dsW (scW k) ys = dsW (scW k) xs := by rw [← hacc]; simp
        refine ⟨trivial, _, rfl, ?_⟩
        simp only [pN] at hi
        by_cases c1 : q1 = 119 ∨ q1 = 110 ∨ q1 = 118
        · have ew : pW (scW k) q1 q2 = txs q2 := if_pos c1
          rw [ew] at hlen hacc'
          have hl1 : (acc.map D.str).length + ((txs q2).map D.str).length ≤ 16777216 := by simp only [List.length_map]; omega
          simp [in_wnv, c1, ty_last, hx q2 _ hT2 (show (txs q2).length ≤ 16000000 by omega), ext_last hl1]
          exact ⟨l, rfl, acc ++ txs q2, by simp, by simpa using hacc', fun a b h => hal' (a, b) h⟩
        · by_cases c2 : (q1 = 83 ∨ q1 = 115) ∧ isNonD q2 = false
          · have ew : pW (scW k) q1 q2 = scW k q2 := by unfold pW; rw [if_neg c1, if_pos c2]
            rw [ew] at hlen hacc'
            rw [if_neg (by rw [c2.2]; simp), if_pos c2.1] at hi
            have hl1 : (acc.map D.str).length + ((scW k q2).map D.str).length ≤ 16777216 := by simp only [List.length_map]; omega
            simp [in_wnv, in_Ss, c1, c2.1, c2.2, ty_last, hm q2 _ (isSome_of hi) hT2 (show (scW k q2).length ≤ 16000000 by omega), ext_last hl1]
            exact ⟨l, rfl, acc ++ scW k q2, by simp, by simpa using hacc', fun a b h => hal' (a, b) h⟩
          · have ew : pW (scW k) q1 q2 = [] := by unfold pW; rw [if_neg c1, if_neg c2]
            rw [ew] at hacc'
            by_cases c3 : q1 = 83 ∨ q1 = 115
            · have c4 : isNonD q2 = true := by
                cases h : isNonD q2 with
                | true => rfl
                | false => exact absurd ⟨c3, h⟩ c2
              simp [in_wnv, c1, in_Ss, c3, c4]
              exact ⟨l, rfl, acc, rfl, by simpa using hacc', fun a b h => hal' (a, b) h⟩
            · simp [in_wnv, c1, in_Ss, c3]
              exact ⟨l, rfl, acc, rfl, by simpa using hacc', fun a b h => hal' (a, b) h⟩
    · obtain ⟨l, acc, c, e, hzs, rfl, rfl, hacc, hal⟩ := h
      cases l with
      | cons q l => cases hzs
      | nil => exact ⟨trivial, acc, rfl, ⟨_, _, _, _, rfl⟩, (by simpa [psW] using hacc), fun y h => hall y (List.mem_cons_of_mem _ h)⟩
  · obtain ⟨acc, a, b, c, e, rfl, rfl, hacc, hall⟩ := h
    refine ⟨trivial, ?_⟩
    rw [show dsW (scW k) [] = [] from rfl, List.append_nil] at hacc
    rw [← hacc]
    simp [fin_newL (strs_lw (k := S.length) acc)]
theorem words_ok {tab : Nat → FD} {g gx : Nat} {b : (Nat → EvC) → EvS} {FO : D} {K n : Nat} (h : tab g = ⟨false, 6, 1, b⟩) (hb : ∀ c, b c = allwB FO (c gx) (c g)) (hX : ∀ z f S, formOf z = some f → ixD FO (.str z) S = .ok (.str f) S) (hx : ∀ j, TextsOK K (evC tab (j + n) gx)) :
    ∀ (k j : Nat), WordsOK K k (evC tab (j + n + k) g) := by
  intro k
  induction k with
  | zero => intro j d S hs; cases hs
  | succ k ih =>
    intro j d S hs hd hl
    rw [show j + n + (k + 1) = (j + n + k) + 1 from rfl, ev_call h rfl, hb]
    refine R_of (words_step hX ?_ (ih j) hs hd hl)
    rw [show j + n + k = (j + k) + n from by omega]
    exact hx _

/-! ### a law's own count of deeds and words -/
noncomputable def ctB (fm tx me : EvC) : EvS :=
  (sSeq (sPar3 1 2 3 (fCons (fC (.int 0)) (fCons (fLst fNil) (fCons (fCall fm fNil) fNil))))
    (sSeq (sFor (iVal (fVar 0)) (tgN 4) (sSeq (sSet 1 (fBin addD (fVar 1) (fC (.int 1))))
    (sFor (iZip (fCons (fBin ixD (fVar 3) (fBin ixD (fVar 4) (fC (.int 0)))) (fCons (fSl (fVar 4) (oSome (fC (.int 1))) oNone) fNil))) (tgTup 2 (tgsCons (tgN 5) (tgsCons (tgN 6) tgsNil))) (sIf (fTAnd (fB (fBin inD (fVar 5) (fC (.str "Ss")))) (fB (fBin isNotD (fVar 6) (fC .non)))) (sSeq (sSet 7 (fCall me (fCons (fVar 6) fNil)))
    (sPar 1 2 (fCons (fBin addD (fVar 1) (fBin ixD (fVar 7) (fC (.int 0)))) (fCons (fBin addD (fVar 2) (fBin ixD (fVar 7) (fC (.int 1)))) fNil)))) (sIf (fB (fBin inD (fVar 5) (fC (.str "wvn")))) (sSet 2 (fBin addD (fVar 2) (fCall tx (fCons (fVar 6) fNil)))) sNil)))))
    (sRet (fTup (fCons (fVar 1) (fCons (fVar 2) fNil))))))
def CtOK (K k : Nat) (f : EvC) : Prop := ∀ (d : D) (S : Store) (m : Nat), scn k d = some m → Th 1000 K d = true → (scW k d).length ≤ 16000000 → f [d] S = .ok (.tup [.int m, .lst ((scW k d).map D.str)]) S
theorem ix1 {x y : D} {xs : List D} {S : Store} : ixD (.tup (x :: y :: xs)) (.int 1) S = .ok y S := ix_tup (by
  have h : (1 : Int) < (xs.length : Int) + 1 + 1 := by omega
  simp [atI, ixN, h])
theorem psN_ge {me : D → Option Nat} : ∀ {l : List (Nat × D)} {n m : Nat}, psN me l n = some m → n ≤ m
  | [], n, m, h => by cases h; exact Nat.le_refl _
  | (c, p) :: r, n, m, h => by
    unfold psN at h
    split at h
    · have := psN_ge h; omega
    · cases h
theorem ct_step {fm tx me : EvC} {K k : Nat} (hf0 : FormsOK fm) (hx : TextsOK K tx) (hm : CtOK K k me) {d : D} {S : Store} {m : Nat} (hs : scn (k + 1) d = some m) (hd : Th 1000 K d = true) (hl : (scW (k + 1) d).length ≤ 16000000) :
    W (finR false S (ctB fm tx me [some d, none, none, none, none, none, none, none] S)) (fun x S' => x = .tup [.int m, .lst ((scW (k + 1) d).map D.str)] ∧ S' = S) := by
  have hs0 := hs
  unfold scn at hs
  split at hs
  case isFalse => cases hs
  rename_i ht
  obtain ⟨xs, rfl⟩ := tup_of ht
  have hn : dsN (scn k) xs 0 = some m := hs
  have ew : scW (k + 1) (.tup xs) = dsW (scW k) xs := rfl
  rw [ew] at hl ⊢
  simp [ctB, hf0 S]
  refine forL_inv (fun ys ds S' => S' = S ∧ ∃ (n : Nat) (acc : List Str) (a b c e : Option D), ds = [some (.tup xs), some (.int n), some (.lst (acc.map D.str)), some (.dct FORMS), a, b, c, e] ∧ acc ++ dsW (scW k) ys = dsW (scW k) xs ∧ dsN (scn k) ys n = some m ∧ ∀ y ∈ ys, y ∈ xs) _ ⟨rfl, 0, [], none, none, none, none, rfl, rfl, hn, fun y h => h⟩ (fun x ys ds S' h => ?_) (fun ds S' h => ?_)
  · obtain ⟨rfl, n, acc, a, b, c, e, rfl, hacc, hdn, hall⟩ := h
    have hxx := hall x List.mem_cons_self
    obtain ⟨j, hj⟩ := dsN_mem hn x hxx
    have hTx := Th_part hd hxx
    simp only [dsN, hj] at hdn
    split at hdn
    case isTrue => cases hdn
    obtain ⟨w, f, ps, rfl, hf, hok, hpl, hps⟩ := dN_inv hj
    have hpl4 := okForm.len hok
    have ed : dW (scW k) (.tup (.str w :: ps)) = psW (scW k) (f.cps.toList.zip ps) := by simp only [dW, hf]
    have hacc2 : acc ++ psW (scW k) (f.cps.toList.zip ps) ++ dsW (scW k) ys = dsW (scW k) xs := by
      rw [← hacc, ← ed]
      simp [dsW]
    refine ⟨trivial, _, rfl, ?_⟩
    simp [-Int.natCast_add, ix_dct hf, cut_lo (show (0 : Int) ≤ 1 by decide), zipK_lst hpl, zipK_tup hpl]
    refine forL_inv (fun zs ds S'' => S'' = S' ∧ ∃ (l : List (Nat × D)) (i : Nat) (acc : List Str) (b c e : Option D), zs = pairsD l ∧ ds = [some (.tup xs), some (.int ((n + i : Nat) : Int)), some (.lst (acc.map D.str)), some (.dct FORMS), some (.tup (.str w :: ps)), b, c, e] ∧ psN (scn k) l i = some j ∧ acc ++ psW (scW k) l ++ dsW (scW k) ys = dsW (scW k) xs ∧ ∀ q ∈ l, q ∈ f.cps.toList.zip ps) _
      ⟨rfl, _, 1, acc, b, c, e, rfl, rfl, hps, hacc2, fun q h => h⟩ (fun z zs ds S'' h => ?_) (fun ds S'' h => ?_)
    · obtain ⟨rfl, l, i, acc, b, c, e, hzs, rfl, hpi, hacc, hal⟩ := h
      cases l with
      | nil => cases hzs
      | cons q l =>
        obtain ⟨q1, q2⟩ := q
        have h1 : z = .tup [sg q1, q2] := by cases hzs; rfl
        have h2 : zs = pairsD l := by cases hzs; rfl
        subst h1 h2
        have hq := hal (q1, q2) List.mem_cons_self
        have hal' : ∀ q ∈ l, q ∈ f.cps.toList.zip ps := fun q h => hal q (List.mem_cons_of_mem _ h)
        simp only [psN] at hpi
        split at hpi
        case h_2 => cases hpi
        rename_i m1 hi
        have hT2 : Th 1000 K q2 = true := Th_part hTx (List.mem_cons_of_mem _ (List.of_mem_zip hq).2)
        have ep : psW (scW k) ((q1, q2) :: l) = pW (scW k) q1 q2 ++ psW (scW k) l := by simp [psW]
        rw [ep] at hacc
        have hlen : acc.length + (pW (scW k) q1 q2).length ≤ 16000000 := by
          have := congrArg List.length hacc
          simp only [List.length_append] at this
          omega
        have hacc' : (acc ++ pW (scW k) q1 q2) ++ psW (scW k) l ++ dsW (scW k) ys = dsW (scW k) xs := by rw [← hacc]; simp
        refine ⟨trivial, _, rfl, ?_⟩
        simp only [pN] at hi
        by_cases c2 : (q1 = 83 ∨ q1 = 115) ∧ isNonD q2 = false
        · have c1 : ¬ (q1 = 119 ∨ q1 = 110 ∨ q1 = 118) := by omega
          have ew : pW (scW k) q1 q2 = scW k q2 := by unfold pW; rw [if_neg c1, if_pos c2]
          rw [ew] at hlen hacc'
          rw [if_neg (by rw [c2.2]; simp), if_pos c2.1] at hi
          have hl1 : acc.length + (scW k q2).length ≤ 16777216 := by omega
          have hmm := hm q2 S'' m1 hi hT2 (show (scW k q2).length ≤ 16000000 by omega)
          simp [-Int.natCast_add, in_Ss, c2.1, c2.2, hmm, ix1, hl1]
          exact ⟨l, rfl, i + m1, acc ++ scW k q2, by constructor <;> simp [Int.add_assoc], hpi, by simpa using hacc', fun a b h => hal' (a, b) h⟩
        · have et : ∀ S : Store, (fTAnd (fB (fBin inD (fVar 5) (fC (.str "Ss")))) (fB (fBin isNotD (fVar 6) (fC .non)))) [some (.tup xs), some (.int ((n + i : Nat) : Int)), some (.lst (acc.map D.str)), some (.dct FORMS), some (.tup (.str w :: ps)), some (sg q1), some q2, e] S = .ok false S := fun S => by
            by_cases c3 : q1 = 83 ∨ q1 = 115
            · have c4 : isNonD q2 = true := by
                cases h : isNonD q2 with
                | true => rfl
                | false => exact absurd ⟨c3, h⟩ c2
              simp [in_Ss, c3, c4]
            · simp [in_Ss, c3]
          have hm1 : m1 = 0 := by
            by_cases c3 : q1 = 115 ∧ isNonD q2 = true
            · rw [if_pos c3] at hi; cases hi; rfl
            · rw [if_neg c3] at hi
              by_cases c4 : q1 = 83 ∨ q1 = 115
              · exfalso
                rw [if_pos c4] at hi
                have : isNonD q2 = true := by
                  cases h : isNonD q2 with
                  | true => rfl
                  | false => exact absurd ⟨c4, h⟩ c2
                cases q2 <;> first | (cases this; done) | skip
                cases k <;> cases hi
              · rw [if_neg c4] at hi
                split at hi
                · cases hi; rfl
                · cases hi
          subst hm1
          simp only [e_sif, List.set_cons_succ, List.set_cons_zero] at et ⊢
          rw [et]
          by_cases c1 : q1 = 119 ∨ q1 = 110 ∨ q1 = 118
          · have ew : pW (scW k) q1 q2 = txs q2 := if_pos c1
            rw [ew] at hlen hacc'
            have hl1 : acc.length + (txs q2).length ≤ 16777216 := by omega
            simp [-Int.natCast_add, in_wvn, c1, hx q2 _ hT2 (show (txs q2).length ≤ 16000000 by omega), hl1]
            exact ⟨l, rfl, i, acc ++ txs q2, by simp, hpi, by simpa using hacc', fun a b h => hal' (a, b) h⟩
          · have ew : pW (scW k) q1 q2 = [] := by unfold pW; rw [if_neg c1, if_neg c2]
            rw [ew] at hacc'
            simp [-Int.natCast_add, in_wvn, c1]
            exact ⟨l, rfl, i, acc, by simp, hpi, by simpa using hacc', fun a b h => hal' (a, b) h⟩
    · obtain ⟨rfl, l, i, acc, b, c, e, hzs, rfl, hpi, hacc, hal⟩ := h
      cases l with
      | cons q l => cases hzs
      | nil =>
        obtain rfl : i = j := Option.some.inj hpi
        exact ⟨trivial, rfl, n + i, acc, ⟨_, _, _, _, rfl⟩, (by simpa [psW] using hacc), hdn, fun y h => hall y (List.mem_cons_of_mem _ h)⟩
  · obtain ⟨rfl, n, acc, a, b, c, e, rfl, hacc, hdn, hall⟩ := h
    refine ⟨trivial, ?_⟩
    obtain rfl : n = m := Option.some.inj hdn
    rw [show dsW (scW k) [] = [] from rfl, List.append_nil] at hacc
    rw [← hacc]
    have hp : Pu (.tup [.int n, .lst (acc.map D.str)]) := pu_tup.mpr fun d hd => by
      simp only [List.mem_cons, List.not_mem_nil, or_false] at hd
      rcases hd with rfl | rfl
      · rfl
      · exact strs_pu acc
    simp [fin_same (hp.lw _)]
theorem ct_ok {tab : Nat → FD} {g gx gf : Nat} {b : (Nat → EvC) → EvS} {K n : Nat} (h : tab g = ⟨false, 8, 1, b⟩) (hb : ∀ c, b c = ctB (c gf) (c gx) (c g)) (hf : ∀ j, FormsOK (evC tab (j + n) gf)) (hx : ∀ j, TextsOK K (evC tab (j + n) gx)) :
    ∀ (k j : Nat), CtOK K k (evC tab (j + n + k) g) := by
  intro k
  induction k with
  | zero => intro j d S m hs; cases hs
  | succ k ih =>
    intro j d S m hs hd hl
    rw [show j + n + (k + 1) = (j + n + k) + 1 from rfl, ev_call h rfl, hb]
    have e : j + n + k = (j + k) + n := by omega
    refine R_of (ct_step ?_ ?_ (ih j) hs hd hl)
    · rw [e]; exact hf _
    · rw [e]; exact hx _

/-! ### words, sorted, and their text -/
theorem strsD_map : ∀ zs : List Str, strsD (zs.map D.str) = some zs
  | [] => rfl
  | z :: r => by
    have := strsD_map r
    simp [strsD, this]
theorem toPs_strs : ∀ zs : List Str, toPs (zs.map D.str) = some (zs.map PyData.str)
  | [] => rfl
  | z :: r => by
    have := toPs_strs r
    simp [toPs, toP, this]
def wdsP (zs : List Str) : PyData := .list (zs.map PyData.str)
theorem eqv_wds (zs : List Str) : PyData.eqv (wdsP zs) (wdsP zs) = true := by
  have : ∀ zs : List Str, PyData.eqvAll (zs.map PyData.str) (zs.map PyData.str) = true := by
    intro zs
    induction zs with
    | nil => simp [PyData.eqvAll]
    | cons z r ih => simp [PyData.eqvAll, PyData.eqv, ih]
  simp [wdsP, PyData.eqv, this]
theorem shaped_wds {zs : List Str} (h : ∀ z ∈ zs, isW (.str z) = true) : SeqAt.shaped (wdsP zs) = true := by
  have h1 : PyData.canLayAll0 (zs.map PyData.str) = true ∧ PyData.depthAll (zs.map PyData.str) ≤ 0 := by
    induction zs with
    | nil => exact ⟨rfl, Nat.le_refl _⟩
    | cons z r ih =>
      obtain ⟨i1, i2⟩ := ih fun y hy => h y (List.mem_cons_of_mem _ hy)
      have := strOk_wd (wd_iff.mpr (h z List.mem_cons_self))
      simp only [List.map_cons, PyData.canLayAll0, PyData.depthAll, PyData.canLay0, PyData.depth, this, i1, Bool.and_self]
      exact ⟨trivial, Nat.max_le.mpr ⟨Nat.le_refl _, i2⟩⟩
  unfold SeqAt.shaped
  have e1 : (wdsP zs).canLay0 = true := by simp only [wdsP, PyData.canLay0]; exact h1.1
  have e2 : (wdsP zs).depth ≤ 64 := by
    simp only [wdsP, PyData.depth]
    omega
  rw [e1, decide_eq_true e2]
  rfl
theorem piled_le {n : Nat} : ∀ {ts : List Str}, (∀ t ∈ ts, t.length ≤ n) → piled ts ≤ ts.length * (n + 2)
  | [], _ => Nat.zero_le _
  | t :: r, h => by
    have h1 := h t List.mem_cons_self
    have h2 := piled_le (ts := r) fun x hx => h x (List.mem_cons_of_mem _ hx)
    rw [piled_cons, List.length_cons, Nat.succ_mul]
    omega
theorem listText_len : ∀ ts : List Str, (listText ts).length ≤ piled ts + 2
  | [] => by decide +kernel
  | t :: r => by
    have h := textFrom_length_pos r 1 (("[" : Str) ++ (if (0 : Nat) > 0 then ", " else "" : String) ++ t) (Nat.succ_pos 0)
    have e : ((("[" : Str) ++ (if (0 : Nat) > 0 then ", " else "" : String) ++ t)).length = 1 + t.length := by
      rw [strLen_append, strLen_append]; rfl
    have hX : (listText (t :: r)).length = (textFrom 0 "[" (t :: r)).length + 1 := by
      show (textFrom 0 "[" (t :: r) ++ "]").length = _
      rw [strLen_append]; rfl
    have hY : (textFrom 0 "[" (t :: r)).length = (textFrom 1 (("[" : Str) ++ (if (0 : Nat) > 0 then ", " else "" : String) ++ t) r).length := rfl
    rw [hX, hY, h, e, piled_cons]; omega
theorem isW_plain {z : Str} (h : isW (.str z) = true) : (∀ c ∈ tl z, plainC c = true) ∧ z.length ≤ 8 := by
  have w := wd_iff.mpr h
  refine ⟨fun c hc => ?_, ?_⟩
  · have := w.all c (by simpa [tl] using hc)
    simp [plainC]
    omega
  · exact w.le
theorem repr_wds {zs : List Str} {d : D} {S : Store} (h : ∀ z ∈ zs, isW (.str z) = true) (hl : zs.length ≤ 100000) (hd : toPS S d = some (wdsP zs)) : reprC [d] S = .ok (.str (wdsP zs).shown) S := by
  unfold reprC
  simp only [hd]
  rw [if_pos]
  have h1 : PyData.showableAll (zs.map PyData.str) = true ∧ PyData.hasDictAll (zs.map PyData.str) = false ∧ PyData.depthAll (zs.map PyData.str) = 0 := by
    have : ∀ ys : List Str, PyData.showableAll (ys.map PyData.str) = true ∧ PyData.hasDictAll (ys.map PyData.str) = false ∧ PyData.depthAll (ys.map PyData.str) = 0 := fun ys => by
      induction ys with
      | nil => exact ⟨rfl, rfl, rfl⟩
      | cons z r ih => simp [PyData.showableAll, PyData.showable, PyData.hasDictAll, PyData.hasDict, PyData.depthAll, PyData.depth, ih]
    exact this zs
  refine ⟨by simp only [wdsP, PyData.showable]; exact h1.1, ?_, by simp only [wdsP, PyData.depth]; omega, by simp only [wdsP, PyData.hasDict]; exact h1.2.1⟩
  simp only [wdsP, PyData.shown]
  have h2 : ∀ ys : List Str, (∀ z ∈ ys, isW (.str z) = true) → (∀ t ∈ PyData.shownAll (ys.map PyData.str), t.length ≤ 10) ∧ (PyData.shownAll (ys.map PyData.str)).length = ys.length := by
    intro ys hy
    induction ys with
    | nil => exact ⟨fun t ht => (by cases ht), rfl⟩
    | cons z r ih =>
      obtain ⟨i1, i2⟩ := ih fun y hy' => hy y (List.mem_cons_of_mem _ hy')
      obtain ⟨p1, p2⟩ := isW_plain (hy z List.mem_cons_self)
      refine ⟨fun t ht => ?_, by simp [PyData.shownAll, i2]⟩
      rw [List.map_cons, PyData.shownAll] at ht
      rcases List.mem_cons.mp ht with rfl | ht
      · show (reprText z).length ≤ 10
        rw [repr_plain p1]
        omega
      · exact i1 t ht
  obtain ⟨a1, a2⟩ := h2 zs h
  have a3 := piled_le a1
  have a4 := listText_len (PyData.shownAll (zs.map PyData.str))
  rw [a2] at a3
  rw [line_eq]
  omega
/-- a list that a program holds beside one of the law's: alike -/
theorem ne_wds {zs : List Str} {n : Nat} {S : Store} (h : ∀ z ∈ zs, isW (.str z) = true) (hn : S[n]? = some (.lst (zs.map D.str))) : neD (.ref n) (.lst (zs.map D.str)) S = .ok (.bl false) S := by
  have e1 : toPS S (.ref n) = some (wdsP zs) := by
    unfold toPS
    simp only [hn, toPs_strs]
    rfl
  have e2 : toPS S (.lst (zs.map D.str)) = some (wdsP zs) := by
    show (toPs (zs.map D.str)).map PyData.list = _
    rw [toPs_strs]
    rfl
  have e : eqB S (.ref n) (.lst (zs.map D.str)) = some true := by
    unfold eqB
    rw [show eqS (.ref n) (.lst (zs.map D.str)) = none from by cases zs <;> rfl]
    simp only [e1, e2]
    rw [if_pos ⟨shaped_wds h, shaped_wds h⟩, eqv_wds]
  unfold neD
  rw [e]
  rfl
theorem eq_wds {zs : List Str} {n : Nat} {S : Store} (h : ∀ z ∈ zs, isW (.str z) = true) (hn : S[n]? = some (.lst (zs.map D.str))) : eqD (.ref n) (.lst (zs.map D.str)) S = .ok (.bl true) S := by
  have e := ne_wds h hn
  unfold neD at e
  unfold eqD
  split at e
  · rename_i b hb
    cases b
    · cases e
    · rfl
  · cases e
theorem mem_sortT {z : Str} {zs : List Str} (h : z ∈ sortT zs) : z ∈ zs := by
  unfold sortT at h
  exact mem_dedT.mp (List.mem_mergeSort.mp h)
/-- sorted words -/
def sortK : D → Store → R D := fun d S1 => match strsAt S1 d with
  | some xs => if xs.length + 1 < scanBound then .ok (.lst ((sortT xs).map D.str)) S1 else .bad
  | none => .bad
def sortNK : D → Store → R D := fun d S1 => match strsAt S1 d with
  | some xs => if xs.length + 1 < scanBound then .ok (.ref S1.length) (S1 ++ [.lst ((sortT xs).map D.str)]) else .bad
  | none => .bad
@[simp] theorem e_sort {a : EvE} {ds : Env} {S : Store} : fSortSet a ds S = (a ds S).bind sortK := rfl
@[simp] theorem e_sortN {a : EvE} {ds : Env} {S : Store} : fSortSetN a ds S = (a ds S).bind sortNK := rfl
theorem strsAt_lst {zs : List Str} {S : Store} : strsAt S (.lst (zs.map D.str)) = some zs := strsD_map zs
theorem sortK_ok {zs : List Str} {S : Store} (h : zs.length + 1 < 4096) : sortK (.lst (zs.map D.str)) S = .ok (.lst ((sortT zs).map D.str)) S := by
  unfold sortK
  rw [strsAt_lst]
  exact if_pos h
theorem sortNK_ok {zs : List Str} {S : Store} (h : zs.length + 1 < 4096) : sortNK (.lst (zs.map D.str)) S = .ok (.ref S.length) (S ++ [.lst ((sortT zs).map D.str)]) := by
  unfold sortNK
  rw [strsAt_lst]
  exact if_pos h
end Rk

namespace Rk
open PySem L2 TL

/-! ### the words that write a script -/
def sp : Str := Str.ofString " "
mutual
def tkw : D → List Str
  | .str z => [z]
  | .int i => [Str.ofString (toString i)]
  | .tup xs => Str.ofString "<" :: (tkws xs ++ [Str.ofString ">"])
  | _ => [Str.ofString "-"]
def tkws : List D → List Str
  | [] => []
  | d :: ds => tkw d ++ tkws ds
end
theorem tkws_flat : ∀ xs : List D, tkws xs = (xs.map tkw).flatten
  | [] => rfl
  | d :: ds => by rw [tkws, tkws_flat ds]; rfl
mutual
theorem tkw_len : ∀ d : D, (tkw d).length = wt d
  | .str _ => rfl
  | .int _ => rfl
  | .tup xs => by
    show (Str.ofString "<" :: (tkws xs ++ [Str.ofString ">"])).length = 2 + wts xs
    rw [List.length_cons, List.length_append, tkws_len xs]
    simp
    omega
  | .non => rfl
  | .bl _ => rfl
  | .lst _ => rfl
  | .rol _ => rfl
  | .dct _ => rfl
  | .kd _ => rfl
  | .ref _ => rfl
  | .fn _ => rfl
  | .ty _ => rfl
theorem tkws_len : ∀ xs : List D, (tkws xs).length = wts xs
  | [] => rfl
  | d :: ds => by rw [tkws, wts, List.length_append, tkw_len d, tkws_len ds]
end
def tkP (me : D → List Str) (c : Nat) (p : D) : List Str := if (c = 83 ∨ c = 115) ∧ isNonD p = false then Str.ofString "[" :: (me p ++ [Str.ofString "]"]) else tkw p
def tkPs (me : D → List Str) (l : List (Nat × D)) : List Str := (l.map fun q => tkP me q.1 q.2).flatten
def tkD (me : D → List Str) : D → List Str
  | .tup (.str w :: ps) => match formOf w with
    | some f => Str.ofString "(" :: w :: (tkPs me (f.cps.toList.zip ps) ++ [Str.ofString ")"])
    | none => []
  | _ => []
def tkDs (me : D → List Str) (l : List D) : List Str := (l.map (tkD me)).flatten
def tkS : Nat → D → List Str
  | 0, _ => []
  | k + 1, d => tkDs (tkS k) (parts d)
/-- the text -/
def txt (ts : List Str) : Str := Txt.join sp ts

/-! ### joins within joins -/
theorem joinL_app {S : List Nat} : ∀ {a b : List (List Nat)}, a ≠ [] → b ≠ [] → joinL S (a ++ b) = joinL S a ++ (S ++ joinL S b)
  | [], _, h, _ => absurd rfl h
  | [p], [], _, h => absurd rfl h
  | [p], q :: r, _, _ => rfl
  | p :: p2 :: r, b, _, hb => by
    have ih := joinL_app (S := S) (a := p2 :: r) (b := b) (by simp) hb
    show p ++ (S ++ joinL S ((p2 :: r) ++ b)) = (p ++ (S ++ joinL S (p2 :: r))) ++ (S ++ joinL S b)
    rw [ih]
    simp
theorem joinL_flat {S : List Nat} : ∀ {ls : List (List (List Nat))}, (∀ l ∈ ls, l ≠ []) → joinL S (ls.map (joinL S)) = joinL S ls.flatten
  | [], _ => rfl
  | [l], _ => by simp [joinL]
  | l :: m :: r, h => by
    have ih := joinL_flat (S := S) (ls := m :: r) fun x hx => h x (List.mem_cons_of_mem _ hx)
    have h1 := h l List.mem_cons_self
    have h2 : (m :: r).flatten ≠ [] := fun q => by
      have := h m (by simp)
      simp at q
      exact this q.1
    show joinL S l ++ (S ++ joinL S ((m :: r).map (joinL S))) = joinL S (l ++ (m :: r).flatten)
    rw [ih, joinL_app h1 h2]
theorem txt_flat {ls : List (List Str)} (h : ∀ l ∈ ls, l ≠ []) : Txt.join sp (ls.map txt) = txt ls.flatten := by
  apply ext_tl
  unfold txt
  rw [tjoin, tjoin, List.map_map, List.map_flatten]
  have := joinL_flat (S := tl sp) (ls := ls.map fun l => l.map tl) (by
    intro l hl
    obtain ⟨m, hm, rfl⟩ := List.mem_map.mp hl
    simpa using h m hm)
  rw [← this, List.map_map]
  congr 1
  apply List.map_congr_left
  intro l _
  simp [tjoin]
theorem txt_one (z : Str) : txt [z] = z := by
  apply ext_tl
  unfold txt
  rw [tjoin]
  rfl
/-- a token is short and holds no blank -/
def Gt (t : Str) : Prop := t.length ≤ 11 ∧ 32 ∉ tl t
theorem txt_len {ts : List Str} (h : ∀ t ∈ ts, Gt t) : (txt ts).length ≤ 12 * ts.length := by
  rw [len_tl]
  unfold txt
  rw [tjoin]
  have h1 := joinL_len (tl sp) (ts.map tl)
  have h2 : ((ts.map tl).map List.length).sum ≤ ts.length * 11 := by
    rw [List.map_map]
    exact sum_le _ 11 ts fun t ht => by
      have := (h t ht).1
      rw [len_tl] at this
      exact this
  have h3 : (tl sp).length = 1 := by decide +kernel
  rw [List.length_map, h3] at h1
  omega
/-- joining joined texts -/
theorem join_txts {ls : List (List Str)} {S : Store} (h : ∀ l ∈ ls, l ≠ []) (hg : ∀ t ∈ ls.flatten, Gt t) (hl : ls.flatten.length ≤ 1000000) : joinM (.str sp) [.lst ((ls.map txt).map D.str)] S = .ok (.str (txt ls.flatten)) S := by
  rw [joinM_strs, txt_flat h]
  have h1 : ls.length ≤ ls.flatten.length := by
    clear hg hl
    induction ls with
    | nil => exact Nat.zero_le _
    | cons l r ih =>
      have := ih fun x hx => h x (List.mem_cons_of_mem _ hx)
      have h0 := List.length_pos_iff.mpr (h l List.mem_cons_self)
      simp only [List.length_cons, List.flatten_cons, List.length_append]
      omega
  have h2 : ((ls.map txt).map Str.length).sum ≤ 12 * ls.flatten.length := by
    clear h hl h1
    induction ls with
    | nil => exact Nat.zero_le _
    | cons l r ih =>
      have i1 := ih fun x hx => hg x (by simp [List.flatten_cons]; right; simpa using hx)
      have i2 := txt_len (ts := l) fun t ht => hg t (by simp [List.flatten_cons]; left; exact ht)
      simp only [List.map_cons, List.sum_cons, List.flatten_cons, List.length_append]
      omega
  have h3 : sp.length = 1 := by decide +kernel
  rw [List.length_map, h3]
  omega

/-! ### things that are read back -/
def brk : List Str := [Str.ofString "(", Str.ofString "[", Str.ofString "<", Str.ofString ")", Str.ofString "]", Str.ofString ">"]
def Clo (o c : Str) : Prop := (o = Str.ofString "(" ∧ c = Str.ofString ")") ∨ (o = Str.ofString "[" ∧ c = Str.ofString "]") ∨ (o = Str.ofString "<" ∧ c = Str.ofString ">")
inductive Atm : Str → D → Prop
  | wd (z : Str) : Wd z → Atm z (.str z)
  | int (i : Int) : -1000000000 ≤ i → i ≤ 1000000000 → Atm (Str.ofString (toString i)) (.int i)
  | non : Atm (Str.ofString "-") .non
/-- the words ts write d, with at most k brackets within one another -/
def Rd : Nat → List Str → D → Prop
  | 0, ts, d => ∃ z, ts = [z] ∧ Atm z d
  | k + 1, ts, d => (∃ z, ts = [z] ∧ Atm z d) ∨ ∃ (o c : Str) (l : List (List Str × D)), Clo o c ∧ ts = o :: ((l.map (·.1)).flatten ++ [c]) ∧ d = .tup (l.map (·.2)) ∧ ∀ q ∈ l, Rd k q.1 q.2
theorem Rd.atm {k : Nat} {z : Str} {d : D} (h : Atm z d) : Rd k [z] d := by
  cases k with
  | zero => exact ⟨z, rfl, h⟩
  | succ k => exact .inl ⟨z, rfl, h⟩
theorem Rd.up : ∀ {k : Nat} {ts : List Str} {d : D}, Rd k ts d → Rd (k + 1) ts d
  | 0, _, _, h => .inl h
  | k + 1, _, _, .inl h => .inl h
  | k + 1, _, _, .inr ⟨o, c, l, h1, h2, h3, h4⟩ => .inr ⟨o, c, l, h1, h2, h3, fun q hq => (h4 q hq).up⟩
theorem Rd.mono {k j : Nat} {ts : List Str} {d : D} (h : Rd k ts d) (e : k ≤ j) : Rd j ts d := by
  obtain ⟨i, rfl⟩ : ∃ i, j = k + i := ⟨j - k, by omega⟩
  clear e
  induction i with
  | zero => exact h
  | succ i ih => exact ih.up
theorem Rd.ne {k : Nat} {ts : List Str} {d : D} (h : Rd k ts d) : ts ≠ [] := by
  cases k with
  | zero => obtain ⟨z, rfl, _⟩ := h; simp
  | succ k =>
    rcases h with ⟨z, rfl, _⟩ | ⟨o, c, l, _, rfl, _⟩ <;> simp
theorem wd_gt {z : Str} (h : Wd z) : Gt z := ⟨by have := h.le; omega, fun q => by
  have := h.all 32 (by simpa [tl] using q)
  omega⟩
theorem tl_int (i : Int) : tl (Str.ofString (toString i)) = numZ i := rfl
theorem int_gt {i : Int} (h1 : -1000000000 ≤ i) (h2 : i ≤ 1000000000) : Gt (Str.ofString (toString i)) := by
  refine ⟨?_, fun q => ?_⟩
  · rw [len_tl, tl_int]
    exact numZ_len h1 h2
  · rw [tl_int] at q
    rcases numZ_mem q with h | h <;> omega
theorem Atm.gt {z : Str} {d : D} (h : Atm z d) : Gt z := by
  cases h with
  | wd _ h => exact wd_gt h
  | int i h1 h2 => exact int_gt h1 h2
  | non => exact ⟨by decide +kernel, by decide +kernel⟩
theorem brk_gt : ∀ t ∈ brk, Gt t := by
  intro t ht
  simp only [brk, List.mem_cons, List.not_mem_nil, or_false] at ht
  rcases ht with rfl | rfl | rfl | rfl | rfl | rfl <;> exact ⟨by decide +kernel, by decide +kernel⟩
theorem Clo.mem {o c : Str} (h : Clo o c) : o ∈ brk ∧ c ∈ brk := by
  rcases h with ⟨rfl, rfl⟩ | ⟨rfl, rfl⟩ | ⟨rfl, rfl⟩ <;> simp [brk]
theorem Rd.gt : ∀ {k : Nat} {ts : List Str} {d : D}, Rd k ts d → ∀ t ∈ ts, Gt t
  | 0, _, _, ⟨z, e, h⟩, t, ht => by
    subst e
    rw [List.mem_singleton.mp ht]
    exact h.gt
  | k + 1, _, _, .inl ⟨z, e, h⟩, t, ht => by
    subst e
    rw [List.mem_singleton.mp ht]
    exact h.gt
  | k + 1, _, _, .inr ⟨o, c, l, h1, h2, h3, h4⟩, t, ht => by
    subst h2
    rcases List.mem_cons.mp ht with rfl | ht
    · exact brk_gt _ h1.mem.1
    rcases List.mem_append.mp ht with ht | ht
    · obtain ⟨m, hm, ht⟩ := List.mem_flatten.mp ht
      obtain ⟨q, hq, rfl⟩ := List.mem_map.mp hm
      exact (h4 q hq).gt t ht
    · rw [List.mem_singleton.mp ht]
      exact brk_gt _ h1.mem.2
/-- a worth is read back -/
theorem rd_isV : ∀ {k : Nat} {d : D}, isV k d = true → Rd k (tkw d) d := by
  intro k
  induction k with
  | zero =>
    intro d h
    rcases isV_cases h with rfl | ⟨z, rfl, hz⟩ | ⟨i, rfl, h1, h2⟩ | ⟨xs, j, rfl, hj, _⟩
    · exact Rd.atm .non
    · exact Rd.atm (.wd z hz)
    · exact Rd.atm (.int i h1 h2)
    · omega
  | succ k ih =>
    intro d h
    rcases isV_cases h with rfl | ⟨z, rfl, hz⟩ | ⟨i, rfl, h1, h2⟩ | ⟨xs, j, rfl, hj, _, hx⟩
    · exact Rd.atm .non
    · exact Rd.atm (.wd z hz)
    · exact Rd.atm (.int i h1 h2)
    · obtain rfl : k = j := by omega
      refine .inr ⟨_, _, xs.map fun x => (tkw x, x), .inr (.inr ⟨rfl, rfl⟩), ?_, ?_, fun q hq => ?_⟩
      · show Str.ofString "<" :: (tkws xs ++ [Str.ofString ">"]) = _
        rw [tkws_flat, List.map_map]
        rfl
      · rw [List.map_map]
        simp [Function.comp_def]
      · obtain ⟨x, hx', rfl⟩ := List.mem_map.mp hq
        exact ih (hx x hx')
theorem isV_up : ∀ {j : Nat} {d : D}, isV j d = true → isV (j + 1) d = true := by
  intro j
  induction j with
  | zero => intro d h; exact isV_atom h
  | succ j ih =>
    intro d h
    simp only [isV, Bool.or_eq_true, Bool.and_eq_true, List.all_eq_true] at h ⊢
    rcases h with h | ⟨h, h2⟩
    · exact .inl h
    · exact .inr ⟨h, fun x hx => by
        have := ih (h2 x hx)
        simpa only [isV, Bool.or_eq_true, Bool.and_eq_true, List.all_eq_true] using this⟩
theorem isV_le {j k : Nat} {d : D} (h : isV j d = true) (e : j ≤ k) : isV k d = true := by
  obtain ⟨i, rfl⟩ : ∃ i, k = j + i := ⟨k - j, by omega⟩
  clear e
  induction i with
  | zero => exact h
  | succ i ih => exact isV_up ih
theorem isF_isV {a b : Int} {p : D} (h : isF a b p = true) (ha : -1000000000 ≤ a) (hb : b ≤ 1000000000) : isV 4 p = true := by
  cases p <;> first | (cases h; done) | skip
  rename_i i
  have h' : a ≤ i ∧ i ≤ b := by simpa [isF] using h
  refine isV_atom ?_
  simp [atomV, isF]
  right
  omega
/-- what a look lets by is a worth -/
theorem look_isV {c : Nat} {p : D} (h : lookB c p = true) : isV 4 p = true := by
  unfold lookB at h
  split at h
  · exact isV_atom (by simp [atomV, h])
  split at h
  · simp only [isNm, Bool.and_eq_true, decide_eq_true_eq, List.all_eq_true] at h
    obtain ⟨xs, rfl⟩ := tup_of h.1.1
    refine isV_le (j := 1) ?_ (by omega)
    simp only [isV, Bool.or_eq_true, Bool.and_eq_true, decide_eq_true_eq, List.all_eq_true]
    refine .inr ⟨⟨rfl, ?_⟩, fun x hx => ?_⟩
    · have : xs.length ≤ 8 := h.1.2
      show xs.length ≤ 20
      omega
    · exact isV_atom (k := 0) (by simp [atomV, h.2 x hx])
  split at h
  · exact h
  split at h
  · exact isF_isV h (by omega) (by omega)
  split at h
  · exact isF_isV h (by omega) (by omega)
  split at h
  · exact isF_isV h (by omega) (by omega)
  · rw [Bool.or_eq_true] at h
    rcases h with h | h
    · exact isV_atom (by simp [atomV, h])
    · exact isF_isV h (by omega) (by omega)
end Rk

namespace Rk
open PySem L2 TL

/-! ### scripts are read back -/
theorem form_wd {w f : Str} (h : formOf w = some f) : Wd w := by
  have hz : ∀ q ∈ FORMS, (match q.1 with
    | .inr x => wdB x
    | _ => true) = true := by decide +kernel
  have : valD FORMS (.inr w) = some (.str f) := by
    rcases form_cases w with ⟨_, h2⟩ | ⟨g, h1, h2, _⟩
    · rw [h2] at h; cases h
    · rw [h2] at h; cases h; exact h1
  exact wd_iff.mpr (hz _ (valD_mem this))
theorem tkPs_cons {me : D → List Str} {q : Nat × D} {l : List (Nat × D)} : tkPs me (q :: l) = tkP me q.1 q.2 ++ tkPs me l := rfl
theorem zip_snd : ∀ {cs : List Nat} {ps : List D}, ps.length = cs.length → (cs.zip ps).map (·.2) = ps
  | [], [], _ => rfl
  | [], _ :: _, h => by cases h
  | _ :: _, [], h => by cases h
  | c :: cs, p :: ps, h => by
    have := zip_snd (cs := cs) (ps := ps) (by simpa using h)
    simp only [List.zip_cons_cons, List.map_cons, this]
theorem scn_tup {k n : Nat} {d : D} (h : scn k d = some n) : ∃ j xs, k = j + 1 ∧ d = .tup xs ∧ dsN (scn j) xs 0 = some n := by
  cases k with
  | zero => cases h
  | succ j =>
    unfold scn at h
    split at h
    · rename_i ht
      obtain ⟨xs, rfl⟩ := tup_of ht
      exact ⟨j, xs, rfl, rfl, h⟩
    · cases h
/-- rows that are read back -/
def RdL (k : Nat) (ts : List Str) (xs : List D) : Prop := ∃ l : List (List Str × D), ts = (l.map (·.1)).flatten ∧ xs = l.map (·.2) ∧ ∀ q ∈ l, Rd k q.1 q.2
theorem rdl_map {α : Type} {k : Nat} (f : α → List Str) (g : α → D) {xs : List α} (h : ∀ x ∈ xs, Rd k (f x) (g x)) : RdL k (xs.map f).flatten (xs.map g) := by
  refine ⟨xs.map fun x => (f x, g x), ?_, ?_, fun q hq => ?_⟩
  · rw [List.map_map]; rfl
  · rw [List.map_map]; rfl
  · obtain ⟨x, hx, rfl⟩ := List.mem_map.mp hq
    exact h x hx
theorem rd_brk {k : Nat} {o c : Str} {ts : List Str} {xs : List D} (h : Clo o c) (r : RdL k ts xs) : Rd (k + 1) (o :: (ts ++ [c])) (.tup xs) := by
  obtain ⟨l, rfl, rfl, hl⟩ := r
  exact .inr ⟨o, c, l, h, rfl, rfl, hl⟩
theorem nonD_tupN {p : D} {k n : Nat} (h : scn k p = some n) : isNonD p = false := by
  obtain ⟨j, xs, rfl, rfl, _⟩ := scn_tup h
  rfl
theorem rd_S {k n : Nat} {d : D} (h : scn k d = some n) (ih : ∀ j, k = j + 1 → ∀ d n, dN (scn j) d = some n → Rd (2 * j + 5) (tkD (tkS j) d) d ∧ (tkD (tkS j) d).length = wt d) : RdL (2 * k + 3) (tkS k d) (parts d) ∧ (tkS k d).length = wts (parts d) := by
  obtain ⟨j, xs, rfl, rfl, hn⟩ := scn_tup h
  have ih := ih j rfl
  constructor
  · have := rdl_map (k := 2 * (j + 1) + 3) (tkD (tkS j)) (fun x => x) (xs := xs) fun x hx => by
      obtain ⟨m, hm⟩ := dsN_mem hn x hx
      exact (ih x m hm).1
    rw [List.map_id'] at this
    exact this
  · have : ∀ ys : List D, (∀ y ∈ ys, y ∈ xs) → (tkDs (tkS j) ys).length = wts ys := fun ys hy => by
      induction ys with
      | nil => rfl
      | cons y ys ih2 =>
        obtain ⟨m, hm⟩ := dsN_mem hn y (hy y List.mem_cons_self)
        have h1 := (ih y m hm).2
        have h2 := ih2 fun z hz => hy z (List.mem_cons_of_mem _ hz)
        show (tkD (tkS j) y ++ tkDs (tkS j) ys).length = wt y + wts ys
        rw [List.length_append, h1, h2]
    exact this xs fun y h => h
theorem rd_P {k : Nat} (hS : ∀ d n, scn k d = some n → RdL (2 * k + 3) (tkS k d) (parts d) ∧ (tkS k d).length = wts (parts d)) {c : Nat} {p : D} {n : Nat} (h : pN (scn k) c p = some n) : Rd (2 * k + 4) (tkP (tkS k) c p) p ∧ (tkP (tkS k) c p).length = wt p := by
  unfold pN at h
  split at h
  · rename_i hc
    have e : tkP (tkS k) c p = tkw p := if_neg fun q => by rw [hc.2] at q; cases q.2
    rw [e]
    obtain rfl : p = .non := by
      have := hc.2
      cases p <;> first | rfl | cases this
    exact ⟨Rd.atm .non, rfl⟩
  · split at h
    · rename_i hc
      have hp := nonD_tupN h
      have e : tkP (tkS k) c p = Str.ofString "[" :: (tkS k p ++ [Str.ofString "]"]) := if_pos ⟨hc, hp⟩
      obtain ⟨h1, h2⟩ := hS p n h
      obtain ⟨j, xs, rfl, rfl, _⟩ := scn_tup h
      rw [e]
      refine ⟨rd_brk (.inr (.inl ⟨rfl, rfl⟩)) h1, ?_⟩
      rw [List.length_cons, List.length_append, h2]
      show wts xs + 1 + 1 = 2 + wts xs
      omega
    · split at h
      · rename_i hc hl
        have e : tkP (tkS k) c p = tkw p := if_neg fun q => hc q.1
        rw [e]
        exact ⟨(rd_isV (look_isV hl)).mono (by omega), tkw_len p⟩
      · cases h
theorem rd_D {k : Nat} (hP : ∀ c p n, pN (scn k) c p = some n → Rd (2 * k + 4) (tkP (tkS k) c p) p ∧ (tkP (tkS k) c p).length = wt p) {d : D} {n : Nat} (h : dN (scn k) d = some n) : Rd (2 * k + 5) (tkD (tkS k) d) d ∧ (tkD (tkS k) d).length = wt d := by
  obtain ⟨w, f, ps, rfl, hf, hok, hpl, hps⟩ := dN_inv h
  have e : tkD (tkS k) (.tup (.str w :: ps)) = Str.ofString "(" :: w :: (tkPs (tkS k) (f.cps.toList.zip ps) ++ [Str.ofString ")"]) := by simp only [tkD, hf]
  rw [e]
  constructor
  · have r := rdl_map (k := 2 * k + 4) (fun q : Nat × D => tkP (tkS k) q.1 q.2) (fun q => q.2) (xs := f.cps.toList.zip ps) fun q hq => by
      obtain ⟨m, hm⟩ := psN_mem hps q hq
      exact (hP _ _ m hm).1
    rw [zip_snd hpl] at r
    obtain ⟨l, h1, h2, h3⟩ := r
    refine .inr ⟨_, _, ([w], .str w) :: l, .inl ⟨rfl, rfl⟩, ?_, ?_, fun q hq => ?_⟩
    · show _ = Str.ofString "(" :: (w :: (l.map (·.1)).flatten ++ [Str.ofString ")"])
      rw [← h1]
      rfl
    · rw [h2]; rfl
    · rcases List.mem_cons.mp hq with rfl | hq
      · exact Rd.atm (.wd w (form_wd hf))
      · exact h3 q hq
  · have : ∀ l : List (Nat × D), (∀ q ∈ l, q ∈ f.cps.toList.zip ps) → (tkPs (tkS k) l).length = wts (l.map (·.2)) := fun l hl => by
      induction l with
      | nil => rfl
      | cons q l ih =>
        obtain ⟨m, hm⟩ := psN_mem hps q (hl q List.mem_cons_self)
        rw [tkPs_cons, List.length_append, (hP _ _ m hm).2, ih fun z hz => hl z (List.mem_cons_of_mem _ hz)]
        rfl
    have h2 := this _ fun q h => h
    rw [zip_snd hpl] at h2
    rw [List.length_cons, List.length_cons, List.length_append, h2]
    show wts ps + 1 + 1 + 1 = 2 + (1 + wts ps)
    omega
theorem rd_scn : ∀ (k n : Nat) (d : D), scn k d = some n → RdL (2 * k + 3) (tkS k d) (parts d) ∧ (tkS k d).length = wts (parts d)
  | 0, _, _, h => rd_S h fun j q => by omega
  | k + 1, _, _, h => rd_S h fun j q d n hd => by
    obtain rfl : k = j := by omega
    exact rd_D (fun c p n hp => rd_P (fun d n hs => rd_scn k n d hs) hp) hd
theorem rd_deed {k n : Nat} {d : D} (h : dN (scn k) d = some n) : Rd (2 * k + 5) (tkD (tkS k) d) d ∧ (tkD (tkS k) d).length = wt d := rd_D (fun c p n hp => rd_P (fun d n hs => rd_scn k n d hs) hp) h
theorem rd_part {k n c : Nat} {p : D} (h : pN (scn k) c p = some n) : Rd (2 * k + 4) (tkP (tkS k) c p) p ∧ (tkP (tkS k) c p).length = wt p := rd_P (fun d n hs => rd_scn k n d hs) h
theorem RdL.gt {k : Nat} {ts : List Str} {xs : List D} (h : RdL k ts xs) : ∀ t ∈ ts, Gt t := by
  obtain ⟨l, rfl, rfl, hl⟩ := h
  intro t ht
  obtain ⟨m, hm, ht⟩ := List.mem_flatten.mp ht
  obtain ⟨q, hq, rfl⟩ := List.mem_map.mp hm
  exact (hl q hq).gt t ht

/-! ### a text of a script -/
theorem compL_map {α : Type} {t : EvG} {el : EvE} {ds : Env} {S : Store} (e g : α → D) : ∀ {l : List α}, (∀ a ∈ l, ∃ ds1, t (e a) ds = some ds1 ∧ el ds1 S = .ok (g a) S) → compL gT t cYes el (l.map e) ds S = .ok (l.map g) S
  | [], _ => by
    unfold compL
    exact if_pos trivial
  | x :: xs, h => by
    obtain ⟨ds1, e1, e2⟩ := h x List.mem_cons_self
    have ih := compL_map e g (l := xs) fun y hy => h y (List.mem_cons_of_mem _ hy)
    rw [List.map_cons]
    unfold compL
    rw [if_pos trivial, e1]
    have ec : cYes ds1 S = .ok true S := rfl
    simp only [ec, R.bind_ok, if_true, e2, ih, List.map_cons]
theorem W_comp_map {α : Type} {own : List Nat} {t : EvG} {el : EvE} {ds : Env} {S : Store} {l : List α} {Q : D → Store → Prop} (e g : α → D) (hl : l.length ≤ 16777216)
    (h : ∀ a ∈ l, ∃ ds1, t (e a) (wipeD ds own) = some ds1 ∧ el ds1 S = .ok (g a) S) (w : Q (.lst (l.map g)) S) : W (compK own t cYes el ds (l.map e, gT) S) Q := by
  rw [compK_ok (by rw [List.length_map]; exact hl) (compL_map e g h)]
  exact w
noncomputable def shPB (sw sd : EvC) : EvS :=
  (sSeq (sIf (fTAnd (fB (fBin inD (fVar 0) (fC (.str "Ss")))) (fB (fBin isNotD (fVar 1) (fC .non)))) (sRet (fBM "str" joinM (fC (.str " ")) (fCons (fBin addD (fBin addD (fLst (fCons (fC (.str "[")) fNil)) (fComp (iVal (fVar 1)) [2] (tgN 2) cYes (fCall sd (fCons (fVar 2) fNil)))) (fLst (fCons (fC (.str "]")) fNil))) fNil))) sNil)
    (sRet (fCall sw (fCons (fVar 1) fNil))))
noncomputable def shDB (FO : D) (spt : EvC) : EvS :=
  (sSeq (sAsg (fVar 0) (tgStar 1 2))
    (sSeq (sSet 3 (fComp (iZip (fCons (fBin ixD (fC FO) (fVar 1)) (fCons (fVar 2) fNil))) [4, 5] (tgTup 2 (tgsCons (tgN 4) (tgsCons (tgN 5) tgsNil))) cYes (fCall spt (fCons (fVar 4) (fCons (fVar 5) fNil)))))
    (sRet (fBM "str" joinM (fC (.str " ")) (fCons (fBin addD (fBin addD (fLst (fCons (fC (.str "(")) (fCons (fVar 1) fNil))) (fVar 3)) (fLst (fCons (fC (.str ")")) fNil))) fNil)))))
noncomputable def shSB (sd : EvC) : EvS :=
  (sRet (fBM "str" joinM (fC (.str " ")) (fCons (fComp (iVal (fVar 0)) [1] (tgN 1) cYes (fCall sd (fCons (fVar 1) fNil))) fNil)))
def SPartOK (k : Nat) (f : EvC) : Prop := ∀ (c : Nat) (p : D) (S : Store) (n : Nat), pN (scn k) c p = some n → wt p ≤ 1000000 → f [sg c, p] S = .ok (.str (txt (tkP (tkS k) c p))) S
def SDeedOK (k : Nat) (f : EvC) : Prop := ∀ (d : D) (S : Store) (n : Nat), dN (scn k) d = some n → wt d ≤ 1000000 → f [d] S = .ok (.str (txt (tkD (tkS k) d))) S
def SScrOK (k : Nat) (f : EvC) : Prop := ∀ (d : D) (S : Store) (n : Nat), scn k d = some n → wt d ≤ 1000000 → f [d] S = .ok (.str (txt (tkS k d))) S
theorem shS_txt : ∀ {k : Nat} {d : D}, isV k d = true → shS k d = txt (tkw d) := by
  intro k
  induction k with
  | zero =>
    intro d h
    rcases isV_cases h with rfl | ⟨z, rfl, hz⟩ | ⟨i, rfl, h1, h2⟩ | ⟨xs, j, rfl, hj, _⟩
    · rw [shS_non]; exact (txt_one _).symm
    · rw [shS_str]; exact (txt_one _).symm
    · rw [shS_int]; exact (txt_one _).symm
    · omega
  | succ k ih =>
    intro d h
    rcases isV_cases h with rfl | ⟨z, rfl, hz⟩ | ⟨i, rfl, h1, h2⟩ | ⟨xs, j, rfl, hj, _, hx⟩
    · rw [shS_non]; exact (txt_one _).symm
    · rw [shS_str]; exact (txt_one _).symm
    · rw [shS_int]; exact (txt_one _).symm
    · obtain rfl : k = j := by omega
      have e : tkw (.tup xs) = ([[Str.ofString "<"]] ++ xs.map tkw ++ [[Str.ofString ">"]]).flatten := by
        show Str.ofString "<" :: (tkws xs ++ [Str.ofString ">"]) = _
        rw [tkws_flat]
        simp
      rw [e, ← txt_flat]
      · apply ext_tl
        rw [tl_shS, tjoin]
        show joinL [32] (([60] :: xs.map (shL k)) ++ [[62]]) = joinL (tl sp) _
        rw [show tl sp = [32] from sp_tl]
        congr 1
        simp only [List.map_append, List.map_map, List.map_cons, List.map_nil, txt_one, lt_tl, gt_tl, List.singleton_append, List.cons_append, List.nil_append]
        congr 2
        apply List.map_congr_left
        intro x hm
        show shL k x = tl (txt (tkw x))
        rw [← ih (hx x hm), tl_shS]
      · intro l hl
        rcases List.mem_append.mp hl with hl | hl
        · rcases List.mem_append.mp hl with hl | hl
          · rw [List.mem_singleton.mp hl]; simp
          · obtain ⟨x, hm, rfl⟩ := List.mem_map.mp hl
            exact (rd_isV (hx x hm)).ne
        · rw [List.mem_singleton.mp hl]; simp
theorem sgl_dstr (z : Str) : ([[z]].map txt).map D.str = [D.str z] := by simp [txt_one]
theorem flat_one {α : Type} : ∀ a : List α, (a.map fun t => [t]).flatten = a
  | [] => rfl
  | t :: r => by
    have := flat_one r
    simp only [List.map_cons, List.flatten_cons, this, List.singleton_append]
/-- texts between two words -/
theorem join_mid {α : Type} {f : α → List Str} {xs : List α} {a : List Str} {c : Str} {S : Store} {k : Nat} {g : α → D} (h : ∀ x ∈ xs, Rd k (f x) (g x)) (ha : ∀ t ∈ a, Gt t) (hc : Gt c) (hl : a.length + (xs.map f).flatten.length ≤ 999999) :
    joinM (.str sp) [.lst (a.map D.str ++ xs.map (fun x => D.str (txt (f x))) ++ [.str c])] S = .ok (.str (txt (a ++ (xs.map f).flatten ++ [c]))) S := by
  have e : (((a.map fun t => [t]) ++ xs.map f ++ [[c]]).map txt).map D.str = a.map D.str ++ xs.map (fun x => D.str (txt (f x))) ++ [.str c] := by
    simp [List.map_append, List.map_map, Function.comp_def, txt_one]
  have ef : ((a.map fun t => [t]) ++ xs.map f ++ [[c]]).flatten = a ++ (xs.map f).flatten ++ [c] := by
    rw [List.flatten_append, List.flatten_append, flat_one a]
    simp
  rw [← e, join_txts, ef]
  · intro l hl
    simp only [List.mem_append, List.mem_map, List.mem_singleton] at hl
    rcases hl with (⟨t, _, rfl⟩ | ⟨x, hx, rfl⟩) | rfl
    · simp
    · exact (h x hx).ne
    · simp
  · rw [ef]
    intro t ht
    simp only [List.mem_append, List.mem_singleton] at ht
    rcases ht with (ht | ht) | rfl
    · exact ha t ht
    · obtain ⟨m, hm, ht⟩ := List.mem_flatten.mp ht
      obtain ⟨x, hx, rfl⟩ := List.mem_map.mp hm
      exact (h x hx).gt t ht
    · exact hc
  · rw [ef]
    simp only [List.length_append, List.length_singleton]
    omega
end Rk

namespace Rk
open PySem L2 TL

/-! ### what the program's show_script tells -/
theorem str_lw {keep : Bool} {S : Store} {z : Str} : fin keep S (.str z) S = .ok (.str z) S := fin_same rfl
theorem len_wts : ∀ xs : List D, xs.length ≤ wts xs
  | [] => Nat.zero_le _
  | x :: xs => by
    have := len_wts xs
    have h1 : 1 ≤ wt x := by cases x <;> simp only [wt] <;> omega
    simp only [List.length_cons, wts]
    omega
theorem wts_mem {d : D} {xs : List D} (h : d ∈ xs) : wt d ≤ wts xs := wt_mem h
theorem shP_step {sw sd : EvC} {k : Nat} (hw : ShowOK 4 sw) (hd : ∀ j, k = j + 1 → SDeedOK j sd) {c : Nat} {p : D} {S : Store} {keep : Bool} {n : Nat} (hp : pN (scn k) c p = some n) (hl : wt p ≤ 1000000) :
    W (finR keep S (shPB sw sd [some (sg c), some p, none] S)) (fun x S' => x = .str (txt (tkP (tkS k) c p)) ∧ S' = S) := by
  obtain ⟨hr, hlen⟩ := rd_part hp
  by_cases h1 : (c = 83 ∨ c = 115) ∧ isNonD p = false
  · have e : tkP (tkS k) c p = Str.ofString "[" :: (tkS k p ++ [Str.ofString "]"]) := if_pos h1
    have hs : scn k p = some n := by
      unfold pN at hp
      rw [if_neg (by rw [h1.2]; simp), if_pos h1.1] at hp
      exact hp
    obtain ⟨j, xs, rfl, rfl, hn⟩ := scn_tup hs
    have hdd := hd j rfl
    have hwx : 2 + wts xs ≤ 1000000 := hl
    simp [shPB, in_Ss, h1.1]
    refine W_comp_pure (fun _ => true) (fun x => .str (txt (tkD (tkS j) x))) ?_ (fun x hx => ⟨_, rfl, rfl, fun _ => ?_⟩) ?_
    · have := len_wts xs
      omega
    · obtain ⟨m, hm⟩ := dsN_mem hn x hx
      have := wt_mem hx
      simp [hdd x _ m hm (by omega)]
    · rw [show (xs.filter fun _ => true) = xs from List.filter_eq_self.mpr fun _ _ => rfl]
      have hxl : xs.length ≤ 1000000 := by
        have : (xs.map (tkD (tkS j))).flatten.length = wts xs := (rd_scn (j + 1) n (.tup xs) hs).2
        have := len_wts xs
        omega
      have a1 : 1 + xs.length ≤ 16777216 := by omega
      have a2 : xs.length + 1 + 1 ≤ 16777216 := by omega
      have jm := join_mid (S := S) (f := tkD (tkS j)) (g := fun x => x) (xs := xs) (a := [Str.ofString "["]) (c := Str.ofString "]") (k := 2 * j + 5) (fun x hx => by
        obtain ⟨m, hm⟩ := dsN_mem hn x hx
        exact (rd_deed hm).1) (fun t ht => brk_gt t (by simp [brk] at ht ⊢; simp [ht])) (brk_gt _ (by simp [brk])) (by
          rw [show (xs.map (tkD (tkS j))).flatten.length = wts xs from (rd_scn (j + 1) n (.tup xs) hs).2]
          simp
          omega)
      simp [sp] at jm
      simp [a1, a2, jm, e, str_lw]
      rfl
  · have e : tkP (tkS k) c p = tkw p := if_neg h1
    have hv : isV 4 p = true := by
      unfold pN at hp
      split at hp
      · rename_i hc
        have := hc.2
        cases p <;> first | rfl | cases this
      · split at hp
        · rename_i hc
          exact absurd ⟨hc, nonD_tupN hp⟩ h1
        · split at hp
          · rename_i hl; exact look_isV hl
          · cases hp
    have et : ∀ S : Store, (fTAnd (fB (fBin inD (fVar 0) (fC (.str "Ss")))) (fB (fBin isNotD (fVar 1) (fC .non)))) [some (sg c), some p, none] S = .ok false S := fun S => by
      by_cases c3 : c = 83 ∨ c = 115
      · have c4 : isNonD p = true := by
          cases h : isNonD p with
          | true => rfl
          | false => exact absurd ⟨c3, h⟩ h1
        simp [in_Ss, c3, c4]
      · simp [in_Ss, c3]
    simp only [shPB, e_seq, e_sif, et]
    simp [hw p S hv, shS_txt hv, e, str_lw]
theorem shD_step {FO : D} (hX : ∀ z f S, formOf z = some f → ixD FO (.str z) S = .ok (.str f) S) {spt : EvC} {k : Nat} (hp : SPartOK k spt) {d : D} {S : Store} {keep : Bool} {n : Nat} (hd : dN (scn k) d = some n) (hl : wt d ≤ 1000000) :
    W (finR keep S (shDB FO spt [some d, none, none, none, none, none] S)) (fun x S' => x = .str (txt (tkD (tkS k) d)) ∧ S' = S) := by
  have hlen := (rd_deed hd).2
  obtain ⟨w, f, ps, rfl, hf, hok, hpl, hps⟩ := dN_inv hd
  have hpl4 := okForm.len hok
  have e : tkD (tkS k) (.tup (.str w :: ps)) = Str.ofString "(" :: w :: (tkPs (tkS k) (f.cps.toList.zip ps) ++ [Str.ofString ")"]) := by simp only [tkD, hf]
  simp [shDB, asg_star (show ps.length ≤ 16000 by omega), hX _ _ _ hf, zipK_lst hpl]
  have hwp : 2 + (1 + wts ps) ≤ 1000000 := hl
  refine W_comp_map (l := f.cps.toList.zip ps) (fun q : Nat × D => .tup [sg q.1, q.2]) (fun q => .str (txt (tkP (tkS k) q.1 q.2))) ?_ (fun q hq => ⟨_, rfl, ?_⟩) ?_
  · rw [List.length_zip]; omega
  · obtain ⟨m, hm⟩ := psN_mem hps q hq
    have := wt_mem (List.of_mem_zip (show (q.1, q.2) ∈ _ from hq)).2
    simp [hp _ _ S m hm (by omega)]
  · have a0 : (f.cps.toList.zip ps).length ≤ 4 := by rw [List.length_zip]; omega
    generalize hzz : f.cps.toList.zip ps = zz at *
    have a1 : 2 + zz.length ≤ 16777216 := by omega
    have a2 : zz.length + 1 + 1 + 1 ≤ 16777216 := by omega
    have jm := join_mid (S := S) (f := fun q : Nat × D => tkP (tkS k) q.1 q.2) (g := fun q => q.2) (xs := zz) (a := [Str.ofString "(", w]) (c := Str.ofString ")") (k := 2 * k + 4) (fun q hq => by
        obtain ⟨m, hm⟩ := psN_mem hps q hq
        exact (rd_part hm).1) (fun t ht => by
          simp only [List.mem_cons, List.not_mem_nil, or_false] at ht
          rcases ht with rfl | rfl
          · exact brk_gt _ (by simp [brk])
          · exact wd_gt (form_wd hf)) (brk_gt _ (by simp [brk])) (by
          rw [e] at hlen
          have h2 : (Str.ofString "(" :: w :: (tkPs (tkS k) zz ++ [Str.ofString ")"])).length = 2 + (1 + wts ps) := hlen
          simp only [List.length_cons, List.length_append, List.length_nil] at h2
          show 2 + (tkPs (tkS k) zz).length ≤ 999999
          omega)
    simp [sp] at jm
    simp [a1, a2, jm, e, str_lw]
    rfl
theorem shS_step {sd : EvC} {k : Nat} (hd : ∀ j, k = j + 1 → SDeedOK j sd) {d : D} {S : Store} {keep : Bool} {n : Nat} (hs : scn k d = some n) (hl : wt d ≤ 1000000) :
    W (finR keep S (shSB sd [some d, none] S)) (fun x S' => x = .str (txt (tkS k d)) ∧ S' = S) := by
  obtain ⟨hr, hlen⟩ := rd_scn k n d hs
  obtain ⟨j, xs, rfl, rfl, hn⟩ := scn_tup hs
  have hdd := hd j rfl
  have hwx : 2 + wts xs ≤ 1000000 := hl
  have hlen : (xs.map (tkD (tkS j))).flatten.length = wts xs := hlen
  have hx1 := len_wts xs
  simp [shSB]
  refine W_comp_pure (fun _ => true) (fun x => .str (txt (tkD (tkS j) x))) (by omega) (fun x hx => ⟨_, rfl, rfl, fun _ => ?_⟩) ?_
  · obtain ⟨m, hm⟩ := dsN_mem hn x hx
    have := wt_mem hx
    simp [hdd x _ m hm (by omega)]
  · rw [show (xs.filter fun _ => true) = xs from List.filter_eq_self.mpr fun _ _ => rfl]
    have jm := join_txts (S := S) (ls := xs.map (tkD (tkS j))) (fun l hl => by
      obtain ⟨x, hx, rfl⟩ := List.mem_map.mp hl
      obtain ⟨m, hm⟩ := dsN_mem hn x hx
      exact (rd_deed hm).1.ne) (fun t ht => hr.gt t ht) (by omega)
    rw [List.map_map, List.map_map] at jm
    have jm : joinM (.str (Str.ofString " ")) [.lst (xs.map fun x => D.str (txt (tkD (tkS j) x)))] S = .ok (.str (txt (xs.map (tkD (tkS j))).flatten)) S := jm
    simp [jm, str_lw]
    rfl
section
variable {tab : Nat → FD} {gp gd gw : Nat} {bp bd : (Nat → EvC) → EvS} {FO : D} {n : Nat}
theorem shows_P (h1 : tab gp = ⟨false, 3, 2, bp⟩) (e1 : ∀ c, bp c = shPB (c gw) (c gd)) (hw : ∀ j, ShowOK 4 (evC tab (j + n) gw)) {k : Nat} (j : Nat) (h : ∀ i, k = i + 1 → SDeedOK i (evC tab (j + n + 2 * k) gd)) : SPartOK k (evC tab (j + n + 2 * k + 1) gp) := fun c p S m hp hl => by
  rw [ev_call h1 rfl, e1]
  refine R_of (shP_step ?_ h hp hl)
  rw [show j + n + 2 * k = (j + 2 * k) + n from by omega]
  exact hw _
theorem shows_D (h2 : tab gd = ⟨false, 6, 1, bd⟩) (e2 : ∀ c, bd c = shDB FO (c gp)) (hX : ∀ z f S, formOf z = some f → ixD FO (.str z) S = .ok (.str f) S) {k m : Nat} (h : SPartOK k (evC tab m gp)) : SDeedOK k (evC tab (m + 1) gd) := fun d S q hd hl => by
  rw [ev_call h2 rfl, e2]
  exact R_of (shD_step hX h hd hl)
/-- show_part and show_deed -/
theorem shows_ok (h1 : tab gp = ⟨false, 3, 2, bp⟩) (h2 : tab gd = ⟨false, 6, 1, bd⟩) (e1 : ∀ c, bp c = shPB (c gw) (c gd)) (e2 : ∀ c, bd c = shDB FO (c gp))
    (hX : ∀ z f S, formOf z = some f → ixD FO (.str z) S = .ok (.str f) S) (hw : ∀ j, ShowOK 4 (evC tab (j + n) gw)) : ∀ (k j : Nat), SPartOK k (evC tab (j + n + 2 * k + 1) gp) ∧ SDeedOK k (evC tab (j + n + 2 * k + 2) gd)
  | 0, j =>
    have p := shows_P h1 e1 hw (k := 0) j fun i e => by omega
    ⟨p, shows_D h2 e2 hX p⟩
  | k + 1, j =>
    have p := shows_P h1 e1 hw (k := k + 1) j fun i e => by
      obtain rfl : k = i := by omega
      exact (shows_ok h1 h2 e1 e2 hX hw k j).2
    ⟨p, shows_D h2 e2 hX p⟩
theorem showS_ok {gs : Nat} {bs : (Nat → EvC) → EvS} (h : tab gs = ⟨false, 2, 1, bs⟩) (e : ∀ c, bs c = shSB (c gd)) {k m : Nat} (hd : SDeedOK k (evC tab m gd)) : SScrOK (k + 1) (evC tab (m + 1) gs) := fun d S q hs hl => by
  rw [ev_call h rfl, e]
  exact R_of (shS_step (fun j e => by
    obtain rfl : k = j := by omega
    exact hd) hs hl)
end

/-! ### a law's own text -/
noncomputable def ltB (fm sw me : EvC) : EvS :=
  (sSeq (sPar 1 2 (fCons (fNew fNil) (fCons (fCall fm fNil) fNil)))
    (sSeq (sFor (iVal (fVar 0)) (tgN 3) (sSeq (sSet 1 (fBin addN (fVar 1) (fLst (fCons (fC (.str "(")) (fCons (fBin ixD (fVar 3) (fC (.int 0))) fNil)))))
    (sSeq (sFor (iZip (fCons (fBin ixD (fVar 2) (fBin ixD (fVar 3) (fC (.int 0)))) (fCons (fSl (fVar 3) (oSome (fC (.int 1))) oNone) fNil))) (tgTup 2 (tgsCons (tgN 4) (tgsCons (tgN 5) tgsNil))) (sIf (fTAnd (fB (fBin inD (fVar 4) (fC (.str "Ss")))) (fB (fBin isNotD (fVar 5) (fC .non)))) (sSet 1 (fBin addN (fBin addD (fBin addD (fVar 1) (fLst (fCons (fC (.str "[")) fNil))) (fBin mulD (fLst (fCons (fCall me (fCons (fVar 5) fNil)) fNil)) (fCall intC (fCons (fBin neD (fVar 5) (fTup fNil)) fNil)))) (fLst (fCons (fC (.str "]")) fNil)))) (sExpr (fBM "list" appM (fVar 1) (fCons (fCall sw (fCons (fVar 5) fNil)) fNil)))))
    (sExpr (fBM "list" appM (fVar 1) (fCons (fC (.str ")")) fNil))))))
    (sRet (fBM "str" joinM (fC (.str " ")) (fCons (fVar 1) fNil)))))
/-- a list of texts that stands at m, behind S -/
def Acc (S : Store) (m : Nat) (ls : List (List Str)) (S' : Store) : Prop := S.length ≤ m ∧ (∃ T, S' = S ++ T) ∧ S'[m]? = some (.lst ((ls.map Rk.txt).map D.str))
theorem Acc.addN {S S' : Store} {m : Nat} {ls : List (List Str)} (h : Acc S m ls S') (ms : List (List Str)) (hl : ls.length + ms.length ≤ 16777216) : addN (.ref m) (.lst ((ms.map Rk.txt).map D.str)) S' = .ok (.ref S'.length) (S' ++ [.lst (((ls ++ ms).map Rk.txt).map D.str)]) ∧ Acc S S'.length (ls ++ ms) (S' ++ [.lst (((ls ++ ms).map Rk.txt).map D.str)]) := by
  obtain ⟨h1, ⟨T, rfl⟩, h3⟩ := h
  refine ⟨?_, by simp, ⟨T ++ [.lst (((ls ++ ms).map Rk.txt).map D.str)], by simp⟩, by simp⟩
  have g : asX (S ++ T) (.ref m) = some ((ls.map Rk.txt).map D.str) := by
    show (match (S ++ T)[m]? with
      | some (C.lst xs) => some xs
      | _ => none) = _
    rw [h3]
  have g2 : asX (S ++ T) (.lst ((ms.map Rk.txt).map D.str)) = some ((ms.map Rk.txt).map D.str) := rfl
  unfold Rk.addN
  simp only [g, g2]
  rw [if_pos (by rw [line_eq]; simp only [List.length_map]; exact hl)]
  simp
theorem Acc.app {S S' : Store} {m : Nat} {ls : List (List Str)} (h : Acc S m ls S') (l : List Str) (hl : ls.length < 16777216) : ∃ S2, appM (.ref m) [.str (Rk.txt l)] S' = .ok .non S2 ∧ Acc S m (ls ++ [l]) S2 := by
  obtain ⟨h1, ⟨T, rfl⟩, h3⟩ := h
  have hm := (List.getElem?_eq_some_iff.mp h3).1
  refine ⟨(S ++ T).set m (.lst (((ls ++ [l]).map Rk.txt).map D.str)), ?_, h1, ⟨T.set (m - S.length) (.lst (((ls ++ [l]).map Rk.txt).map D.str)), ?_⟩, ?_⟩
  · unfold appM
    simp only [h3]
    rw [if_pos (by rw [line_eq]; simpa using hl)]
    simp
  · rw [List.set_append_right _ _ h1]
  · rw [List.getElem?_set_self hm]
theorem Acc.ty {S S' : Store} {m : Nat} {ls : List (List Str)} (h : Acc S m ls S') : tyM S' (.ref m) = "list" := by
  unfold tyM
  simp only [h.2.2]
end Rk

namespace Rk
open PySem L2 TL

theorem Acc.lst {S S' : Store} {m : Nat} {ls : List (List Str)} (h : Acc S m ls S') {A B : List D} {ms : List (List Str)} (e : A ++ B = ((ms.map Rk.txt).map D.str)) (hl : A.length + B.length ≤ 16777216) : Rk.addN (.lst A) (.lst B) S' = .ok (.ref S'.length) (S' ++ [.lst (A ++ B)]) ∧ Acc S S'.length ms (S' ++ [.lst (A ++ B)]) := by
  obtain ⟨h1, ⟨T, rfl⟩, h3⟩ := h
  refine ⟨?_, by simp, ⟨T ++ [.lst (A ++ B)], by simp⟩, ?_⟩
  · unfold Rk.addN
    simp only [show asX (S ++ T) (.lst A) = some A from rfl, show asX (S ++ T) (.lst B) = some B from rfl]
    rw [if_pos (by rw [line_eq]; exact hl)]
  · rw [e]; simp
theorem Acc.addD {S S' : Store} {m : Nat} {ls : List (List Str)} (h : Acc S m ls S') {B : List D} (hl : ls.length + B.length ≤ 16777216) : Rk.addD (.ref m) (.lst B) S' = .ok (.lst ((ls.map Rk.txt).map D.str ++ B)) S' := by
  obtain ⟨h1, h2, h3⟩ := h
  have g : asX S' (.ref m) = some ((ls.map Rk.txt).map D.str) := by
    show (match S'[m]? with
      | some (C.lst xs) => some xs
      | _ => none) = _
    rw [h3]
  show (match asX S' (.ref m), asX S' (.lst B) with
    | some a, some b => if a.length + b.length ≤ sizeLine then R.ok (D.lst (a ++ b)) S' else .bad
    | _, _ => .bad) = _
  rw [g, show asX S' (.lst B) = some B from rfl]
  simp only
  rw [if_pos (by rw [line_eq]; simp only [List.length_map]; exact hl)]
theorem Acc.join {S S' : Store} {m : Nat} {ls : List (List Str)} (h : Acc S m ls S') (hn : ∀ l ∈ ls, l ≠ []) (hg : ∀ t ∈ ls.flatten, Gt t) (hl : ls.flatten.length ≤ 1000000) : joinM (.str sp) [.ref m] S' = .ok (.str (Rk.txt ls.flatten)) S' := by
  have := join_txts (S := S') hn hg hl
  obtain ⟨h1, h2, h3⟩ := h
  have e : asSeq S' (.ref m) = asSeq S' (.lst ((ls.map Rk.txt).map D.str)) := by
    have : asSeq S' (.ref m) = some ((ls.map Rk.txt).map D.str) := by
      unfold asSeq asL
      simp only [h3]
    rw [this]
    rfl
  unfold joinM at this ⊢
  simp only [e] at this ⊢
  exact this
theorem flat_len {ls : List (List Str)} (h : ∀ l ∈ ls, l ≠ []) : ls.length ≤ ls.flatten.length := by
  induction ls with
  | nil => exact Nat.zero_le _
  | cons l r ih =>
    have := ih fun x hx => h x (List.mem_cons_of_mem _ hx)
    have h0 := List.length_pos_iff.mpr (h l List.mem_cons_self)
    simp only [List.length_cons, List.flatten_cons, List.length_append]
    omega
theorem lst1 {x : D} {S : Store} : lstK [x] S = .ok (.lst [x]) S := rfl
theorem tup0 {S : Store} : tupK [] S = .ok (.tup []) S := rfl
theorem mul1 {d : D} {S : Store} : mulD (.lst [d]) (.int 1) S = .ok (.lst [d]) S := by simp [mulD, asX]
theorem mul0 {d : D} {S : Store} : mulD (.lst [d]) (.int 0) S = .ok (.lst []) S := by simp [mulD, asX]
theorem lt_step {fm sw me : EvC} {k : Nat} (hf0 : FormsOK fm) (hw : ShowOK 4 sw) (hm : SScrOK k me) {d : D} {S : Store} {n : Nat} (hs : scn (k + 1) d = some n) (hl : wt d ≤ 1000000) :
    W (finR false S (ltB fm sw me [some d, none, none, none, none, none] S)) (fun x S' => x = .str (txt (tkS (k + 1) d)) ∧ S' = S) := by
  obtain ⟨hr, hlen⟩ := rd_scn (k + 1) n d hs
  obtain ⟨j, xs, hj, rfl, hn⟩ := scn_tup hs
  obtain rfl : k = j := by omega
  have hwx : 2 + wts xs ≤ 1000000 := hl
  have hlen : (tkDs (tkS k) xs).length = wts xs := hlen
  have hr : RdL (2 * (k + 1) + 3) (tkDs (tkS k) xs) xs := hr
  have et : tkS (k + 1) (.tup xs) = tkDs (tkS k) xs := rfl
  rw [et]
  simp [ltB, hf0 (S ++ [C.lst []])]
  refine forL_inv (fun ys ds S' => ∃ m ls a b c, ds = [some (.tup xs), some (.ref m), some (.dct FORMS), a, b, c] ∧ Acc S m ls S' ∧ ls.flatten ++ tkDs (tkS k) ys = tkDs (tkS k) xs ∧ (∀ l ∈ ls, l ≠ []) ∧ ∀ y ∈ ys, y ∈ xs) _
    ⟨S.length, [], none, none, none, rfl, ⟨Nat.le_refl _, ⟨_, rfl⟩, by simp⟩, rfl, (fun l h => by cases h), fun y h => h⟩ (fun x ys ds S' h => ?_) (fun ds S' h => ?_)
  · obtain ⟨m, ls, a, b, c, rfl, hA, hacc, hne, hall⟩ := h
    have hxx := hall x List.mem_cons_self
    obtain ⟨i, hi⟩ := dsN_mem hn x hxx
    have hwt := wt_mem hxx
    obtain ⟨w, f, ps, rfl, hf, hok, hpl, hps⟩ := dN_inv hi
    have hpl4 := okForm.len hok
    have e : tkD (tkS k) (.tup (.str w :: ps)) = Str.ofString "(" :: w :: (tkPs (tkS k) (f.cps.toList.zip ps) ++ [Str.ofString ")"]) := by simp only [tkD, hf]
    have hacc2 : (ls ++ [[Str.ofString "("], [w]]).flatten ++ tkPs (tkS k) (f.cps.toList.zip ps) ++ [Str.ofString ")"] ++ tkDs (tkS k) ys = tkDs (tkS k) xs := by
      rw [← hacc]
      show _ = ls.flatten ++ (tkD (tkS k) (.tup (.str w :: ps)) ++ tkDs (tkS k) ys)
      rw [e]
      simp
    have tot : ∀ (ls2 : List (List Str)) (r : List Str), (∀ l ∈ ls2, l ≠ []) → ls2.flatten ++ r = tkDs (tkS k) xs → ls2.length + r.length ≤ 1000000 := fun ls2 r h1 h2 => by
      have h3 := flat_len h1
      have h4 := congrArg List.length h2
      rw [List.length_append, hlen] at h4
      omega
    have t0 := tot ls _ hne hacc
    obtain ⟨ad, hA1⟩ := hA.addN [[Str.ofString "("], [w]] (by simp; omega)
    have hne1 : ∀ l ∈ ls ++ [[Str.ofString "("], [w]], l ≠ [] := fun l hl => by
      simp only [List.mem_append, List.mem_cons, List.not_mem_nil, or_false] at hl
      rcases hl with hl | rfl | rfl
      · exact hne l hl
      · simp
      · simp
    have eq2 : ([[Str.ofString "("], [w]].map txt).map D.str = [.str (Str.ofString "("), .str w] := by simp [txt_one]
    rw [eq2] at ad
    refine ⟨trivial, _, rfl, ?_⟩
    simp [-List.map_append, -List.map_map, ad, ix_dct hf, cut_lo (show (0 : Int) ≤ 1 by decide), zipK_lst hpl, zipK_tup hpl]
    generalize S' ++ [C.lst (((ls ++ [[Str.ofString "("], [w]]).map txt).map D.str)] = S1 at hA1 ⊢
    generalize S'.length = m1 at hA1 ⊢
    generalize ls ++ [[Str.ofString "("], [w]] = ls1 at hA1 hne1 hacc2
    refine forL_inv (fun zs ds S'' => ∃ l m ls c e, zs = pairsD l ∧ ds = [some (.tup xs), some (.ref m), some (.dct FORMS), some (.tup (.str w :: ps)), c, e] ∧ Acc S m ls S'' ∧ ls.flatten ++ tkPs (tkS k) l ++ [Str.ofString ")"] ++ tkDs (tkS k) ys = tkDs (tkS k) xs ∧ (∀ l ∈ ls, l ≠ []) ∧ ∀ q ∈ l, q ∈ f.cps.toList.zip ps) _
      ⟨_, m1, ls1, _, _, rfl, rfl, hA1, hacc2, hne1, fun q h => h⟩ (fun z zs ds S'' h => ?_) (fun ds S'' h => ?_)
    · obtain ⟨l, m, ls, c, e, hzs, rfl, hA, hacc, hne, hal⟩ := h
      cases l with
      | nil => cases hzs
      | cons q l =>
        obtain ⟨q1, q2⟩ := q
        have h1 : z = .tup [sg q1, q2] := by cases hzs; rfl
        have h2 : zs = pairsD l := by cases hzs; rfl
        subst h1 h2
        have hq := hal (q1, q2) List.mem_cons_self
        have hal' : ∀ q ∈ l, q ∈ f.cps.toList.zip ps := fun q h => hal q (List.mem_cons_of_mem _ h)
        obtain ⟨i2, hi2⟩ := psN_mem hps _ hq
        obtain ⟨rp, rl⟩ := rd_part hi2
        have hw2 := wt_mem (List.of_mem_zip hq).2
        have hwd : wt (.tup (.str w :: ps)) = 2 + (1 + wts ps) := rfl
        rw [tkPs_cons] at hacc
        have t1 := tot ls (tkP (tkS k) q1 q2 ++ tkPs (tkS k) l ++ [Str.ofString ")"] ++ tkDs (tkS k) ys) hne (by rw [← hacc]; simp)
        simp only [List.length_append, List.length_singleton] at t1
        refine ⟨trivial, _, rfl, ?_⟩
        by_cases c2 : (q1 = 83 ∨ q1 = 115) ∧ isNonD q2 = false
        · have ep : tkP (tkS k) q1 q2 = Str.ofString "[" :: (tkS k q2 ++ [Str.ofString "]"]) := if_pos c2
          have hs2 : scn k q2 = some i2 := by
            have := hi2
            unfold pN at this
            rw [if_neg (by rw [c2.2]; simp), if_pos c2.1] at this
            exact this
          obtain ⟨j2, rows, hj2, rfl, hn2⟩ := scn_tup hs2
          have hme := hm (.tup rows) S'' i2 hs2 (by omega)
          have g1 := hA.addD (B := [.str (Str.ofString "[")]) (by simp; omega)
          -- the middle: none where the script is empty
          obtain ⟨mid, bb, hmid, hb, hmf, hmn⟩ : ∃ (mid : List (List Str)) (b : Bool), mulD (.lst [.str (txt (tkS k (.tup rows)))]) (.int (if b then 1 else 0)) S'' = .ok (.lst ((mid.map txt).map D.str)) S'' ∧ b = !rows.isEmpty ∧ mid.flatten = tkS k (.tup rows) ∧ (∀ l ∈ mid, l ≠ []) ∧ mid.length ≤ 1 := by
            cases rows with
            | nil =>
              refine ⟨[], false, mul0, rfl, ?_, (fun l h => by cases h), by simp⟩
              subst hj2
              rfl
            | cons r rs =>
              refine ⟨[tkS k (.tup (r :: rs))], true, mul1, rfl, by simp, fun l h => ?_, by simp⟩
              rw [List.mem_singleton.mp h]
              subst hj2
              obtain ⟨i3, hi3⟩ := dsN_mem hn2 r List.mem_cons_self
              intro q
              have : tkD (tkS j2) r ++ tkDs (tkS j2) rs = [] := q
              exact (rd_deed hi3).1.ne (List.append_eq_nil_iff.mp this).1
          obtain ⟨hmn, hm1⟩ := hmn
          have hx1 : ls.length + 1 + mid.length ≤ 16777216 := by omega
          have hx2 : ls.length + 1 + mid.length + 1 ≤ 16777216 := by omega
          obtain ⟨g2, hA2⟩ := hA.lst (A := (ls.map txt).map D.str ++ [.str (Str.ofString "[")] ++ (mid.map txt).map D.str) (B := [.str (Str.ofString "]")]) (ms := ls ++ [[Str.ofString "["]] ++ mid ++ [[Str.ofString "]"]]) (by simp [txt_one]) (by simp; omega)
          have neq : neD (.tup rows) (.tup []) S'' = .ok (.bl bb) S'' := by rw [neD_tn, ← hb]
          have ht : (fTAnd (fB (fBin inD (fVar 4) (fC (.str "Ss")))) (fB (fBin isNotD (fVar 5) (fC .non)))) [some (.tup xs), some (.ref m), some (.dct FORMS), some (.tup (.str w :: ps)), some (sg q1), some (.tup rows)] S'' = .ok true S'' := by simp [in_Ss, c2.1]
          simp only [e_sif, List.set_cons_succ, List.set_cons_zero] at ht ⊢
          rw [ht]
          simp only [R.go_ok, k_sif, if_true]
          have hset : (fBin Rk.addN (fBin Rk.addD (fBin Rk.addD (fVar 1) (fLst (fCons (fC (.str "[")) fNil))) (fBin mulD (fLst (fCons (fCall me (fCons (fVar 5) fNil)) fNil)) (fCall intC (fCons (fBin neD (fVar 5) (fTup fNil)) fNil)))) (fLst (fCons (fC (.str "]")) fNil))) [some (.tup xs), some (.ref m), some (.dct FORMS), some (.tup (.str w :: ps)), some (sg q1), some (.tup rows)] S'' = .ok (.ref S''.length) (S'' ++ [.lst ((ls.map txt).map D.str ++ [.str (Str.ofString "[")] ++ (mid.map txt).map D.str ++ [.str (Str.ofString "]")])]) := by
            rw [← g2]
            have hx3 : ((ls.map txt).map D.str ++ [D.str (Str.ofString "[")]).length + ((mid.map txt).map D.str).length ≤ sizeLine := by rw [line_eq]; simp; omega
            simp only [e_bin, k_bin, e_var, e_lst, e_cons, e_c, k_cons, e_nil, k_consR, lst1, R.bind_ok, List.getElem?_cons_zero, List.getElem?_cons_succ]
            rw [g1]
            simp only [R.bind_ok, k_bin, e_bin, e_lst, e_cons, e_c, k_cons, e_nil, k_consR, lst1, e_call, e_var, e_tup, tup0, List.getElem?_cons_zero, List.getElem?_cons_succ, hme, neq, intC_bl, hmid, addD_lst]
            rw [if_pos hx3]
            simp only [R.bind_ok, k_bin, e_lst, e_cons, e_c, k_cons, e_nil, k_consR, lst1]
          simp only [e_set, hset, R.go_ok, k_set, WS_nx, List.set_cons_succ, List.set_cons_zero]
          refine ⟨l, _, _, _, _, rfl, rfl, hA2, ?_, fun z hz => ?_, hal'⟩
          · rw [← hacc, ep]
            simp [hmf]
          · simp only [List.mem_append, List.mem_singleton] at hz
            rcases hz with ((hz | rfl) | hz) | rfl
            · exact hne z hz
            · simp
            · exact hmn z hz
            · simp
        · have ep : tkP (tkS k) q1 q2 = tkw q2 := if_neg c2
          have hv : isV 4 q2 = true := by
            have hp := hi2
            unfold pN at hp
            split at hp
            · rename_i hc
              have := hc.2
              simp only at this
              cases q2 <;> first | rfl | cases this
            · split at hp
              · rename_i hc
                exact absurd ⟨hc, nonD_tupN hp⟩ c2
              · split at hp
                · rename_i hl; exact look_isV hl
                · cases hp
          have ht : (fTAnd (fB (fBin inD (fVar 4) (fC (.str "Ss")))) (fB (fBin isNotD (fVar 5) (fC .non)))) [some (.tup xs), some (.ref m), some (.dct FORMS), some (.tup (.str w :: ps)), some (sg q1), some q2] S'' = .ok false S'' := by
            by_cases c3 : q1 = 83 ∨ q1 = 115
            · have c4 : isNonD q2 = true := by
                cases h : isNonD q2 with
                | true => rfl
                | false => exact absurd ⟨c3, h⟩ c2
              simp [in_Ss, c3, c4]
            · simp [in_Ss, c3]
          obtain ⟨S3, ap, hA2⟩ := hA.app (tkw q2) (by omega)
          simp only [e_sif, List.set_cons_succ, List.set_cons_zero] at ht ⊢
          rw [ht]
          simp [hA.ty, hw q2 S'' hv, shS_txt hv, ap]
          refine ⟨l, rfl, _, hA2, ?_, ?_, fun a b h => hal' (a, b) h⟩
          · rw [← hacc, ep]
            simp
          · intro z hz
            rcases List.mem_append.mp hz with hz | hz
            · exact hne z hz
            · rw [List.mem_singleton.mp hz]; exact (rd_isV hv).ne
    · obtain ⟨l, m, ls, c, e, hzs, rfl, hA, hacc, hne, hal⟩ := h
      cases l with
      | cons q l => cases hzs
      | nil =>
        have t2 := tot ls _ hne (show ls.flatten ++ ([] ++ [Str.ofString ")"] ++ tkDs (tkS k) ys) = _ by rw [← hacc]; simp [tkPs])
        obtain ⟨S3, ap, hA2⟩ := hA.app [Str.ofString ")"] (by omega)
        rw [txt_one] at ap
        refine ⟨trivial, ?_⟩
        simp [hA.ty, ap]
        refine ⟨_, hA2, ?_, ?_, fun y h => hall y (List.mem_cons_of_mem _ h)⟩
        · rw [← hacc]
          simp [tkPs]
        · intro z hz
          rcases List.mem_append.mp hz with hz | hz
          · exact hne z hz
          · rw [List.mem_singleton.mp hz]; simp
  · obtain ⟨m, ls, a, b, c, rfl, hA, hacc, hne, hall⟩ := h
    refine ⟨trivial, ?_⟩
    rw [show tkDs (tkS k) [] = [] from rfl, List.append_nil] at hacc
    have jn := hA.join hne (fun t ht => hr.gt t (by rw [← hacc]; exact ht)) (by rw [hacc, hlen]; omega)
    rw [hacc] at jn
    obtain ⟨_, ⟨T, rfl⟩, _⟩ := hA
    simp only [sp] at jn
    simp [jn, fin_app (S := S) (T := T) (d := .str (txt (tkDs (tkS k) xs))) rfl]
theorem lt_ok {tab : Nat → FD} {g gf gw : Nat} {b : (Nat → EvC) → EvS} {n : Nat} (h : tab g = ⟨false, 6, 1, b⟩) (hb : ∀ c, b c = ltB (c gf) (c gw) (c g)) (hf : ∀ j, FormsOK (evC tab (j + n) gf)) (hw : ∀ j, ShowOK 4 (evC tab (j + n) gw)) : ∀ (k j : Nat), SScrOK k (evC tab (j + n + k) g) := by
  intro k
  induction k with
  | zero => intro j d S m hs; cases hs
  | succ k ih =>
    intro j d S m hs hl
    rw [show j + n + (k + 1) = (j + n + k) + 1 from rfl, ev_call h rfl, hb]
    have e : j + n + k = (j + k) + n := by omega
    refine R_of (lt_step ?_ ?_ (ih j) hs hl)
    · rw [e]; exact hf _
    · rw [e]; exact hw _
end Rk

namespace Rk
open PySem L2 TL

/-! ### what a word is as an atom -/
def figs : List Nat → List Nat
  | 45 :: r => r
  | l => l
def neg45 : List Nat → Bool
  | 45 :: _ => true
  | _ => false
def digB (c : Nat) : Bool := decide (48 ≤ c) && decide (c ≤ 57)
def isNum (l : List Nat) : Bool := decide (0 < l.length) && decide (l.length ≤ 10) && l.all digB
def numVal : List Nat → Int
  | 45 :: r => -((NumText.digitsVal r : Nat) : Int)
  | l => ((NumText.digitsVal l : Nat) : Int)
def atomOf (z : Str) : D := if isNum (figs (tl z)) = true then .int (numVal (tl z)) else if z = Str.ofString "-" then .non else .str z
theorem starts45 (z : Str) : Txt.startswith z (Str.ofString "-") = neg45 (tl z) := by
  obtain ⟨⟨l⟩⟩ := z
  have e : Str.ofString "-" = ⟨#[45]⟩ := by decide +kernel
  rw [e]
  cases l with
  | nil => rfl
  | cons a r =>
    show (decide (0 + 1 ≤ (a :: r).length) && ((a :: r).toArray.extract 0 (0 + 1) == #[45])) = _
    have h1 : ((a :: r).toArray.extract 0 (0 + 1)) = #[a] := by simp
    rw [h1]
    by_cases h : a = 45
    · subst h
      simp [neg45, tl]
    · have : neg45 (a :: r) = false := by
        unfold neg45
        split
        · rename_i q; simp at q; exact absurd q.1 h
        · rfl
      simp [tl, this, h]
theorem figs_len (l : List Nat) : (figs l).length ≤ l.length := by
  unfold figs
  split
  · simp
  · exact Nat.le_refl _
theorem cut1 (z : Str) : tl (cutS z (some 1) none) = (tl z).drop 1 := by
  unfold cutS
  rw [tl_mk]
  have e1 : HT.sIx z.length 0 (some 1) = min 1 z.length := rfl
  have e2 : HT.sIx z.length z.length none = z.length := rfl
  rw [e1, e2]
  have hl : z.cps.toList.length = z.length := by simp [Str.length]
  by_cases h : 1 ≤ z.length
  · rw [Nat.min_eq_left h, List.take_of_length_le (by rw [List.length_drop, hl]; exact Nat.le_refl _)]
    first | done | rfl
  · have : z.length = 0 := by omega
    rw [this]
    have h0 : z.cps.toList = [] := List.length_eq_zero_iff.mp (by omega)
    simp [tl, h0]
theorem figs_drop {z : Str} (h : neg45 (tl z) = true) : (tl z).drop 1 = figs (tl z) := by
  unfold neg45 at h
  split at h
  · rename_i r e
    rw [e]
    rfl
  · cases h
theorem figs_same {z : Str} (h : neg45 (tl z) = false) : figs (tl z) = tl z := by
  unfold neg45 at h
  split at h
  · cases h
  · rename_i h2
    unfold figs
    split
    · rename_i r e
      exact absurd e (h2 r)
    · rfl
theorem in_dig {c : Nat} {S : Store} : inD (.str ⟨#[c]⟩) (.str (Str.ofString "0123456789")) S = .ok (.bl (digB c)) S := by
  have e : (Str.ofString "0123456789").cps.toList = [48, 49, 50, 51, 52, 53, 54, 55, 56, 57] := by decide +kernel
  show R.ok (D.bl (decide (c ∈ (Str.ofString "0123456789").cps.toList))) S = _
  rw [e]
  congr 2
  unfold digB
  rw [← Bool.decide_and, decide_eq_decide]
  simp only [List.mem_cons, List.not_mem_nil, or_false]
  omega
theorem all_digB {l : List Nat} (h : l.all digB = true) : NumText.AllDigits l := fun c hc => by
  have := List.all_eq_true.mp h c hc
  simp only [digB, Bool.and_eq_true, decide_eq_true_eq] at this
  exact this
theorem num_text {z : Str} (h : isNum (figs (tl z)) = true) : PySem.intText? z = some (numVal (tl z)) ∧ z.length ≤ 11 := by
  simp only [isNum, Bool.and_eq_true, decide_eq_true_eq] at h
  obtain ⟨⟨h1, h2⟩, h3⟩ := h
  cases hn : neg45 (tl z) with
  | true =>
    obtain ⟨r, e⟩ : ∃ r, tl z = 45 :: r := by
      unfold neg45 at hn
      split at hn
      · exact ⟨_, by assumption⟩
      · cases hn
    have ef : figs (tl z) = r := by rw [e]; rfl
    rw [ef] at h1 h2 h3
    have hl : z.length ≤ 11 := by
      rw [len_tl, e, List.length_cons]
      omega
    have := intText_neg (x := z) (cs := r) e (all_digB h3) (by intro q; rw [q] at h1; exact absurd h1 (by simp)) (by omega)
    rw [e]
    exact ⟨this, hl⟩
  | false =>
    rw [figs_same hn] at h1 h2 h3
    have hl : z.length ≤ 11 := by rw [len_tl]; omega
    have := intText_digits (x := z) (all_digB h3) (by intro q; rw [show z.cps.toList = tl z from rfl] at q; rw [q] at h1; exact absurd h1 (by simp)) (by omega)
    refine ⟨?_, hl⟩
    rw [this]
    unfold numVal
    split
    · rename_i r e
      rw [e] at hn
      cases hn
    · rfl
theorem atom_lw {z : Str} (k : Nat) : (atomOf z).lw k = true := by
  unfold atomOf
  split
  · rfl
  · split <;> rfl
theorem allC_map {α : Type} {l : List α} {f : α → Bool} {S : Store} : allC [.lst (l.map fun x => D.bl (f x))] S = .ok (.bl (l.all f)) S := by
  have : ∀ l : List α, bools (l.map fun x => D.bl (f x)) = some (l.map f) := fun l => by
    induction l with
    | nil => rfl
    | cons x r ih => simp [bools, ih]
  have e : asL S (.lst (l.map fun x => D.bl (f x))) = some (l.map fun x => D.bl (f x)) := rfl
  unfold allC
  simp only [e, this]
  simp
noncomputable def atomB : EvS :=
  (sSeq (sSet 1 (fIf (fTru (fBM "str" stwM (fVar 0) (fCons (fC (.str "-")) fNil))) (fSl (fVar 0) (oSome (fC (.int 1))) oNone) (fVar 0)))
    (sSeq (sIf (fTAnd (fB (fChain ltD leD (fC (.int 0)) (fCall lenC (fCons (fVar 1) fNil)) (fC (.int 10)))) (fTru (fCall allC (fCons (fComp (iVal (fVar 1)) [2] (tgN 2) cYes (fBin inD (fVar 2) (fC (.str "0123456789")))) fNil)))) (sRet (fCall intS (fCons (fVar 0) fNil))) sNil)
    (sRet (fIf (fB (fBin eqD (fVar 0) (fC (.str "-")))) (fC .non) (fVar 0)))))
def AtomOK (f : EvC) : Prop := ∀ (z : Str) (S : Store), z.length ≤ 16000000 → f [.str z] S = .ok (atomOf z) S
theorem stw_str {a b : Str} {S : Store} : stwM (.str a) [.str b] S = .ok (.bl (Txt.startswith a b)) S := rfl
theorem atom_step {z : Str} {S : Store} {keep : Bool} (hz : z.length ≤ 16000000) : W (finR keep S (atomB [some (.str z), none, none] S)) (fun x S' => x = atomOf z ∧ S' = S) := by
  -- the figures
  obtain ⟨g, hg, hgl⟩ : ∃ g : Str, (fIf (fTru (fBM "str" stwM (fVar 0) (fCons (fC (.str "-")) fNil))) (fSl (fVar 0) (oSome (fC (.int 1))) oNone) (fVar 0)) [some (.str z), none, none] S = .ok (.str g) S ∧ tl g = figs (tl z) := by
    cases hn : neg45 (tl z) with
    | true =>
      refine ⟨cutS z (some 1) none, ?_, by rw [cut1, figs_drop hn]⟩
      simp [stw_str, starts45, hn, slD_str (show z.length ≤ 16777216 by omega)]
    | false =>
      refine ⟨z, ?_, (figs_same hn).symm⟩
      simp [stw_str, starts45, hn]
  have gl : g.length = (figs (tl z)).length := by rw [len_tl, hgl]
  have gl2 := figs_len (tl z)
  rw [← len_tl] at gl2
  have key : (fTAnd (fB (fChain ltD leD (fC (.int 0)) (fCall lenC (fCons (fVar 1) fNil)) (fC (.int 10)))) (fTru (fCall allC (fCons (fComp (iVal (fVar 1)) [2] (tgN 2) cYes (fBin inD (fVar 2) (fC (.str "0123456789")))) fNil)))) [some (.str z), some (.str g), none] S = .ok (isNum (figs (tl z))) S := by
    have hc : compK [2] (tgN 2) cYes (fBin inD (fVar 2) (fC (.str (Str.ofString "0123456789")))) [some (.str z), some (.str g), none] (signs g, gT) S = .ok (.lst ((tl g).map fun c => .bl (digB c))) S := by
      have h1 := compL_map (t := tgN 2) (el := fBin inD (fVar 2) (fC (.str (Str.ofString "0123456789")))) (ds := wipeD [some (.str z), some (.str g), none] [2]) (S := S) (fun c : Nat => D.str ⟨#[c]⟩) (fun c => .bl (digB c)) (l := tl g) (fun c _ => ⟨_, rfl, by simp [in_dig]⟩)
      exact compK_ok (by rw [signs_len, line_eq]; omega) h1
    have hn : isNum (figs (tl z)) = (decide (0 < g.length) && decide (g.length ≤ 10) && (tl g).all digB) := by rw [isNum, ← hgl, ← len_tl]
    rw [hn]
    by_cases h1 : 0 < g.length
    · by_cases h2 : g.length ≤ 10
      · have h3 : (g.length : Int) ≤ 10 := by omega
        simp [lenC_str (show g.length ≤ 16777216 by omega), hc, allC_map, h1, h2, h3]
      · have h3 : ¬ (g.length : Int) ≤ 10 := by omega
        simp [lenC_str (show g.length ≤ 16777216 by omega), h1, h2, h3]
    · simp [lenC_str (show g.length ≤ 16777216 by omega), h1]
  have fl : fin keep S (atomOf z) S = .ok (atomOf z) S := fin_same (atom_lw _)
  simp only [atomB, e_seq, e_set, hg, R.go_ok, k_set, RS.then_nx, e_sif, List.set_cons_succ, List.set_cons_zero]
  simp only [sSeq, e_sif, key, R.go_ok, k_sif]
  cases hb : isNum (figs (tl z)) with
  | true =>
    obtain ⟨n1, n2⟩ := num_text hb
    have e : atomOf z = .int (numVal (tl z)) := by unfold atomOf; rw [if_pos hb]
    have ei : intS [.str z] S = .ok (.int (numVal (tl z))) S := by
      show (match PySem.intText? z with
        | some n => if z.length ≤ 640 then R.ok (D.int n) S else .bad
        | none => .bad) = _
      rw [n1]
      exact if_pos (by omega)
    rw [e] at fl ⊢
    simp [ei, fl]
  | false =>
    by_cases hz2 : z = Str.ofString "-"
    · have e : atomOf z = .non := by unfold atomOf; rw [if_neg (by rw [hb]; simp), if_pos hz2]
      rw [e] at fl ⊢
      simp [hz2]
    · have e : atomOf z = .str z := by unfold atomOf; rw [if_neg (by rw [hb]; simp), if_neg hz2]
      rw [e] at fl ⊢
      simp [hz2, fl]
theorem atom_ok {tab : Nat → FD} {g k : Nat} {b : (Nat → EvC) → EvS} (h : tab g = ⟨false, 3, 1, b⟩) (hb : b (evC tab k) = atomB) : AtomOK (evC tab (k + 1) g) := by
  intro z S hz
  rw [ev_call h rfl, hb]
  exact R_of (atom_step hz)
/-- what is written as an atom is read as one -/
theorem Atm.of {z : Str} {d : D} (h : Atm z d) : atomOf z = d := by
  cases h with
  | wd _ h =>
    obtain ⟨c, r, e⟩ : ∃ c r, tl z = c :: r := by
      cases e : tl z with
      | nil => have := h.pos; rw [len_tl, e] at this; exact absurd this (by simp)
      | cons c r => exact ⟨c, r, rfl⟩
    have hc := h.all c (by rw [show z.cps.toList = tl z from rfl, e]; simp)
    have hf : figs (tl z) = tl z := by
      unfold figs
      split
      · rename_i q; rw [e] at q; simp at q; omega
      · rfl
    have hn : isNum (figs (tl z)) = false := by
      rw [hf, e]
      have : digB c = false := by unfold digB; simp; omega
      simp [isNum, this]
    unfold atomOf
    rw [if_neg (by rw [hn]; simp), if_neg]
    intro q
    rw [q, mi_tl] at e
    simp at e
    omega
  | int i h1 h2 =>
    have hl := numZ_len h1 h2
    cases i with
    | ofNat n =>
      have hz : tl (Str.ofString (toString (Int.ofNat n))) = numL n := numZ_pos n
      have hd : NumText.AllDigits (numL n) := numL_digits n
      have hne := numL_ne n
      have hf : figs (numL n) = numL n := by
        unfold figs
        split
        · rename_i q; have := hd 45 (by rw [q]; simp); omega
        · rfl
      have hlen : (numL n).length ≤ 10 := numL_len (by omega) (by
        have : (n : Int) ≤ 1000000000 := h2
        omega)
      have hn : isNum (figs (numL n)) = true := by
        rw [hf]
        simp only [isNum, Bool.and_eq_true, decide_eq_true_eq, List.all_eq_true]
        refine ⟨⟨List.length_pos_iff.mpr hne, hlen⟩, fun c hc => ?_⟩
        have := hd c hc
        unfold digB
        simp
        omega
      have hv : numVal (numL n) = (n : Int) := by
        unfold numVal
        split
        · rename_i q; rw [‹numL n = _›] at hd; have := hd 45 (by simp); omega
        · rw [numL_val]
      unfold atomOf
      rw [hz, if_pos hn, hv]
      rfl
    | negSucc n =>
      have hz : tl (Str.ofString (toString (Int.negSucc n))) = 45 :: numL (n + 1) := numZ_neg n
      have hd : NumText.AllDigits (numL (n + 1)) := numL_digits (n + 1)
      have hlen : (numL (n + 1)).length ≤ 10 := numL_len (by omega) (by
        have : -1000000000 ≤ Int.negSucc n := h1
        omega)
      have hn : isNum (figs (45 :: numL (n + 1))) = true := by
        show isNum (numL (n + 1)) = true
        simp only [isNum, Bool.and_eq_true, decide_eq_true_eq, List.all_eq_true]
        refine ⟨⟨List.length_pos_iff.mpr (numL_ne _), hlen⟩, fun c hc => ?_⟩
        have := hd c hc
        unfold digB
        simp
        omega
      have hv : numVal (45 :: numL (n + 1)) = Int.negSucc n := by
        show -((NumText.digitsVal (numL (n + 1)) : Nat) : Int) = _
        rw [numL_val]
        omega
      unfold atomOf
      rw [hz, if_pos hn, hv]
  | non =>
    unfold atomOf
    rw [if_neg (by decide +kernel), if_pos rfl]
end Rk

namespace Rk
open PySem L2 TL

/-! ### reckoning with instances -/
section
variable {S : Store} {ds : Env} {a b : EvE} {g : EvA} {x y : D}
def fldK (L : List Nat) (f : Str) : D → Store → R D := fun x S1 => match x with
  | .ref n => match S1[n]? with
    | some (.ins c fs) => if c ∈ L then (match fs.lookup f with
      | some d => .ok d S1
      | none => .bad) else .bad
    | _ => .bad
  | _ => .bad
@[simp] theorem e_fld {L : List Nat} {f : Str} : fFld L f a ds S = (a ds S).bind (fldK L f) := rfl
theorem fld_ok {L : List Nat} {f : Str} {n c : Nat} {fs : List (Str × D)} {d : D} (h : S[n]? = some (.ins c fs)) (hc : c ∈ L) (hf : fs.lookup f = some d) : fldK L f (.ref n) S = .ok d S := by
  unfold fldK
  simp only [h]
  rw [if_pos hc, hf]
def recK (m : EvC) (x : D) : List D → Store → R D := fun xs S2 => m (x :: xs) S2
@[simp] theorem k_rec {m : EvC} {xs : List D} : recK m x xs S = m (x :: xs) S := rfl
def methK (c : Nat) (mn : Str) (m : EvC) (g : EvA) (ds : Env) : D → Store → R D := fun x S1 => match x with
  | .ref n => match S1[n]? with
    | some (.ins c' fs) => if c' = c ∧ fs.lookup mn = none then (g ds S1).bind (recK m x) else .bad
    | _ => .bad
  | _ => .bad
@[simp] theorem e_meth {c : Nat} {mn : Str} {m : EvC} : fMeth c mn m a g ds S = (a ds S).bind (methK c mn m g ds) := rfl
theorem meth_ok {c n : Nat} {mn : Str} {m : EvC} {fs : List (Str × D)} (h : S[n]? = some (.ins c fs)) (hf : fs.lookup mn = none) : methK c mn m g ds (.ref n) S = (g ds S).bind (recK m (.ref n)) := by
  unfold methK
  simp only [h]
  rw [if_pos ⟨trivial, hf⟩]
def makK2 (n : Nat) : D → Store → R D := fun d S2 => if isNonD d = true then .ok (.ref n) S2 else .bad
def makK (c : Nat) (m : EvC) : List D → Store → R D := fun xs S1 => (m (.ref S1.length :: xs) (S1 ++ [.ins c []])).bind (makK2 S1.length)
@[simp] theorem e_make {c : Nat} {m : EvC} : fMake c m g ds S = (g ds S).bind (makK c m) := rfl
@[simp] theorem k_make {c : Nat} {m : EvC} {xs : List D} : makK c m xs S = (m (.ref S.length :: xs) (S ++ [.ins c []])).bind (makK2 S.length) := rfl
@[simp] theorem k_mak2 {n : Nat} : makK2 n .non S = .ok (.ref n) S := rfl
def fS2 (L : List Nat) (f : Str) (ds : Env) (y : D) : D → Store → RS := fun x S2 => match x with
  | .ref n => match S2[n]? with
    | some (.ins c fs) => if c ∈ L ∧ fs.length < 1000 then .nx ds (S2.set n (.ins c (putFD f y fs))) else .bad
    | _ => .bad
  | _ => .bad
def fS1 (L : List Nat) (f : Str) (o : EvE) (ds : Env) : D → Store → RS := fun y S1 => (o ds S1).go (fS2 L f ds y)
@[simp] theorem e_fldS {L : List Nat} {f : Str} : sFldS L f a b ds S = (b ds S).go (fS1 L f a ds) := rfl
@[simp] theorem k_fS1 {L : List Nat} {f : Str} : fS1 L f a ds y S = (a ds S).go (fS2 L f ds y) := rfl
theorem fS2_ok {L : List Nat} {f : Str} {n c : Nat} {fs : List (Str × D)} (h : S[n]? = some (.ins c fs)) (hc : c ∈ L) (hl : fs.length < 1000) : fS2 L f ds y (.ref n) S = .nx ds (S.set n (.ins c (putFD f y fs))) := by
  unfold fS2
  simp only [h]
  rw [if_pos ⟨hc, hl⟩]
def fA2 (n c : Nat) (f : Str) (i : Int) (ds : Env) : D → Store → RS := fun y S2 => match y, S2[n]? with
  | .int j, some (.ins c' fs') => if c' = c ∧ fs'.length < 1000 then .nx ds (S2.set n (.ins c (putFD f (.int (i + j)) fs'))) else .bad
  | _, _ => .bad
def fA1 (L : List Nat) (f : Str) (v : EvE) (ds : Env) : D → Store → RS := fun x S1 => match x with
  | .ref n => match S1[n]? with
    | some (.ins c fs) => if c ∈ L then (match fs.lookup f with
      | some (.int i) => (v ds S1).go (fA2 n c f i ds)
      | _ => .bad) else .bad
    | _ => .bad
  | _ => .bad
@[simp] theorem e_fldAdd {L : List Nat} {f : Str} : sFldAdd L f a b ds S = (a ds S).go (fA1 L f b ds) := by
  unfold sFldAdd fA1 fA2
  rfl
theorem fA1_ok {L : List Nat} {f : Str} {n c : Nat} {fs : List (Str × D)} {i j : Int} (h : S[n]? = some (.ins c fs)) (hc : c ∈ L) (hl : fs.length < 1000) (hf : fs.lookup f = some (.int i)) (hv : b ds S = .ok (.int j) S) : fA1 L f b ds (.ref n) S = .nx ds (S.set n (.ins c (putFD f (.int (i + j)) fs))) := by
  unfold fA1
  simp only [h]
  rw [if_pos hc, hf]
  simp only [hv, R.go_ok]
  unfold fA2
  simp only [h]
  rw [if_pos ⟨trivial, hl⟩]
end
/-- a while that goes so often -/
theorem while_done {c : EvT} {body : EvS} {n : Nat} {ds : Env} {S S1 : Store} (h : c ds S = .ok false S1) : whileN c body (n + 1) ds S = .nx ds S1 := by
  unfold whileN
  rw [h]
  rfl
theorem while_turn {c : EvT} {body : EvS} {n : Nat} {ds ds2 : Env} {S S1 S2 : Store} (h : c ds S = .ok true S1) (hb : body ds S1 = .nx ds2 S2) : whileN c body (n + 1) ds S = whileN c body n ds2 S2 := by
  rw [whileN.eq_def]
  simp only [h, R.go_ok, if_true, hb]

theorem lk_hd {k : Str} {v : D} {r : List (Str × D)} : List.lookup k ((k, v) :: r) = some v := by simp [List.lookup_cons]
theorem lk_tl {k k' : Str} {v : D} {r : List (Str × D)} (h : (k == k') = false) : List.lookup k ((k', v) :: r) = List.lookup k r := by simp [List.lookup_cons, h]
theorem pf_hd {k : Str} {v x : D} {r : List (Str × D)} : putFD k v ((k, x) :: r) = (k, v) :: r := if_pos rfl
theorem pf_tl {k k' : Str} {v x : D} {r : List (Str × D)} (h : ¬ k' = k) : putFD k v ((k', x) :: r) = (k', x) :: putFD k v r := if_neg h

/-! ### words that are read one by one -/
def wordsC (ci : Nat) (row : List Str) (at_ : Nat) : C := .ins ci [(Str.ofString "row", .lst (row.map D.str)), (Str.ofString "at", .int at_)]
theorem at_row : (Str.ofString "at" == Str.ofString "row") = false := by decide +kernel
theorem row_at : ¬ Str.ofString "row" = Str.ofString "at" := by decide +kernel
section
variable {S : Store} {n ci i : Nat} {row : List Str} {ds : Env} {g : EvA}
theorem fl_row (h : S[n]? = some (wordsC ci row i)) : fldK [ci] (Str.ofString "row") (.ref n) S = .ok (.lst (row.map D.str)) S := fld_ok h (by simp) lk_hd
theorem fl_at (h : S[n]? = some (wordsC ci row i)) : fldK [ci] (Str.ofString "at") (.ref n) S = .ok (.int i) S := fld_ok h (by simp) (by rw [lk_tl at_row, lk_hd])
theorem wd_meth {mn : Str} {m : EvC} (h : S[n]? = some (wordsC ci row i)) (h1 : (mn == Str.ofString "row") = false) (h2 : (mn == Str.ofString "at") = false) : methK ci mn m g ds (.ref n) S = (g ds S).bind (recK m (.ref n)) := meth_ok h (by rw [lk_tl h1, lk_tl h2]; rfl)
theorem at_add {b : EvE} (h : S[n]? = some (wordsC ci row i)) (hv : b ds S = .ok (.int 1) S) : fA1 [ci] (Str.ofString "at") b ds (.ref n) S = .nx ds (S.set n (wordsC ci row (i + 1))) := by
  rw [fA1_ok h (by simp) (by simp) (by rw [lk_tl at_row, lk_hd]) hv, pf_tl row_at, pf_hd]
  rfl
theorem wordsC_lw (k : Nat) : (wordsC ci row i).lw k = true := by
  show Ds.lw k [.lst (row.map D.str), .int i] = true
  have := strs_lw (k := k) row
  show (Ds.lw k (row.map D.str) && (D.lw k (.int i) && true)) = true
  rw [this]
  rfl
end
noncomputable def initB (ci : Nat) : EvS :=
  (sSeq (sFldS [ci] (Str.ofString "row") (fVar 0) (fBM "str" splM (fVar 1) (fCons (fC (.str (Str.ofString " "))) fNil)))
    (sFldS [ci] (Str.ofString "at") (fVar 0) (fC (.int 0))))
noncomputable def overB (ci : Nat) : EvS := (sRet (fBin eqD (fFld [ci] (Str.ofString "at") (fVar 0)) (fCall lenC (fCons (fFld [ci] (Str.ofString "row") (fVar 0)) fNil))))
noncomputable def nextB (ci : Nat) (rz : EvS) (ov : EvC) : EvS :=
  (sSeq (sIf (fTru (fMeth ci (Str.ofString "is_over") ov (fVar 0) fNil)) rz sNil)
    (sSeq (sFldAdd [ci] (Str.ofString "at") (fVar 0) (fC (.int 1)))
    (sRet (fBin ixD (fFld [ci] (Str.ofString "row") (fVar 0)) (fBin subD (fFld [ci] (Str.ofString "at") (fVar 0)) (fC (.int 1)))))))
noncomputable def brB (ci : Nat) (EN : D) (rz : EvS) (nw : Nat) (ov nx at_ me : EvC) : EvS :=
  (sSeq (sSet 2 (fMeth ci (Str.ofString "next_word") nx (fVar 0) fNil))
    (sSeq (sIf (fB (fBin notInD (fVar 2) (fC EN))) (sRet (fCall at_ (fCons (fVar 2) fNil))) sNil)
    (sSeq (sIf (fB (fBin eqD (fVar 1) (fC (.int 0)))) rz sNil)
    (sSeq (sSet 3 (fNew fNil))
    (sSeq (sWhile nw (fTAnd (fTNot (fTru (fMeth ci (Str.ofString "is_over") ov (fVar 0) fNil))) (fB (fBin neD (fBin ixD (fFld [ci] (Str.ofString "row") (fVar 0)) (fFld [ci] (Str.ofString "at") (fVar 0))) (fBin ixD (fC EN) (fVar 2))))) (sExpr (fBM "list" appM (fVar 3) (fCons (fMeth ci (Str.ofString "bracketed") me (fVar 0) (fCons (fBin subD (fVar 1) (fC (.int 1))) fNil)) fNil))))
    (sSeq (sExpr (fMeth ci (Str.ofString "next_word") nx (fVar 0) fNil))
    (sRet (fCall tupleC (fCons (fVar 3) fNil)))))))))
noncomputable def readB (ci : Nat) (rz : EvS) (nw : Nat) (ini ov me iss shs : EvC) : EvS :=
  (sSeq (sIf (fTNot (fTru (fCall isiC (fCons (fVar 0) (fCons (fC (.ty "str")) fNil))))) rz sNil)
    (sSeq (sSet 1 (fMake ci ini (fCons (fVar 0) fNil)))
    (sSeq (sSet 2 (fNew fNil))
    (sSeq (sWhile nw (fTAnd (fB (fBin neD (fVar 0) (fC (.str (Str.ofString ""))))) (fTNot (fTru (fMeth ci (Str.ofString "is_over") ov (fVar 1) fNil)))) (sExpr (fBM "list" appM (fVar 2) (fCons (fMeth ci (Str.ofString "bracketed") me (fVar 1) (fCons (fC (.int 13)) fNil)) fNil))))
    (sSeq (sSet 3 (fCall tupleC (fCons (fVar 2) fNil)))
    (sSeq (sIf (fTOr (fTNot (fTru (fCall iss (fCons (fVar 3) fNil)))) (fB (fBin neD (fCall shs (fCons (fVar 3) fNil)) (fVar 0)))) rz sNil)
    (sRet (fVar 3))))))))
def OverOK (ci : Nat) (f : EvC) : Prop := ∀ (S : Store) (n i : Nat) (row : List Str), S[n]? = some (wordsC ci row i) → f [.ref n] S = .ok (.bl (decide (i = row.length))) S
def NextOK (ci : Nat) (f : EvC) : Prop := ∀ (S : Store) (n i : Nat) (row : List Str) (z : Str), S[n]? = some (wordsC ci row i) → row[i]? = some z → f [.ref n] S = .ok (.str z) (S.set n (wordsC ci row (i + 1)))
theorem over_ok {tab : Nat → FD} {g k ci : Nat} {b : (Nat → EvC) → EvS} (h : tab g = ⟨false, 1, 1, b⟩) (hb : b (evC tab k) = overB ci) : OverOK ci (evC tab (k + 1) g) := by
  intro S n i row hn
  rw [ev_call h rfl, hb]
  have e : eqD (.int i) (.int ((row.map D.str).length : Nat)) S = .ok (.bl (decide (i = row.length))) S := by
    rw [eqD_int]
    congr 2
    rw [decide_eq_decide, List.length_map]
    omega
  have e2 : lenC [.lst (row.map D.str)] S = .ok (.int ((row.map D.str).length : Nat)) S := rfl
  simp only [overB, e_ret, e_bin, e_fld, e_var, List.map_cons, List.map_nil, List.cons_append, List.nil_append, List.getElem?_cons_zero, R.bind_ok, fl_at hn, k_bin, e_call, e_cons, fl_row hn, k_cons, e_nil, k_consR, e2, e, R.go_ok, k_ret, fin_rt]
  exact fin_same rfl
theorem ixL_str {row : List Str} {i : Nat} {z : Str} {S : Store} (h : row[i]? = some z) : ixD (.lst (row.map D.str)) (.int i) S = .ok (.str z) S := by
  refine ix_lst ?_
  have hl := (List.getElem?_eq_some_iff.mp h).1
  have : (row.map D.str)[i]? = some (.str z) := by rw [List.getElem?_map, h]; rfl
  have h2 := atI_ok (xs := row.map D.str) (i := (i : Int)) (by omega) (by rw [List.length_map]; omega)
  rw [h2]
  rw [List.getElem?_eq_getElem (by rw [List.length_map]; exact hl)] at this
  exact this
theorem next_ok {tab : Nat → FD} {g k ci : Nat} {b : (Nat → EvC) → EvS} {rz : EvS} {ov : EvC} (h : tab g = ⟨false, 1, 1, b⟩) (hb : b (evC tab k) = nextB ci rz ov) (ho : OverOK ci ov) : NextOK ci (evC tab (k + 1) g) := by
  intro S n i row z hn hz
  have hl := (List.getElem?_eq_some_iff.mp hz).1
  have hnl := (List.getElem?_eq_some_iff.mp hn).1
  have h1 : (S.set n (wordsC ci row (i + 1)))[n]? = some (wordsC ci row (i + 1)) := List.getElem?_set_self hnl
  have e1 : ((i + 1 : Nat) : Int) - 1 = (i : Int) := by omega
  rw [ev_call h rfl, hb]
  have e2 := ixL_str (S := S.set n (wordsC ci row (i + 1))) hz
  simp only [nextB, e_seq, e_sif, e_tru, e_meth, e_var, List.map_cons, List.map_nil, List.cons_append, List.nil_append, List.getElem?_cons_zero, R.bind_ok, wd_meth hn (show (Str.ofString "is_over" == Str.ofString "row") = false from by decide +kernel) (show (Str.ofString "is_over" == Str.ofString "at") = false from by decide +kernel), e_nil, k_rec, ho S n i row hn, truR_bl, R.go_ok, k_sif, decide_eq_false (show ¬ i = row.length from by omega), Bool.false_eq_true, if_false, e_snil, RS.then_nx]
  simp only [sSeq, e_fldAdd, e_var, List.getElem?_cons_zero, R.go_ok, at_add hn (show fC (.int 1) _ S = .ok (.int 1) S from rfl), RS.then_nx, e_ret, e_bin, e_fld, R.bind_ok, fl_row h1, k_bin, fl_at h1, e_c, subD_int, e1, e2, k_ret, fin_rt]
  exact fin_set rfl (wordsC_lw _)
/-! ### brackets -/
def ENDS : List (Key × D) := [(.inr (Str.ofString "("), .str (Str.ofString ")")), (.inr (Str.ofString "["), .str (Str.ofString "]")), (.inr (Str.ofString "<"), .str (Str.ofString ">"))]
theorem ends_val (z : Str) : valD ENDS (.inr z) = if Str.ofString "(" = z then some (.str (Str.ofString ")")) else if Str.ofString "[" = z then some (.str (Str.ofString "]")) else if Str.ofString "<" = z then some (.str (Str.ofString ">")) else none := by
  simp only [ENDS, valD, Sum.inr.injEq]
theorem notIn_ends {z : Str} {S : Store} : notInD (.str z) (.kd ENDS) S = .ok (.bl (!(valD ENDS (.inr z)).isSome)) S := by
  have e : inB S (.str z) (.kd ENDS) = some (valD ENDS (.inr z)).isSome := rfl
  unfold notInD
  rw [e]
theorem clo_val {o c : Str} (h : Clo o c) : valD ENDS (.inr o) = some (.str c) := by
  rw [ends_val]
  rcases h with ⟨rfl, rfl⟩ | ⟨rfl, rfl⟩ | ⟨rfl, rfl⟩
  · rw [if_pos rfl]
  · rw [if_neg (by decide +kernel), if_pos rfl]
  · rw [if_neg (by decide +kernel), if_neg (by decide +kernel), if_pos rfl]
theorem ix_ends {o c : Str} {S : Store} (h : valD ENDS (.inr o) = some (.str c)) : ixD (.kd ENDS) (.str o) S = .ok (.str c) S := by
  simp [ixD, h]
theorem atm_brk {z : Str} {d : D} (h : Atm z d) : z ∉ brk := by
  intro q
  have hb : ∀ t ∈ brk, ∃ c, tl t = [c] ∧ (c = 40 ∨ c = 91 ∨ c = 60 ∨ c = 41 ∨ c = 93 ∨ c = 62) := by
    intro t ht
    simp only [brk, List.mem_cons, List.not_mem_nil, or_false] at ht
    rcases ht with rfl | rfl | rfl | rfl | rfl | rfl
    · exact ⟨40, by decide +kernel, by omega⟩
    · exact ⟨91, by decide +kernel, by omega⟩
    · exact ⟨60, by decide +kernel, by omega⟩
    · exact ⟨41, by decide +kernel, by omega⟩
    · exact ⟨93, by decide +kernel, by omega⟩
    · exact ⟨62, by decide +kernel, by omega⟩
  obtain ⟨c, e, hc⟩ := hb z q
  cases h with
  | wd _ h =>
    have := h.all c (by rw [show z.cps.toList = tl z from rfl, e]; simp)
    omega
  | int i h1 h2 =>
    rw [tl_int] at e
    have := numZ_mem (i := i) (c := c) (by rw [e]; simp)
    omega
  | non =>
    rw [mi_tl] at e
    simp at e
    omega
theorem atm_ends {z : Str} {d : D} (h : Atm z d) : valD ENDS (.inr z) = none := by
  have := atm_brk h
  simp only [brk, List.mem_cons, List.not_mem_nil, or_false, not_or] at this
  rw [ends_val, if_neg (Ne.symm this.1), if_neg (Ne.symm this.2.1), if_neg (Ne.symm this.2.2.1)]
/-- the first word of a thing closes nothing -/
theorem Rd.head {k : Nat} {ts : List Str} {d : D} (h : Rd k ts d) : ∃ t r, ts = t :: r ∧ t ≠ Str.ofString ")" ∧ t ≠ Str.ofString "]" ∧ t ≠ Str.ofString ">" := by
  have A : ∀ z d, Atm z d → z ≠ Str.ofString ")" ∧ z ≠ Str.ofString "]" ∧ z ≠ Str.ofString ">" := fun z d h => by
    have := atm_brk h
    simp only [brk, List.mem_cons, List.not_mem_nil, or_false, not_or] at this
    exact ⟨this.2.2.2.1, this.2.2.2.2.1, this.2.2.2.2.2⟩
  cases k with
  | zero =>
    obtain ⟨z, rfl, h⟩ := h
    exact ⟨z, [], rfl, A z d h⟩
  | succ k =>
    rcases h with ⟨z, rfl, h⟩ | ⟨o, c, l, h1, rfl, _⟩
    · exact ⟨z, [], rfl, A z d h⟩
    · refine ⟨o, _, rfl, ?_⟩
      rcases h1 with ⟨rfl, _⟩ | ⟨rfl, _⟩ | ⟨rfl, _⟩ <;> exact ⟨by decide +kernel, by decide +kernel, by decide +kernel⟩
theorem Rd.pu : ∀ {k : Nat} {ts : List Str} {d : D}, Rd k ts d → Pu d
  | 0, _, _, ⟨z, _, h⟩ => by cases h <;> rfl
  | k + 1, _, _, .inl ⟨z, _, h⟩ => by cases h <;> rfl
  | k + 1, _, _, .inr ⟨o, c, l, h1, h2, h3, h4⟩ => by
    subst h3
    refine pu_tup.mpr fun d hd => ?_
    obtain ⟨q, hq, rfl⟩ := List.mem_map.mp hd
    exact (h4 q hq).pu
def BrOK (ci k : Nat) (f : EvC) : Prop := ∀ (S : Store) (n : Nat) (row pre post ts : List Str) (d : D), row = pre ++ (ts ++ post) → row.length ≤ 900000 → Rd k ts d → S[n]? = some (wordsC ci row pre.length) → f [.ref n, .int k] S = .ok d (S.set n (wordsC ci row (pre.length + ts.length)))
end Rk

namespace Rk
open PySem L2 TL

theorem m_over : (Str.ofString "is_over" == Str.ofString "row") = false ∧ (Str.ofString "is_over" == Str.ofString "at") = false := by decide +kernel
theorem m_next : (Str.ofString "next_word" == Str.ofString "row") = false ∧ (Str.ofString "next_word" == Str.ofString "at") = false := by decide +kernel
theorem m_brkt : (Str.ofString "bracketed" == Str.ofString "row") = false ∧ (Str.ofString "bracketed" == Str.ofString "at") = false := by decide +kernel
section
variable {ci n : Nat} {row : List Str} {S : Store} {ds : Env} {g : EvA} {m : EvC} {i : Nat}
theorem c_over (h : S[n]? = some (wordsC ci row i)) : methK ci (Str.ofString "is_over") m g ds (.ref n) S = (g ds S).bind (recK m (.ref n)) := wd_meth h m_over.1 m_over.2
theorem c_next (h : S[n]? = some (wordsC ci row i)) : methK ci (Str.ofString "next_word") m g ds (.ref n) S = (g ds S).bind (recK m (.ref n)) := wd_meth h m_next.1 m_next.2
theorem c_brkt (h : S[n]? = some (wordsC ci row i)) : methK ci (Str.ofString "bracketed") m g ds (.ref n) S = (g ds S).bind (recK m (.ref n)) := wd_meth h m_brkt.1 m_brkt.2
theorem tru_b {b : Bool} : truR (.bl b) S = .ok b S := rfl
end
/-- the loop over the things between brackets -/
theorem br_loop {ci k n : Nat} {EN : D} {ov me : EvC} {row post : List Str} {o c : Str} (ho : OverOK ci ov) (hm : BrOK ci k me) (hE : ∀ S, ixD EN (.str o) S = .ok (.str c) S) (hc : c = Str.ofString ")" ∨ c = Str.ofString "]" ∨ c = Str.ofString ">") (hrl : row.length ≤ 900000) {S : Store} (hn : n < S.length) :
    ∀ (l : List (List Str × D)) (pre : List Str) (found : List D) (w : Nat), (∀ q ∈ l, Rd k q.1 q.2) → row = pre ++ ((l.map (·.1)).flatten ++ (c :: post)) → found.length + l.length ≤ 900000 → l.length < w →
      whileN (fTAnd (fTNot (fTru (fMeth ci (Str.ofString "is_over") ov (fVar 0) fNil))) (fB (fBin neD (fBin ixD (fFld [ci] (Str.ofString "row") (fVar 0)) (fFld [ci] (Str.ofString "at") (fVar 0))) (fBin ixD (fC EN) (fVar 2))))) (sExpr (fBM "list" appM (fVar 3) (fCons (fMeth ci (Str.ofString "bracketed") me (fVar 0) (fCons (fBin subD (fVar 1) (fC (.int 1))) fNil)) fNil))) w
        [some (.ref n), some (.int (k + 1 : Nat)), some (.str o), some (.ref S.length)] (S.set n (wordsC ci row pre.length) ++ [.lst found]) =
      .nx [some (.ref n), some (.int (k + 1 : Nat)), some (.str o), some (.ref S.length)] (S.set n (wordsC ci row (pre.length + (l.map (·.1)).flatten.length)) ++ [.lst (found ++ l.map (·.2))])
  | l, pre, found, 0, _, _, _, hw => by omega
  | [], pre, found, w + 1, hl, hrow, hf, _ => by
    have g0 : ∀ (i : Nat) (U : List D), (S.set n (wordsC ci row i) ++ [C.lst U])[n]? = some (wordsC ci row i) := fun i U => by
      rw [List.getElem?_append_left (by simpa using hn), List.getElem?_set_self hn]
    have hlen : pre.length < row.length := by rw [hrow]; simp
    have hat : row[pre.length]? = some c := by rw [hrow]; simp
    have h := g0 pre.length found
    refine (while_done (S1 := S.set n (wordsC ci row pre.length) ++ [C.lst found]) ?_).trans (by simp)
    simp only [e_tand, e_tnot, e_tru, e_meth, e_var, List.getElem?_cons_zero, R.bind_ok, c_over h, e_nil, k_rec, ho _ n _ row h, tru_b, k_tnot, k_tand, decide_eq_false (show ¬ pre.length = row.length from by omega), Bool.not_false, if_true, e_b, e_bin, e_fld, fl_row h, k_bin, fl_at h, ixL_str (S := S.set n (wordsC ci row pre.length) ++ [C.lst found]) hat, e_c, List.getElem?_cons_succ, hE, neD_str, asB_bl]
    simp
  | q :: l, pre, found, w + 1, hl, hrow, hf, hw => by
    have g0 : ∀ (i : Nat) (U : List D), (S.set n (wordsC ci row i) ++ [C.lst U])[n]? = some (wordsC ci row i) := fun i U => by
      rw [List.getElem?_append_left (by simpa using hn), List.getElem?_set_self hn]
    have hq := hl q List.mem_cons_self
    obtain ⟨t, r, et, e1, e2, e3⟩ := hq.head
    have hlen : pre.length < row.length := by rw [hrow, List.map_cons, List.flatten_cons, et]; simp
    have hat : row[pre.length]? = some t := by rw [hrow, List.map_cons, List.flatten_cons, et]; simp
    have htc : t ≠ c := by rcases hc with rfl | rfl | rfl <;> assumption
    have h := g0 pre.length found
    have hme := hm (S.set n (wordsC ci row pre.length) ++ [C.lst found]) n row pre ((l.map (·.1)).flatten ++ (c :: post)) q.1 q.2 (by rw [hrow]; simp) hrl hq h
    have ek : ((k + 1 : Nat) : Int) - 1 = (k : Int) := by omega
    have es : (S.set n (wordsC ci row pre.length) ++ [C.lst found]).set n (wordsC ci row (pre.length + q.1.length)) = S.set n (wordsC ci row (pre.length + q.1.length)) ++ [C.lst found] := by
      rw [set_app (by simpa using hn), List.set_set]
    rw [es] at hme
    rw [List.length_cons] at hf hw
    have ty : tyM (S.set n (wordsC ci row pre.length) ++ [C.lst found]) (.ref S.length) = "list" := by
      have := ty_last (S := S.set n (wordsC ci row pre.length)) (xs := found)
      rwa [List.length_set] at this
    have ap := app_last (S := S.set n (wordsC ci row (pre.length + q.1.length))) (xs := found) (x := q.2) (by omega)
    rw [List.length_set] at ap
    rw [while_turn (S1 := S.set n (wordsC ci row pre.length) ++ [C.lst found]) (ds2 := [some (.ref n), some (.int (k + 1 : Nat)), some (.str o), some (.ref S.length)]) (S2 := S.set n (wordsC ci row (pre.length + q.1.length)) ++ [C.lst (found ++ [q.2])])]
    · have ih := br_loop (post := post) ho hm hE hc hrl hn l (pre ++ q.1) (found ++ [q.2]) w (fun z hz => hl z (List.mem_cons_of_mem _ hz)) (by rw [hrow]; simp) (by simp; omega) (by omega)
      rw [List.length_append] at ih
      rw [ih]
      simp [Nat.add_assoc]
    · simp only [e_tand, e_tnot, e_tru, e_meth, e_var, List.getElem?_cons_zero, R.bind_ok, c_over h, e_nil, k_rec, ho _ n _ row h, tru_b, k_tnot, k_tand, decide_eq_false (show ¬ pre.length = row.length from by omega), Bool.not_false, if_true, e_b, e_bin, e_fld, fl_row h, k_bin, fl_at h, ixL_str (S := S.set n (wordsC ci row pre.length) ++ [C.lst found]) hat, e_c, List.getElem?_cons_succ, hE, neD_str, asB_bl, decide_eq_false htc]
    · simp only [e_expr, e_bm, e_var, List.getElem?_cons_zero, List.getElem?_cons_succ, R.bind_ok, k_bm, ty, if_true, e_cons, e_meth, c_brkt h, e_bin, k_bin, e_c, subD_int, ek, k_cons, e_nil, k_consR, k_rec, hme, ap, R.go_ok, k_ex]
theorem br_step {ci k : Nat} {EN : D} {rz : EvS} {nw : Nat} {ov nx at_ me : EvC} (hnw : 900000 < nw) (hEn : ∀ z S, notInD (.str z) EN S = .ok (.bl (!(valD ENDS (.inr z)).isSome)) S) (hEi : ∀ o c S, valD ENDS (.inr o) = some (.str c) → ixD EN (.str o) S = .ok (.str c) S)
    (ho : OverOK ci ov) (hx : NextOK ci nx) (ha : AtomOK at_) (hm : ∀ j, k = j + 1 → BrOK ci j me) {S : Store} {n : Nat} {row pre post ts : List Str} {d : D} (hrow : row = pre ++ (ts ++ post)) (hrl : row.length ≤ 900000) (hr : Rd k ts d) (hn : S[n]? = some (wordsC ci row pre.length)) :
    finR false S (brB ci EN rz nw ov nx at_ me [some (.ref n), some (.int k), none, none] S) = .ok d (S.set n (wordsC ci row (pre.length + ts.length))) := by
  have hnl := (List.getElem?_eq_some_iff.mp hn).1
  have atom : ∀ z, ts = [z] → Atm z d → finR false S (brB ci EN rz nw ov nx at_ me [some (.ref n), some (.int k), none, none] S) = .ok d (S.set n (wordsC ci row (pre.length + ts.length))) := fun z hz h => by
    subst hz
    have hat : row[pre.length]? = some z := by rw [hrow]; simp
    have hg := h.gt.1
    have hv := atm_ends h
    have e1 := hx S n pre.length row z hn hat
    have e2 := ha z (S.set n (wordsC ci row (pre.length + 1))) (by omega)
    rw [h.of] at e2
    have e3 := hEn z (S.set n (wordsC ci row (pre.length + 1)))
    rw [hv] at e3
    have hp : Pu d := (Rd.atm (k := 0) h).pu
    simp only [brB, e_seq, e_set, e_meth, e_var, List.getElem?_cons_zero, R.bind_ok, c_next hn, e_nil, k_rec, e1, R.go_ok, k_set, RS.then_nx, List.set_cons_succ, List.set_cons_zero]
    simp only [sSeq, e_sif, e_b, e_bin, e_var, List.getElem?_cons_zero, List.getElem?_cons_succ, R.bind_ok, k_bin, e_c, e3, asB_bl, R.go_ok, k_sif, Option.isSome_none, Bool.not_false, if_true, e_ret, e_call, e_cons, k_cons, e_nil, k_consR, e2, k_ret]
    simp only [RS.then, fin_rt]
    exact fin_set (hp.lw _) (wordsC_lw _)
  cases k with
  | zero =>
    obtain ⟨z, hz, h⟩ := hr
    exact atom z hz h
  | succ k =>
    rcases hr with ⟨z, hz, h⟩ | ⟨o, c, l, hcl, hts, hd, hl⟩
    · exact atom z hz h
    · subst hts hd
      have hat : row[pre.length]? = some o := by rw [hrow]; simp
      have hv := clo_val hcl
      have e1 := hx S n pre.length row o hn hat
      have e3 := hEn o (S.set n (wordsC ci row (pre.length + 1)))
      rw [hv] at e3
      have hc : c = Str.ofString ")" ∨ c = Str.ofString "]" ∨ c = Str.ofString ">" := by
        rcases hcl with ⟨_, h⟩ | ⟨_, h⟩ | ⟨_, h⟩
        · exact .inl h
        · exact .inr (.inl h)
        · exact .inr (.inr h)
      have e0 : ¬ ((k + 1 : Nat) : Int) = 0 := by omega
      have hll : l.length ≤ 900000 := by
        have h1 := flat_len (ls := l.map (·.1)) fun x hx => by
          obtain ⟨q, hq, rfl⟩ := List.mem_map.mp hx
          exact (hl q hq).ne
        rw [List.length_map] at h1
        have h2 := congrArg List.length hrow
        simp only [List.length_append, List.length_cons] at h2
        omega
      have lp := br_loop (ci := ci) (EN := EN) (row := row) (post := post) (o := o) (c := c) ho (hm k rfl) (fun S => hEi o c S hv) hc hrl (S := S) hnl l (pre ++ [o]) [] nw hl (by rw [hrow]; simp) (by simpa using hll) (by omega)
      rw [List.length_append, List.length_singleton] at lp
      have hp2 : row[pre.length + 1 + (l.map (·.1)).flatten.length]? = some c := by
        rw [hrow]
        have e4 : pre ++ (o :: ((l.map (·.1)).flatten ++ [c]) ++ post) = (pre ++ [o] ++ (l.map (·.1)).flatten) ++ (c :: post) := by simp
        rw [e4, List.getElem?_append_right (by simp; omega)]
        have e5 : pre.length + 1 + (l.map (·.1)).flatten.length - (pre ++ [o] ++ (l.map (·.1)).flatten).length = 0 := by simp; omega
        rw [e5]
        rfl
      generalize hF : (l.map (·.1)).flatten.length = F at lp hp2
      have hn3 : (S.set n (wordsC ci row (pre.length + 1 + F)) ++ [C.lst (l.map (·.2))])[n]? = some (wordsC ci row (pre.length + 1 + F)) := by
        rw [List.getElem?_append_left (by simpa using hnl), List.getElem?_set_self hnl]
      have e6 := hx _ n (pre.length + 1 + F) row c hn3 hp2
      have es : (S.set n (wordsC ci row (pre.length + 1 + F)) ++ [C.lst (l.map (·.2))]).set n (wordsC ci row (pre.length + 1 + F + 1)) = S.set n (wordsC ci row (pre.length + 1 + F + 1)) ++ [C.lst (l.map (·.2))] := by
        rw [set_app (by simpa using hnl), List.set_set]
      rw [es] at e6
      have g3 : (S.set n (wordsC ci row (pre.length + 1 + F + 1)) ++ [C.lst (l.map (·.2))])[S.length]? = some (.lst (l.map (·.2))) := by
        rw [List.getElem?_append_right (by simp)]
        simp
      have tp : tupleC [.ref S.length] (S.set n (wordsC ci row (pre.length + 1 + F + 1)) ++ [C.lst (l.map (·.2))]) = .ok (.tup (l.map (·.2))) (S.set n (wordsC ci row (pre.length + 1 + F + 1)) ++ [C.lst (l.map (·.2))]) := by
        unfold tupleC asL
        simp only [g3]
      have hpu : Pu (.tup (l.map (·.2))) := pu_tup.mpr fun d hd => by
        obtain ⟨q, hq, rfl⟩ := List.mem_map.mp hd
        exact (hl q hq).pu
      have hpt : pre.length + (o :: ((l.map (·.1)).flatten ++ [c])).length = pre.length + 1 + F + 1 := by
        simp only [List.length_cons, List.length_append, List.length_nil]
        omega
      rw [hpt]
      simp only [List.nil_append] at lp
      simp only [brB, e_seq, e_set, e_meth, e_var, List.getElem?_cons_zero, R.bind_ok, c_next hn, e_nil, k_rec, e1, R.go_ok, k_set, RS.then_nx, List.set_cons_succ, List.set_cons_zero]
      simp only [sSeq, e_sif, e_b, e_bin, e_var, List.getElem?_cons_zero, List.getElem?_cons_succ, R.bind_ok, k_bin, e_c, e3, asB_bl, R.go_ok, k_sif, Option.isSome_some, Bool.not_true, Bool.false_eq_true, if_false, e_snil, RS.then_nx, eqD_int, decide_eq_false e0, e_set, e_new, e_nil, k_new, List.length_nil, k_set, List.set_cons_succ, List.set_cons_zero, List.length_set]
      rw [if_pos (by rw [line_eq]; omega)]
      simp only [R.go_ok, k_set, List.set_cons_succ, List.set_cons_zero, RS.then_nx, sWhile, e_seq]
      rw [lp]
      simp only [RS.then_nx, sSeq, e_expr, e_meth, e_var, List.getElem?_cons_zero, R.bind_ok, c_next hn3, e_nil, k_rec, e6, R.go_ok, k_ex, e_ret, e_call, e_cons, List.getElem?_cons_succ, k_cons, k_consR, tp, k_ret, fin_rt]
      exact fin_setapp (hpu.lw _) (wordsC_lw _)
theorem br_ok {tab : Nat → FD} {g ci go gx ga : Nat} {b : (Nat → EvC) → EvS} {EN : D} {rz : EvS} {nw n : Nat} (h : tab g = ⟨false, 4, 2, b⟩) (hb : ∀ c, b c = brB ci EN rz nw (c go) (c gx) (c ga) (c g)) (hnw : 900000 < nw) (hEn : ∀ z S, notInD (.str z) EN S = .ok (.bl (!(valD ENDS (.inr z)).isSome)) S) (hEi : ∀ o c S, valD ENDS (.inr o) = some (.str c) → ixD EN (.str o) S = .ok (.str c) S)
    (ho : ∀ j, OverOK ci (evC tab (j + n) go)) (hx : ∀ j, NextOK ci (evC tab (j + n) gx)) (ha : ∀ j, AtomOK (evC tab (j + n) ga)) : ∀ (k j : Nat), BrOK ci k (evC tab (j + n + k + 1) g) := by
  intro k
  induction k with
  | zero =>
    intro j S m row pre post ts d hrow hrl hr hm
    rw [ev_call h rfl, hb]
    exact br_step hnw hEn hEi (ho j) (hx j) (ha j) (fun _ q => by omega) hrow hrl hr hm
  | succ k ih =>
    intro j S m row pre post ts d hrow hrl hr hm
    rw [show j + n + (k + 1) + 1 = (j + n + k + 1) + 1 from rfl, ev_call h rfl, hb]
    have e : j + n + k + 1 = (j + k + 1) + n := by omega
    refine br_step (k := k + 1) hnw hEn hEi ?_ ?_ ?_ (fun i q => ?_) hrow hrl hr hm
    · rw [e]; exact ho _
    · rw [e]; exact hx _
    · rw [e]; exact ha _
    · obtain rfl : k = i := by omega
      exact ih j
end Rk

namespace Rk
open PySem L2 TL

def InitOK (ci : Nat) (f : EvC) : Prop := ∀ (S : Store) (z : Str), z.length + 2 ≤ 16777216 → f [.ref S.length, .str z] (S ++ [.ins ci []]) = .ok .non (S ++ [wordsC ci (Txt.split z sp) 0])
theorem init_ok {tab : Nat → FD} {g k ci : Nat} {b : (Nat → EvC) → EvS} (h : tab g = ⟨false, 2, 2, b⟩) (hb : b (evC tab k) = initB ci) : InitOK ci (evC tab (k + 1) g) := by
  intro S z hz
  rw [ev_call h rfl, hb]
  have e1 : splM (.str z) [.str (Str.ofString " ")] (S ++ [C.ins ci []]) = .ok (.lst ((Txt.split z sp).map D.str)) (S ++ [C.ins ci []]) := if_pos ⟨by decide +kernel, hz⟩
  have h0 : (S ++ [C.ins ci []])[S.length]? = some (.ins ci []) := by simp
  have h1 : ((S ++ [C.ins ci []]).set S.length (.ins ci (putFD (Str.ofString "row") (.lst ((Txt.split z sp).map D.str)) [])))[S.length]? = some (.ins ci [(Str.ofString "row", .lst ((Txt.split z sp).map D.str))]) := by
    rw [List.getElem?_set_self (by simp)]
    rfl
  have p2 : putFD (Str.ofString "at") (.int 0) [(Str.ofString "row", .lst ((Txt.split z sp).map D.str))] = [(Str.ofString "row", .lst ((Txt.split z sp).map D.str)), (Str.ofString "at", .int 0)] := by
    rw [pf_tl row_at]
    rfl
  simp only [initB, e_seq, e_fldS, e_bm, e_var, List.map_cons, List.map_nil, List.cons_append, List.nil_append, List.getElem?_cons_zero, List.getElem?_cons_succ, R.bind_ok, k_bm, tyM_str, if_true, e_cons, e_c, k_cons, e_nil, k_consR, e1, R.go_ok, k_fS1, fS2_ok h0 (List.mem_singleton.mpr rfl) (by decide), RS.then_nx]
  simp only [e_fldS, e_c, R.go_ok, k_fS1, e_var, List.getElem?_cons_zero, fS2_ok h1 (List.mem_singleton.mpr rfl) (show ([(Str.ofString "row", D.lst ((Txt.split z sp).map D.str))] : List (Str × D)).length < 1000 from by simp), fin_nx, p2, List.set_set]
  have hlw : (wordsC ci (Txt.split z sp) 0).lw (S ++ [C.ins ci []]).length = true := wordsC_lw _
  have := fin_set (keep := false) (S := S ++ [C.ins ci []]) (d := .non) (p := S.length) (c := wordsC ci (Txt.split z sp) 0) rfl hlw
  rw [show (S ++ [C.ins ci []]).set S.length (wordsC ci (Txt.split z sp) 0) = S ++ [wordsC ci (Txt.split z sp) 0] from by
    rw [List.set_append_right _ _ (Nat.le_refl _)]; simp] at this
  rw [show (S ++ [C.ins ci []]).set S.length (.ins ci [(Str.ofString "row", .lst ((Txt.split z sp).map D.str)), (Str.ofString "at", .int 0)]) = S ++ [wordsC ci (Txt.split z sp) 0] from by
    rw [List.set_append_right _ _ (Nat.le_refl _)]; simp; rfl]
  exact this
/-- the loop over the deeds -/
theorem rd_loop {ci : Nat} {ov me : EvC} {row : List Str} {z : Str} {e3 : Option D} (ho : OverOK ci ov) (hm : BrOK ci 13 me) (hz : z ≠ Str.ofString "") (hrl : row.length ≤ 900000) {S : Store} :
    ∀ (l : List (List Str × D)) (pre : List Str) (found : List D) (w : Nat), (∀ q ∈ l, Rd 13 q.1 q.2) → row = pre ++ (l.map (·.1)).flatten → found.length + l.length ≤ 900000 → l.length < w →
      whileN (fTAnd (fB (fBin neD (fVar 0) (fC (.str (Str.ofString ""))))) (fTNot (fTru (fMeth ci (Str.ofString "is_over") ov (fVar 1) fNil)))) (sExpr (fBM "list" appM (fVar 2) (fCons (fMeth ci (Str.ofString "bracketed") me (fVar 1) (fCons (fC (.int 13)) fNil)) fNil))) w
        [some (.str z), some (.ref S.length), some (.ref (S.length + 1)), e3] ((S ++ [wordsC ci row pre.length]) ++ [.lst found]) =
      .nx [some (.str z), some (.ref S.length), some (.ref (S.length + 1)), e3] ((S ++ [wordsC ci row (pre.length + (l.map (·.1)).flatten.length)]) ++ [.lst (found ++ l.map (·.2))])
  | l, pre, found, 0, _, _, _, hw => by omega
  | [], pre, found, w + 1, hl, hrow, hf, _ => by
    have h : ((S ++ [wordsC ci row pre.length]) ++ [C.lst found])[S.length]? = some (wordsC ci row pre.length) := by simp
    have hlen : pre.length = row.length := by rw [hrow]; simp
    refine (while_done (S1 := (S ++ [wordsC ci row pre.length]) ++ [C.lst found]) ?_).trans (by simp)
    simp only [e_tand, e_b, e_bin, e_var, List.getElem?_cons_zero, R.bind_ok, k_bin, e_c, neD_str, decide_eq_false hz, Bool.not_false, asB_bl, k_tand, if_true, e_tnot, e_tru, e_meth, List.getElem?_cons_succ, c_over h, e_nil, k_rec, ho _ S.length _ row h, tru_b, k_tnot, decide_eq_true hlen, Bool.not_true]
  | q :: l, pre, found, w + 1, hl, hrow, hf, hw => by
    have h : ((S ++ [wordsC ci row pre.length]) ++ [C.lst found])[S.length]? = some (wordsC ci row pre.length) := by simp
    have hq := hl q List.mem_cons_self
    obtain ⟨t, r, et, _⟩ := hq.head
    have hlen : ¬ pre.length = row.length := by rw [hrow, List.map_cons, List.flatten_cons, et]; simp
    have hme := hm ((S ++ [wordsC ci row pre.length]) ++ [C.lst found]) S.length row pre ((l.map (·.1)).flatten) q.1 q.2 (by rw [hrow]; simp) hrl hq h
    have es : ((S ++ [wordsC ci row pre.length]) ++ [C.lst found]).set S.length (wordsC ci row (pre.length + q.1.length)) = (S ++ [wordsC ci row (pre.length + q.1.length)]) ++ [C.lst found] := by
      rw [set_app (by simp), List.set_append_right _ _ (Nat.le_refl _)]
      simp
    rw [es, show ((13 : Nat) : Int) = 13 from rfl] at hme
    rw [List.length_cons] at hf hw
    have ty : tyM ((S ++ [wordsC ci row pre.length]) ++ [C.lst found]) (.ref (S.length + 1)) = "list" := by
      have := ty_last (S := S ++ [wordsC ci row pre.length]) (xs := found)
      rwa [List.length_append, List.length_singleton] at this
    have ap := app_last (S := S ++ [wordsC ci row (pre.length + q.1.length)]) (xs := found) (x := q.2) (by omega)
    rw [List.length_append, List.length_singleton] at ap
    rw [while_turn (S1 := (S ++ [wordsC ci row pre.length]) ++ [C.lst found]) (ds2 := [some (.str z), some (.ref S.length), some (.ref (S.length + 1)), e3]) (S2 := (S ++ [wordsC ci row (pre.length + q.1.length)]) ++ [C.lst (found ++ [q.2])])]
    · have ih := rd_loop (e3 := e3) ho hm hz hrl (S := S) l (pre ++ q.1) (found ++ [q.2]) w (fun z hz => hl z (List.mem_cons_of_mem _ hz)) (by rw [hrow]; simp) (by simp; omega) (by omega)
      rw [List.length_append] at ih
      rw [ih]
      simp [Nat.add_assoc]
    · simp only [e_tand, e_b, e_bin, e_var, List.getElem?_cons_zero, R.bind_ok, k_bin, e_c, neD_str, decide_eq_false hz, Bool.not_false, asB_bl, k_tand, if_true, e_tnot, e_tru, e_meth, List.getElem?_cons_succ, c_over h, e_nil, k_rec, ho _ S.length _ row h, tru_b, k_tnot, decide_eq_false hlen, Bool.not_false]
    · simp only [e_expr, e_bm, e_var, List.getElem?_cons_zero, List.getElem?_cons_succ, R.bind_ok, k_bm, ty, if_true, e_cons, e_meth, c_brkt h, e_c, k_cons, e_nil, k_consR, k_rec, hme, ap, R.go_ok, k_ex]
theorem Rd.tok {k : Nat} {ts : List Str} {d : D} (h : Rd k ts d) : ∃ t r, ts = t :: r ∧ tl t ≠ [] := by
  have A : ∀ z d, Atm z d → tl z ≠ [] := fun z d h => by
    cases h with
    | wd _ h => intro q; have := h.pos; rw [len_tl, q] at this; exact absurd this (by simp)
    | int i _ _ => exact numZ_ne i
    | non => rw [mi_tl]; simp
  cases k with
  | zero =>
    obtain ⟨z, rfl, h⟩ := h
    exact ⟨z, [], rfl, A z d h⟩
  | succ k =>
    rcases h with ⟨z, rfl, h⟩ | ⟨o, c, l, h1, rfl, _⟩
    · exact ⟨z, [], rfl, A z d h⟩
    · refine ⟨o, _, rfl, ?_⟩
      rcases h1 with ⟨rfl, _⟩ | ⟨rfl, _⟩ | ⟨rfl, _⟩ <;> decide +kernel
def ReadOK (f : EvC) : Prop := ∀ (d : D) (S : Store) (n : Nat), scn 5 d = some n → wt d ≤ 800000 → Tg d → f [.str (txt (tkS 5 d))] S = .ok d S
theorem read_step {ci nw : Nat} {rz : EvS} {ini ov me iss shs : EvC} (hnw : 900000 < nw) (hi : InitOK ci ini) (ho : OverOK ci ov) (hm : BrOK ci 13 me) (hs : ∀ d S n, scn 5 d = some n → Tg d → iss [d] S = .ok (.bl true) S) (hsh : SScrOK 5 shs) {d : D} {S : Store} {n : Nat} (hd : scn 5 d = some n) (hw : wt d ≤ 800000) (ht : Tg d) :
    finR false S (readB ci rz nw ini ov me iss shs [some (.str (txt (tkS 5 d))), none, none, none] S) = .ok d S := by
  obtain ⟨⟨l, hl1, hl2, hl3⟩, hlen⟩ := rd_scn 5 n d hd
  obtain ⟨j, xs, _, rfl, _⟩ := scn_tup hd
  have hwx : 2 + wts xs ≤ 800000 := hw
  have hl2 : xs = l.map (·.2) := hl2
  have hlen : (tkS 5 (.tup xs)).length = wts xs := hlen
  have hgt : ∀ t ∈ tkS 5 (.tup xs), Gt t := (rd_scn 5 n (.tup xs) hd).1.gt
  have hzl := txt_len hgt
  generalize hts : tkS 5 (.tup xs) = ts at *
  have hll : l.length ≤ ts.length := by
    have h1 := flat_len (ls := l.map (·.1)) fun x hx => by
      obtain ⟨q, hq, rfl⟩ := List.mem_map.mp hx
      exact (hl3 q hq).ne
    rw [List.length_map, ← hl1] at h1
    exact h1
  have hok : ok1 (.str (txt ts)) = true := by
    simp [ok1]
    omega
  have hiss := fun T => hs (.tup xs) T n hd ht
  have hshs := fun T => hsh (.tup xs) T n hd (by omega)
  rw [hts] at hshs
  have hini := hi S (txt ts) (by omega)
  have hpu : Pu (.tup xs) := by
    rw [hl2]
    exact pu_tup.mpr fun d hd => by
      obtain ⟨q, hq, rfl⟩ := List.mem_map.mp hd
      exact (hl3 q hq).pu
  -- the rest behind the loop
  have rest : ∀ W : C, sSeq (sSet 3 (fCall tupleC (fCons (fVar 2) fNil))) (sSeq (sIf (fTOr (fTNot (fTru (fCall iss (fCons (fVar 3) fNil)))) (fB (fBin neD (fCall shs (fCons (fVar 3) fNil)) (fVar 0)))) rz sNil) (sRet (fVar 3))) [some (.str (txt ts)), some (.ref S.length), some (.ref (S.length + 1)), none] ((S ++ [W]) ++ [.lst xs]) = .rt (.tup xs) ((S ++ [W]) ++ [.lst xs]) := fun W => by
    have g3 : ((S ++ [W]) ++ [C.lst xs])[S.length + 1]? = some (.lst xs) := by
      rw [List.getElem?_append_right (by simp)]
      simp
    have tp : tupleC [.ref (S.length + 1)] ((S ++ [W]) ++ [C.lst xs]) = .ok (.tup xs) ((S ++ [W]) ++ [C.lst xs]) := by
      unfold tupleC asL
      simp only [g3]
    simp only [e_seq, e_set, e_call, e_cons, e_var, List.getElem?_cons_zero, List.getElem?_cons_succ, R.bind_ok, k_cons, e_nil, k_consR, tp, R.go_ok, k_set, RS.then_nx, List.set_cons_succ, List.set_cons_zero]
    simp only [sSeq, e_sif, e_tor, e_tnot, e_tru, e_call, e_cons, e_var, List.getElem?_cons_zero, List.getElem?_cons_succ, R.bind_ok, k_cons, e_nil, k_consR, hiss, tru_b, k_tnot, Bool.not_true, k_tor, Bool.false_eq_true, if_false, e_b, e_bin, hshs, k_bin, neD_str, decide_true, asB_bl, R.go_ok, k_sif, e_snil, RS.then_nx, e_ret, k_ret]
  have e1 : (fMake ci ini (fCons (fVar 0) fNil)) [some (.str (txt ts)), none, none, none] S = .ok (.ref S.length) (S ++ [wordsC ci (Txt.split (txt ts) sp) 0]) := by
    simp only [e_make, e_cons, e_var, List.getElem?_cons_zero, R.bind_ok, k_cons, e_nil, k_consR, k_make, hini, k_mak2]
  have e2 : (sIf (fTNot (fTru (fCall isiC (fCons (fVar 0) (fCons (fC (.ty "str")) fNil))))) rz sNil) [some (.str (txt ts)), none, none, none] S = .nx [some (.str (txt ts)), none, none, none] S := by
    simp only [e_sif, e_tnot, e_tru, e_call, e_cons, e_var, List.getElem?_cons_zero, R.bind_ok, k_cons, e_c, e_nil, k_consR, isi_str hok, tru_b, k_tnot, R.go_ok, k_sif]
    rfl
  have enew : ∀ W : C, (fNew fNil) [some (.str (txt ts)), some (.ref S.length), none, none] (S ++ [W]) = .ok (.ref (S.length + 1)) ((S ++ [W]) ++ [.lst []]) := fun W => by
    simp only [e_new, e_nil, R.bind_ok, k_new, List.length_nil, List.length_append, List.length_singleton]
    exact if_pos (Nat.zero_le _)
  simp only [readB, e_seq, e2, RS.then_nx]
  simp only [sSeq, e_set, e1, R.go_ok, k_set, List.set_cons_succ, List.set_cons_zero, RS.then_nx, enew]
  by_cases hz : txt ts = Str.ofString ""
  · -- nothing is written
    have hl0 : l = [] := by
      cases l with
      | nil => rfl
      | cons q r =>
        exfalso
        obtain ⟨t, r2, et, hne⟩ := (hl3 q List.mem_cons_self).tok
        rw [List.map_cons, List.flatten_cons, et] at hl1
        have h2 : tl (txt ts) = [] := by rw [hz]; decide +kernel
        rw [hl1] at h2
        unfold txt at h2
        rw [tjoin] at h2
        cases hr : (List.map tl (r2 ++ (r.map (·.1)).flatten)) with
        | nil =>
          rw [List.cons_append, List.map_cons, hr] at h2
          exact hne h2
        | cons a b =>
          rw [List.cons_append, List.map_cons, hr] at h2
          exact hne (List.append_eq_nil_iff.mp h2).1
    subst hl0
    obtain rfl : xs = [] := hl2
    have hcond : (fTAnd (fB (fBin neD (fVar 0) (fC (.str (Str.ofString ""))))) (fTNot (fTru (fMeth ci (Str.ofString "is_over") ov (fVar 1) fNil)))) [some (.str (txt ts)), some (.ref S.length), some (.ref (S.length + 1)), none] ((S ++ [wordsC ci (Txt.split (txt ts) sp) 0]) ++ [.lst []]) = .ok false ((S ++ [wordsC ci (Txt.split (txt ts) sp) 0]) ++ [.lst []]) := by
      simp only [e_tand, e_b, e_bin, e_var, List.getElem?_cons_zero, R.bind_ok, k_bin, e_c, neD_str, decide_eq_true hz, Bool.not_true, asB_bl, k_tand, Bool.false_eq_true, if_false]
    obtain ⟨w, rfl⟩ : ∃ w, nw = w + 1 := ⟨nw - 1, by omega⟩
    simp only [sWhile]
    rw [while_done hcond]
    simp only [RS.then_nx]
    rw [rest]
    simp only [fin_rt]
    rw [List.append_assoc]
    exact fin_app rfl
  · have hne : ts ≠ [] := fun q => hz (by rw [q]; rfl)
    have hsp : Txt.split (txt ts) sp = ts := by
      refine split_join (s := 32) (S := []) (by rw [show tl sp = [32] from sp_tl]) (by decide +kernel) hne fun p hp => (hgt p hp).2
    rw [hsp]
    have lp := rd_loop (ci := ci) (row := ts) (z := txt ts) (e3 := none) ho hm hz (by omega) (S := S) l [] [] nw hl3 (by simpa using hl1) (by simp; omega) (by omega)
    simp only [List.length_nil, List.nil_append] at lp
    rw [← hl2] at lp
    simp only [sWhile]
    rw [lp]
    simp only [RS.then_nx]
    rw [rest]
    simp only [fin_rt]
    rw [List.append_assoc]
    exact fin_app (hpu.lw _)
theorem read_ok {tab : Nat → FD} {g k ci nw : Nat} {b : (Nat → EvC) → EvS} {rz : EvS} {ini ov me iss shs : EvC} (h : tab g = ⟨false, 4, 1, b⟩) (hb : b (evC tab k) = readB ci rz nw ini ov me iss shs) (hnw : 900000 < nw) (hi : InitOK ci ini) (ho : OverOK ci ov) (hm : BrOK ci 13 me) (hs : ∀ d S n, scn 5 d = some n → Tg d → iss [d] S = .ok (.bl true) S) (hsh : SScrOK 5 shs) : ReadOK (evC tab (k + 1) g) := fun d S n hd hw ht => by
  rw [ev_call h rfl, hb]
  exact read_step hnw hi ho hm hs hsh hd hw ht
end Rk

namespace Rk
open PySem L2 TL

/-! ### tuples of words, whole numbers and None: their data, ==, repr -/
def Ya (d : D) : Prop := d = .non ∨ (∃ z, d = .str z ∧ Wd z) ∨ ∃ i, d = .int i ∧ -1000000000 ≤ i ∧ i ≤ 1000000000
def Yk : Nat → D → Prop
  | 0, d => Ya d
  | k + 1, d => Ya d ∨ ∃ xs, d = .tup xs ∧ ∀ x ∈ xs, Yk k x
theorem Yk.cases {k : Nat} {d : D} (h : Yk k d) : d = .non ∨ (∃ z, d = .str z ∧ Wd z) ∨ (∃ i, d = .int i ∧ -1000000000 ≤ i ∧ i ≤ 1000000000) ∨ ∃ xs j, d = .tup xs ∧ k = j + 1 ∧ ∀ x ∈ xs, Yk j x := by
  have A : Ya d → d = .non ∨ (∃ z, d = .str z ∧ Wd z) ∨ (∃ i, d = .int i ∧ -1000000000 ≤ i ∧ i ≤ 1000000000) ∨ ∃ xs j, d = .tup xs ∧ k = j + 1 ∧ ∀ x ∈ xs, Yk j x := fun h => by
    rcases h with h | h | h
    · exact .inl h
    · exact .inr (.inl h)
    · exact .inr (.inr (.inl h))
  cases k with
  | zero => exact A h
  | succ k =>
    rcases h with h | ⟨xs, e, hx⟩
    · exact A h
    · exact .inr (.inr (.inr ⟨xs, k, e, rfl, hx⟩))
theorem atm_Ya {z : Str} {d : D} (h : Atm z d) : Ya d := by
  cases h with
  | wd z h => exact .inr (.inl ⟨z, rfl, h⟩)
  | int i h1 h2 => exact .inr (.inr ⟨i, rfl, h1, h2⟩)
  | non => exact .inl rfl
theorem rd_Yk : ∀ {k : Nat} {ts : List Str} {d : D}, Rd k ts d → Yk k d
  | 0, _, _, ⟨z, _, h⟩ => atm_Ya h
  | k + 1, _, _, .inl ⟨z, _, h⟩ => .inl (atm_Ya h)
  | k + 1, _, _, .inr ⟨o, c, l, h1, h2, h3, h4⟩ => .inr ⟨_, h3, fun x hx => by
    obtain ⟨q, hq, rfl⟩ := List.mem_map.mp hx
    exact rd_Yk (h4 q hq)⟩
/-- a script -/
theorem scn_Yk {n : Nat} {d : D} (h : scn 5 d = some n) : Yk 14 d := by
  obtain ⟨⟨l, _, hl2, hl3⟩, _⟩ := rd_scn 5 n d h
  obtain ⟨j, xs, _, rfl, _⟩ := scn_tup h
  refine .inr ⟨xs, rfl, fun x hx => ?_⟩
  have hl2 : xs = l.map (·.2) := hl2
  rw [hl2] at hx
  obtain ⟨q, hq, rfl⟩ := List.mem_map.mp hx
  exact rd_Yk (hl3 q hq)
theorem toP_Y : ∀ {k : Nat} {x : D}, Yk k x → toP x = some (toV k x) := by
  intro k
  induction k with
  | zero =>
    intro x h
    rcases h.cases with rfl | ⟨z, rfl, hz⟩ | ⟨i, rfl, _⟩ | ⟨xs, j, rfl, hj, _⟩
    · rfl
    · rfl
    · rfl
    · omega
  | succ k ih =>
    intro x h
    rcases h.cases with rfl | ⟨z, rfl, hz⟩ | ⟨i, rfl, _⟩ | ⟨xs, j, rfl, hj, hx⟩
    · rfl
    · rfl
    · rfl
    · obtain rfl : k = j := by omega
      simp only [toP, toPs_map (toV k) xs fun x hm => ih (hx x hm)]
      rfl
theorem toPS_Y {k : Nat} {x : D} {S : Store} (h : Yk k x) : toPS S x = some (toV k x) := by
  rw [← toP_Y h]
  rcases h.cases with rfl | ⟨z, rfl, hz⟩ | ⟨i, rfl, _⟩ | ⟨xs, j, rfl, hj, _⟩ <;> rfl
theorem can_Y : ∀ {k : Nat} {x : D}, Yk k x → (toV k x).canLay0 = true ∧ (toV k x).depth ≤ k := by
  intro k
  induction k with
  | zero =>
    intro x h
    rcases h.cases with rfl | ⟨z, rfl, hz⟩ | ⟨i, rfl, _⟩ | ⟨xs, j, rfl, hj, _⟩
    · exact ⟨rfl, Nat.le_refl _⟩
    · exact ⟨by simp only [toV, PyData.canLay0]; exact strOk_wd hz, by simp [toV, PyData.depth]⟩
    · exact ⟨rfl, Nat.le_refl _⟩
    · omega
  | succ k ih =>
    intro x h
    rcases h.cases with rfl | ⟨z, rfl, hz⟩ | ⟨i, rfl, _⟩ | ⟨xs, j, rfl, hj, hx⟩
    · exact ⟨rfl, by simp [toV, PyData.depth]⟩
    · exact ⟨by simp only [toV, PyData.canLay0]; exact strOk_wd hz, by simp [toV, PyData.depth]⟩
    · exact ⟨rfl, by simp [toV, PyData.depth]⟩
    · obtain rfl : k = j := by omega
      refine ⟨by simp only [toV, PyData.canLay0]; exact all_can _ _ fun x hm => (ih (hx x hm)).1, ?_⟩
      simp only [toV, PyData.depth]
      exact Nat.succ_le_succ (all_dep _ k _ fun x hm => (ih (hx x hm)).2)
theorem eqvAll_Y {k : Nat} (ih : ∀ {x y : D}, Yk k x → Yk k y → (PyData.eqv (toV k x) (toV k y) = true ↔ x = y)) : ∀ {xs ys : List D}, (∀ x ∈ xs, Yk k x) → (∀ x ∈ ys, Yk k x) → (PyData.eqvAll (xs.map (toV k)) (ys.map (toV k)) = true ↔ xs = ys)
  | [], [], _, _ => by simp [PyData.eqvAll]
  | [], y :: ys, _, _ => by simp [PyData.eqvAll]
  | x :: xs, [], _, _ => by simp [PyData.eqvAll]
  | x :: xs, y :: ys, hx, hy => by
    have h1 := ih (hx x List.mem_cons_self) (hy y List.mem_cons_self)
    have h2 := eqvAll_Y ih (xs := xs) (ys := ys) (fun z hz => hx z (List.mem_cons_of_mem _ hz)) fun z hz => hy z (List.mem_cons_of_mem _ hz)
    simp only [List.map_cons, PyData.eqvAll, Bool.and_eq_true, h1, h2, List.cons.injEq]
theorem eqv_Y : ∀ {k : Nat} {x y : D}, Yk k x → Yk k y → (PyData.eqv (toV k x) (toV k y) = true ↔ x = y) := by
  intro k
  induction k with
  | zero =>
    intro x y hx hy
    rcases hx.cases with rfl | ⟨z, rfl, hz⟩ | ⟨i, rfl, _⟩ | ⟨xs, j, rfl, hj, hx'⟩ <;> rcases hy.cases with rfl | ⟨z', rfl, hz'⟩ | ⟨i', rfl, _⟩ | ⟨ys, j', rfl, hj', hy'⟩ <;> first | (simp [toV, PyData.eqv]; done) | omega
  | succ k ih =>
    intro x y hx hy
    rcases hx.cases with rfl | ⟨z, rfl, hz⟩ | ⟨i, rfl, _⟩ | ⟨xs, j, rfl, hj, hx'⟩ <;> rcases hy.cases with rfl | ⟨z', rfl, hz'⟩ | ⟨i', rfl, _⟩ | ⟨ys, j', rfl, hj', hy'⟩ <;> first | (simp [toV, PyData.eqv]; done) | skip
    obtain rfl : k = j := by omega
    obtain rfl : k = j' := by omega
    simp only [toV, PyData.eqv, D.tup.injEq]
    exact eqvAll_Y ih hx' hy'
theorem shaped_Y {k : Nat} (hk : k ≤ 64) {x : D} (h : Yk k x) : SeqAt.shaped (toV k x) = true := by
  unfold SeqAt.shaped
  rw [(can_Y h).1, decide_eq_true (Nat.le_trans (can_Y h).2 hk)]
  rfl
theorem eqB_Y {k : Nat} (hk : k ≤ 64) {x y : D} {S : Store} (hx : Yk k x) (hy : Yk k y) : ∃ b, eqB S x y = some b ∧ (b = true ↔ x = y) := by
  unfold eqB
  cases h : eqS x y with
  | some b => exact ⟨b, rfl, eqS_iff h⟩
  | none =>
    simp only [toPS_Y hx, toPS_Y hy]
    rw [if_pos ⟨shaped_Y hk hx, shaped_Y hk hy⟩]
    exact ⟨_, rfl, eqv_Y hx hy⟩
theorem eqD_Y {k : Nat} (hk : k ≤ 64) {x y : D} {S : Store} (hx : Yk k x) (hy : Yk k y) : ∃ b, eqD x y S = .ok (.bl b) S ∧ (b = true ↔ x = y) := by
  obtain ⟨b, e, hb⟩ := eqB_Y hk (S := S) hx hy
  refine ⟨b, ?_, hb⟩
  unfold eqD
  rw [e]
theorem neD_Y {k : Nat} (hk : k ≤ 64) {x : D} {S : Store} (hx : Yk k x) : neD x x S = .ok (.bl false) S := by
  obtain ⟨b, e, hb⟩ := eqB_Y hk (S := S) hx hx
  obtain rfl : b = true := hb.mpr rfl
  unfold neD
  rw [e]
  rfl
theorem all_show (f : D → PyData) : ∀ xs : List D, (∀ x ∈ xs, (f x).showable = true ∧ (f x).hasDict = false) → PyData.showableAll (xs.map f) = true ∧ PyData.hasDictAll (xs.map f) = false
  | [], _ => ⟨rfl, rfl⟩
  | x :: xs, h => by
    obtain ⟨h1, h2⟩ := h x List.mem_cons_self
    obtain ⟨h3, h4⟩ := all_show f xs fun y hy => h y (List.mem_cons_of_mem _ hy)
    simp only [List.map_cons, PyData.showableAll, PyData.hasDictAll, h1, h2, h3, h4, Bool.and_self, Bool.or_self]
    exact ⟨trivial, trivial⟩
theorem show_int {i : Int} (h1 : -1000000000 ≤ i) (h2 : i ≤ 1000000000) : (PyData.int i).showable = true ∧ (PyData.int i).shown.length ≤ 11 := by
  constructor
  · simp only [PyData.showable]
    refine decide_eq_true ?_
    by_cases h0 : i.natAbs = 0
    · rw [h0]; decide
    · rw [Nat.log2_lt h0]
      calc i.natAbs ≤ 1000000000 := by omega
        _ < 2 ^ 1920 := by decide +kernel
  · show (Str.ofString (toString i)).length ≤ 11
    rw [len_tl, tl_int]
    exact numZ_len h1 h2
theorem show_Y : ∀ {k : Nat} {x : D}, Yk k x → (toV k x).showable = true ∧ (toV k x).hasDict = false ∧ (toV k x).shown.length + 2 ≤ 14 * wt x := by
  have W : ∀ z, Wd z → (reprText z).length + 2 ≤ 14 := fun z hz => by
    obtain ⟨p1, p2⟩ := isW_plain (wd_iff.mp hz)
    rw [repr_plain p1]
    omega
  have A : ∀ k, (toV k .non).showable = true ∧ (toV k .non).hasDict = false ∧ (toV k .non).shown.length + 2 ≤ 14 * wt .non := fun k => by
    rw [toV_atom.1]
    exact ⟨rfl, rfl, by decide +kernel⟩
  have B : ∀ k z, Wd z → (toV k (.str z)).showable = true ∧ (toV k (.str z)).hasDict = false ∧ (toV k (.str z)).shown.length + 2 ≤ 14 * wt (.str z) := fun k z hz => by
    rw [toV_atom.2.1]
    exact ⟨rfl, rfl, W z hz⟩
  have I : ∀ (k : Nat) (i : Int), -1000000000 ≤ i → i ≤ 1000000000 → (toV k (.int i)).showable = true ∧ (toV k (.int i)).hasDict = false ∧ (toV k (.int i)).shown.length + 2 ≤ 14 * wt (.int i) := fun k i h1 h2 => by
    rw [toV_atom.2.2]
    obtain ⟨s1, s2⟩ := show_int h1 h2
    exact ⟨s1, rfl, by show _ ≤ 14 * 1; omega⟩
  intro k
  induction k with
  | zero =>
    intro x h
    rcases h.cases with rfl | ⟨z, rfl, hz⟩ | ⟨i, rfl, h1, h2⟩ | ⟨xs, j, rfl, hj, _⟩
    · exact A 0
    · exact B 0 z hz
    · exact I 0 i h1 h2
    · omega
  | succ k ih =>
    intro x h
    rcases h.cases with rfl | ⟨z, rfl, hz⟩ | ⟨i, rfl, h1, h2⟩ | ⟨xs, j, rfl, hj, hx⟩
    · exact A _
    · exact B _ z hz
    · exact I _ i h1 h2
    · obtain rfl : k = j := by omega
      obtain ⟨a1, a2⟩ := all_show (toV k) xs fun x hm => ⟨(ih (hx x hm)).1, (ih (hx x hm)).2.1⟩
      refine ⟨by simp only [toV, PyData.showable]; exact a1, by simp only [toV, PyData.hasDict]; exact a2, ?_⟩
      simp only [toV, PyData.shown]
      have h1 := tupleText_len_le (PyData.shownAll (xs.map (toV k)))
      have h2 : ∀ ys : List D, (∀ y ∈ ys, y ∈ xs) → ((PyData.shownAll (ys.map (toV k))).map (·.length)).sum + 2 * (PyData.shownAll (ys.map (toV k))).length ≤ 14 * wts ys := fun ys hy => by
        induction ys with
        | nil => exact Nat.zero_le _
        | cons y ys ih2 =>
          have := (ih (hx y (hy y List.mem_cons_self))).2.2
          have := ih2 fun z hz => hy z (List.mem_cons_of_mem _ hz)
          simp only [List.map_cons, PyData.shownAll, List.sum_cons, List.length_cons, wts]
          omega
      have := h2 xs fun y h => h
      simp only [wt]
      omega
theorem repr_Y {k : Nat} (hk : k ≤ 64) {x : D} {S : Store} (h : Yk k x) (hw : wt x ≤ 1000000) : reprC [x] S = .ok (.str (toV k x).shown) S := by
  unfold reprC
  simp only [toPS_Y h]
  obtain ⟨s1, s2, s3⟩ := show_Y h
  rw [if_pos ⟨s1, by rw [line_eq]; omega, Nat.le_trans (can_Y h).2 hk, s2⟩]
/-- a token holds plain signs alone -/
theorem Rd.plain : ∀ {k : Nat} {ts : List Str} {d : D}, Rd k ts d → ∀ t ∈ ts, ∀ c ∈ tl t, plainC c = true := by
  have A : ∀ z d, Atm z d → ∀ c ∈ tl z, plainC c = true := fun z d h c hc => by
    cases h with
    | wd _ h => exact (isW_plain (wd_iff.mp h)).1 c hc
    | int i _ _ =>
      rw [tl_int] at hc
      rcases numZ_mem hc with rfl | h
      · rfl
      · simp [plainC]; omega
    | non =>
      rw [mi_tl] at hc
      rw [List.mem_singleton.mp hc]
      rfl
  have B : ∀ t ∈ brk, ∀ c ∈ tl t, plainC c = true := by
    intro t ht
    simp only [brk, List.mem_cons, List.not_mem_nil, or_false] at ht
    rcases ht with rfl | rfl | rfl | rfl | rfl | rfl <;> decide +kernel
  intro k
  induction k with
  | zero =>
    rintro ts d ⟨z, rfl, h⟩ t ht
    rw [List.mem_singleton.mp ht]
    exact A z d h
  | succ k ih =>
    intro ts d h t ht
    rcases h with ⟨z, rfl, h⟩ | ⟨o, c, l, h1, rfl, h3, h4⟩
    · rw [List.mem_singleton.mp ht]
      exact A z d h
    · rcases List.mem_cons.mp ht with rfl | ht
      · exact B _ h1.mem.1
      rcases List.mem_append.mp ht with ht | ht
      · obtain ⟨m, hm, ht⟩ := List.mem_flatten.mp ht
        obtain ⟨q, hq, rfl⟩ := List.mem_map.mp hm
        exact ih (h4 q hq) t ht
      · rw [List.mem_singleton.mp ht]
        exact B _ h1.mem.2
theorem joinL_all {P : Nat → Prop} {S : List Nat} (hS : ∀ c ∈ S, P c) {ps : List (List Nat)} (h : ∀ p ∈ ps, ∀ c ∈ p, P c) : ∀ c ∈ joinL S ps, P c := fun c hc => by
  rcases joinL_mem hc with h1 | ⟨p, hp, h1⟩
  · exact hS c h1
  · exact h p hp c h1
/-- repr of a script's text -/
theorem repr_txt {n : Nat} {d : D} {S : Store} (h : scn 5 d = some n) (hw : wt d ≤ 1000000) : reprC [.str (txt (tkS 5 d))] S = .ok (.str (PyData.str (txt (tkS 5 d))).shown) S := by
  obtain ⟨⟨l, hl1, hl2, hl3⟩, hlen⟩ := rd_scn 5 n d h
  obtain ⟨j, xs, _, rfl, _⟩ := scn_tup h
  have hgt : ∀ t ∈ tkS 5 (.tup xs), Gt t := (rd_scn 5 n (.tup xs) h).1.gt
  have hwx : 2 + wts xs ≤ 1000000 := hw
  have hlen : (tkS 5 (.tup xs)).length = wts xs := hlen
  have hzl := txt_len hgt
  refine reprC_str (fun c hc => ?_) (by omega)
  unfold txt at hc
  rw [tjoin] at hc
  refine joinL_all (P := fun c => plainC c = true) (by decide +kernel) (fun p hp => ?_) c hc
  obtain ⟨t, ht, rfl⟩ := List.mem_map.mp hp
  rw [hl1] at ht
  obtain ⟨m, hm, ht⟩ := List.mem_flatten.mp ht
  obtain ⟨q, hq, rfl⟩ := List.mem_map.mp hm
  exact (hl3 q hq).plain t ht
end Rk

namespace K64
open PySem PySem.Spec PyProof.Rows L2 Rk
def top (i : Nat) : Stmt := PySem.Challenge.pw_rankloop_k64_scripts_written_and_read.main.body.getD i (.Pass ⟨0, 0, 0, 0⟩)
def clsBody (s : Stmt) : List Stmt := match s with
  | .ClassDef _ _ _ body _ _ _ _ _ _ _ => body
  | _ => []
abbrev s0 : Stmt := top 15
abbrev N0 : List Str := ["thing", "least", "greatest"]
theorem S0 : FnScope N0 ["thing", "least", "greatest"] (defScope s0) := ⟨rfl, rfl, rfl, by decide +kernel, rfl, by decide +kernel, by decide +kernel⟩
abbrev s1 : Stmt := top 16
abbrev N1 : List Str := ["thing", "sign"]
theorem S1 : FnScope N1 ["thing"] (defScope s1) := ⟨rfl, rfl, rfl, by decide +kernel, rfl, by decide +kernel, by decide +kernel⟩
abbrev s2 : Stmt := top 17
abbrev N2 : List Str := ["thing", "left", "part"]
theorem S2 : FnScope N2 ["thing", "left"] (defScope s2) := ⟨rfl, rfl, rfl, by decide +kernel, rfl, by decide +kernel, by decide +kernel⟩
abbrev s3 : Stmt := top 18
abbrev N3 : List Str := ["thing"]
theorem S3 : FnScope N3 ["thing"] (defScope s3) := ⟨rfl, rfl, rfl, by decide +kernel, rfl, by decide +kernel, by decide +kernel⟩
abbrev s4 : Stmt := top 19
abbrev N4 : List Str := ["thing", "name"]
theorem S4 : FnScope N4 ["thing"] (defScope s4) := ⟨rfl, rfl, rfl, by decide +kernel, rfl, by decide +kernel, by decide +kernel⟩
abbrev s5 : Stmt := top 20
abbrev N5 : List Str := ["thing"]
theorem S5 : FnScope N5 ["thing"] (defScope s5) := ⟨rfl, rfl, rfl, by decide +kernel, rfl, by decide +kernel, by decide +kernel⟩
abbrev s6 : Stmt := top 21
abbrev N6 : List Str := ["thing"]
theorem S6 : FnScope N6 ["thing"] (defScope s6) := ⟨rfl, rfl, rfl, by decide +kernel, rfl, by decide +kernel, by decide +kernel⟩
abbrev s7 : Stmt := top 22
abbrev N7 : List Str := ["thing"]
theorem S7 : FnScope N7 ["thing"] (defScope s7) := ⟨rfl, rfl, rfl, by decide +kernel, rfl, by decide +kernel, by decide +kernel⟩
abbrev s8 : Stmt := top 23
abbrev N8 : List Str := ["thing"]
theorem S8 : FnScope N8 ["thing"] (defScope s8) := ⟨rfl, rfl, rfl, by decide +kernel, rfl, by decide +kernel, by decide +kernel⟩
abbrev s9 : Stmt := top 25
abbrev N9 : List Str := ["kind", "part", "left", "look"]
theorem S9 : FnScope N9 ["kind", "part", "left"] (defScope s9) := ⟨rfl, rfl, rfl, by decide +kernel, rfl, by decide +kernel, by decide +kernel⟩
abbrev s10 : Stmt := top 26
abbrev N10 : List Str := ["deed", "left", "word", "parts", "found", "kind", "part", "many"]
theorem S10 : FnScope N10 ["deed", "left"] (defScope s10) := ⟨rfl, rfl, rfl, by decide +kernel, rfl, by decide +kernel, by decide +kernel⟩
abbrev s11 : Stmt := top 27
abbrev N11 : List Str := ["thing", "left", "found", "deed", "many"]
theorem S11 : FnScope N11 ["thing", "left"] (defScope s11) := ⟨rfl, rfl, rfl, by decide +kernel, rfl, by decide +kernel, by decide +kernel⟩
abbrev s12 : Stmt := top 28
abbrev N12 : List Str := ["thing"]
theorem S12 : FnScope N12 ["thing"] (defScope s12) := ⟨rfl, rfl, rfl, by decide +kernel, rfl, by decide +kernel, by decide +kernel⟩
abbrev s13 : Stmt := top 35
abbrev N13 : List Str := ["worth", "part"]
theorem S13 : FnScope N13 ["worth"] (defScope s13) := ⟨rfl, rfl, rfl, by decide +kernel, rfl, by decide +kernel, by decide +kernel⟩
abbrev s14 : Stmt := top 36
abbrev N14 : List Str := ["kind", "part", "deed"]
theorem S14 : FnScope N14 ["kind", "part"] (defScope s14) := ⟨rfl, rfl, rfl, by decide +kernel, rfl, by decide +kernel, by decide +kernel⟩
abbrev s15 : Stmt := top 37
abbrev N15 : List Str := ["deed", "word", "parts", "shown", "kind", "part"]
theorem S15 : FnScope N15 ["deed"] (defScope s15) := ⟨rfl, rfl, rfl, by decide +kernel, rfl, by decide +kernel, by decide +kernel⟩
abbrev s16 : Stmt := top 38
abbrev N16 : List Str := ["script", "deed"]
theorem S16 : FnScope N16 ["script"] (defScope s16) := ⟨rfl, rfl, rfl, by decide +kernel, rfl, by decide +kernel, by decide +kernel⟩
abbrev s17 : Stmt := top 39
abbrev N17 : List Str := ["word", "figures", "sign"]
theorem S17 : FnScope N17 ["word"] (defScope s17) := ⟨rfl, rfl, rfl, by decide +kernel, rfl, by decide +kernel, by decide +kernel⟩
abbrev s18 : Stmt := (clsBody (top 40)).getD 0 (.Pass ⟨0, 0, 0, 0⟩)
abbrev N18 : List Str := ["self", "text"]
theorem S18 : FnScope N18 ["self", "text"] (defScope s18) := ⟨rfl, rfl, rfl, by decide +kernel, rfl, by decide +kernel, by decide +kernel⟩
abbrev s19 : Stmt := (clsBody (top 40)).getD 1 (.Pass ⟨0, 0, 0, 0⟩)
abbrev N19 : List Str := ["self"]
theorem S19 : FnScope N19 ["self"] (defScope s19) := ⟨rfl, rfl, rfl, by decide +kernel, rfl, by decide +kernel, by decide +kernel⟩
abbrev s20 : Stmt := (clsBody (top 40)).getD 2 (.Pass ⟨0, 0, 0, 0⟩)
abbrev N20 : List Str := ["self"]
theorem S20 : FnScope N20 ["self"] (defScope s20) := ⟨rfl, rfl, rfl, by decide +kernel, rfl, by decide +kernel, by decide +kernel⟩
abbrev s21 : Stmt := (clsBody (top 40)).getD 3 (.Pass ⟨0, 0, 0, 0⟩)
abbrev N21 : List Str := ["self", "left", "word", "found"]
theorem S21 : FnScope N21 ["self", "left"] (defScope s21) := ⟨rfl, rfl, rfl, by decide +kernel, rfl, by decide +kernel, by decide +kernel⟩
abbrev s22 : Stmt := top 41
abbrev N22 : List Str := ["text", "words", "found", "script"]
theorem S22 : FnScope N22 ["text"] (defScope s22) := ⟨rfl, rfl, rfl, by decide +kernel, rfl, by decide +kernel, by decide +kernel⟩
abbrev s23 : Stmt := top 43
abbrev N23 : List Str := ["_law_cells"]
theorem S23 : FnScope N23 ["_law_cells"] (defScope s23) := ⟨rfl, rfl, rfl, by decide +kernel, rfl, by decide +kernel, by decide +kernel⟩
abbrev s24 : Stmt := top 44
abbrev N24 : List Str := ["_law_held", "_law_many_here", "_law_found", "_law_at", "_law_cell", "_law_number"]
theorem S24 : FnScope N24 ["_law_held", "_law_many_here"] (defScope s24) := ⟨rfl, rfl, rfl, by decide +kernel, rfl, by decide +kernel, by decide +kernel⟩
abbrev s25 : Stmt := top 45
abbrev N25 : List Str := ["_law_held", "_law_some"]
theorem S25 : FnScope N25 ["_law_held", "_law_some"] (defScope s25) := ⟨rfl, rfl, rfl, by decide +kernel, rfl, by decide +kernel, by decide +kernel⟩
abbrev s26 : Stmt := top 46
abbrev N26 : List Str := ["_law_held", "_law_some", "_law_letters", "_law_drawn", "_law_k"]
theorem S26 : FnScope N26 ["_law_held"] (defScope s26) := ⟨rfl, rfl, rfl, by decide +kernel, rfl, by decide +kernel, by decide +kernel⟩
abbrev s27 : Stmt := top 47
abbrev N27 : List Str := ["_law_held", "_law_within", "_law_lot", "_law_many_here", "_law_k"]
theorem S27 : FnScope N27 ["_law_held", "_law_within"] (defScope s27) := ⟨rfl, rfl, rfl, by decide +kernel, rfl, by decide +kernel, by decide +kernel⟩
abbrev s28 : Stmt := top 48
abbrev N28 : List Str := ["_law_some"]
theorem S28 : FnScope N28 [] (defScope s28) := ⟨rfl, rfl, rfl, by decide +kernel, rfl, by decide +kernel, by decide +kernel⟩
abbrev s29 : Stmt := top 49
abbrev N29 : List Str := ["_law_held", "_law_kind", "_law_plan", "_law_within", "_law_number", "_law_k"]
theorem S29 : FnScope N29 ["_law_held", "_law_kind", "_law_plan", "_law_within"] (defScope s29) := ⟨rfl, rfl, rfl, by decide +kernel, rfl, by decide +kernel, by decide +kernel⟩
abbrev s30 : Stmt := top 50
abbrev N30 : List Str := ["_law_held", "_law_plan", "_law_within", "_law_rows", "_law_forms_here", "_law_words", "_law_word_here", "_law_k", "_law_kind"]
theorem S30 : FnScope N30 ["_law_held", "_law_plan", "_law_within"] (defScope s30) := ⟨rfl, rfl, rfl, by decide +kernel, rfl, by decide +kernel, by decide +kernel⟩
abbrev s31 : Stmt := top 51
abbrev N31 : List Str := ["_law_it", "_law_one"]
theorem S31 : FnScope N31 ["_law_it"] (defScope s31) := ⟨rfl, rfl, rfl, by decide +kernel, rfl, by decide +kernel, by decide +kernel⟩
abbrev s32 : Stmt := top 52
abbrev N32 : List Str := ["_law_todo", "_law_found", "_law_forms_here", "_law_deed", "_law_kind", "_law_part_here"]
theorem S32 : FnScope N32 ["_law_todo"] (defScope s32) := ⟨rfl, rfl, rfl, by decide +kernel, rfl, by decide +kernel, by decide +kernel⟩
abbrev s33 : Stmt := top 53
abbrev N33 : List Str := ["_law_it", "_law_least", "_law_most"]
theorem S33 : FnScope N33 ["_law_it", "_law_least", "_law_most"] (defScope s33) := ⟨rfl, rfl, rfl, by decide +kernel, rfl, by decide +kernel, by decide +kernel⟩
abbrev s34 : Stmt := top 54
abbrev N34 : List Str := ["_law_it", "_law_sign"]
theorem S34 : FnScope N34 ["_law_it"] (defScope s34) := ⟨rfl, rfl, rfl, by decide +kernel, rfl, by decide +kernel, by decide +kernel⟩
abbrev s35 : Stmt := top 55
abbrev N35 : List Str := ["_law_it", "_law_left", "_law_one"]
theorem S35 : FnScope N35 ["_law_it", "_law_left"] (defScope s35) := ⟨rfl, rfl, rfl, by decide +kernel, rfl, by decide +kernel, by decide +kernel⟩
abbrev s36 : Stmt := top 56
abbrev N36 : List Str := ["_law_kind", "_law_it", "_law_one"]
theorem S36 : FnScope N36 ["_law_kind", "_law_it"] (defScope s36) := ⟨rfl, rfl, rfl, by decide +kernel, rfl, by decide +kernel, by decide +kernel⟩
abbrev s37 : Stmt := top 57
abbrev N37 : List Str := ["_law_it", "_law_left", "_law_found", "_law_forms_here", "_law_deed", "_law_kind", "_law_part_here"]
theorem S37 : FnScope N37 ["_law_it", "_law_left"] (defScope s37) := ⟨rfl, rfl, rfl, by decide +kernel, rfl, by decide +kernel, by decide +kernel⟩
abbrev s38 : Stmt := top 58
abbrev N38 : List Str := ["_law_it"]
theorem S38 : FnScope N38 ["_law_it"] (defScope s38) := ⟨rfl, rfl, rfl, by decide +kernel, rfl, by decide +kernel, by decide +kernel⟩
abbrev s39 : Stmt := top 59
abbrev N39 : List Str := ["_law_held", "_law_some"]
theorem S39 : FnScope N39 ["_law_held"] (defScope s39) := ⟨rfl, rfl, rfl, by decide +kernel, rfl, by decide +kernel, by decide +kernel⟩
abbrev s40 : Stmt := top 60
abbrev N40 : List Str := ["_law_held", "_law_it", "_law_at", "_law_far", "_law_way"]
theorem S40 : FnScope N40 ["_law_held", "_law_it"] (defScope s40) := ⟨rfl, rfl, rfl, by decide +kernel, rfl, by decide +kernel, by decide +kernel⟩
abbrev s41 : Stmt := top 61
abbrev N41 : List Str := ["_law_cells", "_law_held", "_law_k", "_law_todo", "_law_other", "_law_some", "_law_one", "_law_line"]
theorem S41 : FnScope N41 ["_law_cells"] (defScope s41) := ⟨rfl, rfl, rfl, by decide +kernel, rfl, by decide +kernel, by decide +kernel⟩
def q16_0 {α : Type} (us ws : List α) : List α := us ++ ws
theorem q16_0_rel {Γ : Gm} (β : Bt) (H : Hp) (vs zs : List V) (xs ys : List D) (r : RVs Γ β H vs xs) (q : RVs Γ β H zs ys) : RVs Γ β H (q16_0 vs zs) (q16_0 xs ys) := by
  exact r.append q
def q22_0 {α : Type} (us ws : List α) : List α := us ++ ws
theorem q22_0_rel {Γ : Gm} (β : Bt) (H : Hp) (vs zs : List V) (xs ys : List D) (r : RVs Γ β H vs xs) (q : RVs Γ β H zs ys) : RVs Γ β H (q22_0 vs zs) (q22_0 xs ys) := by
  exact r.append q
def kd_ENDS : List (Key × D) := [(.inr "(", .str ")"), (.inr "[", .str "]"), (.inr "<", .str ">")]
def kd_FORMS : List (Key × D) := [(.inr "say", .str "w"), (.inr "echo", .str ""), (.inr "spend", .str "k"), (.inr "post", .str "rwS"), (.inr "micro", .str "S"), (.inr "after", .str "krwS"), (.inr "every", .str "erwS"), (.inr "idle", .str "iwS"), (.inr "stop", .str "w"), (.inr "rerank", .str "wr"), (.inr "make", .str "w"), (.inr "keep", .str "wv"), (.inr "pass", .str "w"), (.inr "break", .str "ww"), (.inr "follow", .str "ww"), (.inr "then", .str "wwss"), (.inr "all", .str "wn"), (.inr "any", .str "wn"), (.inr "first", .str "wn"), (.inr "each", .str "wn"), (.inr "give", .str "v"), (.inr "fail", .str "w"), (.inr "guard", .str "SsS"), (.inr "if", .str "wSS"), (.inr "wait", .str "w"), (.inr "run", .str "w"), (.inr "story", .str "wS"), (.inr "cancel", .str "w"), (.inr "yield", .str "r"), (.inr "call", .str "w")]
def kd_LOOKS : List (Key × D) := [(.inr "w", .fn 1), (.inr "n", .fn 4), (.inr "v", .fn 3), (.inr "r", .fn 5), (.inr "k", .fn 6), (.inr "e", .fn 7), (.inr "i", .fn 8)]
noncomputable def b0 (c : Nat → EvC) : EvS :=
  (sRet (fAnd (fCall isiC (fCons (fVar 0) (fCons (fC (.ty "int")) fNil))) (fAnd (fNot (fCall isiC (fCons (fVar 0) (fCons (fC (.ty "bool")) fNil)))) (fChain leD leD (fVar 1) (fVar 0) (fVar 2)))))
noncomputable def b1 (c : Nat → EvC) : EvS :=
  (sSeq (sIf (fTOr (fTNot (fTru (fCall isiC (fCons (fVar 0) (fCons (fC (.ty "str")) fNil))))) (fTNot (fB (fChain leD leD (fC (.int 1)) (fCall lenC (fCons (fVar 0) fNil)) (fC (.int 8)))))) (sRet (fC (.bl false))) sNil)
    (sRet (fCall allC (fCons (fComp (iVal (fVar 0)) [1] (tgN 1) cYes (fBin inD (fVar 1) (fC (.str "abcdefghijklmnopqrstuvwxyz")))) fNil))))
noncomputable def b2 (c : Nat → EvC) : EvS :=
  (sSeq (sIf (fTOr (fB (fBin isD (fVar 0) (fC .non))) (fTOr (fTru (fCall (c 1) (fCons (fVar 0) fNil))) (fTru (fCall (c 0) (fCons (fVar 0) (fCons (fUn negD (fC (.int 1000000000))) (fCons (fC (.int 1000000000)) fNil))))))) (sRet (fC (.bl true))) sNil)
    (sSeq (sIf (fTOr (fB (fBin eqD (fVar 1) (fC (.int 0)))) (fTOr (fTNot (fTru (fCall isiC (fCons (fVar 0) (fCons (fC (.ty "tuple")) fNil))))) (fB (fBin gtD (fCall lenC (fCons (fVar 0) fNil)) (fC (.int 20)))))) (sRet (fC (.bl false))) sNil)
    (sRet (fCall allC (fCons (fComp (iVal (fVar 0)) [2] (tgN 2) cYes (fCall (c 2) (fCons (fVar 2) (fCons (fBin subD (fVar 1) (fC (.int 1))) fNil)))) fNil)))))
noncomputable def b3 (c : Nat → EvC) : EvS :=
  (sRet (fCall (c 2) (fCons (fVar 0) (fCons (fC (.int 4)) fNil))))
noncomputable def b4 (c : Nat → EvC) : EvS :=
  (sRet (fAnd (fCall isiC (fCons (fVar 0) (fCons (fC (.ty "tuple")) fNil))) (fAnd (fBin leD (fCall lenC (fCons (fVar 0) fNil)) (fC (.int 8))) (fCall allC (fCons (fComp (iVal (fVar 0)) [1] (tgN 1) cYes (fCall (c 1) (fCons (fVar 1) fNil))) fNil)))))
noncomputable def b5 (c : Nat → EvC) : EvS :=
  (sRet (fCall (c 0) (fCons (fVar 0) (fCons (fC (.int 0)) (fCons (fC (.int 5)) fNil)))))
noncomputable def b6 (c : Nat → EvC) : EvS :=
  (sRet (fCall (c 0) (fCons (fVar 0) (fCons (fC (.int 0)) (fCons (fC (.int 1000)) fNil)))))
noncomputable def b7 (c : Nat → EvC) : EvS :=
  (sRet (fCall (c 0) (fCons (fVar 0) (fCons (fC (.int 1)) (fCons (fC (.int 1000)) fNil)))))
noncomputable def b8 (c : Nat → EvC) : EvS :=
  (sRet (fOr (fBin isD (fVar 0) (fC .non)) (fCall (c 6) (fCons (fVar 0) fNil))))
noncomputable def b9 (c : Nat → EvC) : EvS :=
  (sSeq (sIf (fTAnd (fB (fBin eqD (fVar 0) (fC (.str "s")))) (fB (fBin isD (fVar 1) (fC .non)))) (sRet (fC (.int 0))) sNil)
    (sSeq (sIf (fB (fBin inD (fVar 0) (fC (.str "Ss")))) (sRet (fCall (c 11) (fCons (fVar 1) (fCons (fBin subD (fVar 2) (fC (.int 1))) fNil)))) sNil)
    (sSeq (sSet 3 (fBin ixD (fC (.kd kd_LOOKS)) (fVar 0)))
    (sRet (fIf (fTru (fCallV c [1, 4, 3, 5, 6, 7, 8] 3 (fCons (fVar 1) fNil))) (fC (.int 0)) (fC .non))))))
noncomputable def b10 (c : Nat → EvC) : EvS :=
  (sSeq (sIf (fTOr (fTNot (fTru (fCall isiC (fCons (fVar 0) (fCons (fC (.ty "tuple")) fNil))))) (fTOr (fB (fBin eqD (fVar 0) (fTup fNil))) (fTOr (fTNot (fTru (fCall isiC (fCons (fBin ixD (fVar 0) (fC (.int 0))) (fCons (fC (.ty "str")) fNil))))) (fB (fBin notInD (fBin ixD (fVar 0) (fC (.int 0))) (fC (.kd kd_FORMS))))))) (sRet (fC .non)) sNil)
    (sSeq (sAsg (fVar 0) (tgStar 2 3))
    (sSeq (sIf (fB (fBin neD (fCall lenC (fCons (fVar 3) fNil)) (fCall lenC (fCons (fBin ixD (fC (.kd kd_FORMS)) (fVar 2)) fNil)))) (sRet (fC .non)) sNil)
    (sSeq (sSet 4 (fC (.int 1)))
    (sSeq (sFor (iZip (fCons (fBin ixD (fC (.kd kd_FORMS)) (fVar 2)) (fCons (fVar 3) fNil))) (tgTup 2 (tgsCons (tgN 5) (tgsCons (tgN 6) tgsNil))) (sSeq (sSet 7 (fCall (c 9) (fCons (fVar 5) (fCons (fVar 6) (fCons (fVar 1) fNil)))))
    (sSeq (sIf (fB (fBin isD (fVar 7) (fC .non))) (sRet (fC .non)) sNil)
    (sAug 4 iaddD (fVar 7)))))
    (sRet (fVar 4)))))))
noncomputable def b11 (c : Nat → EvC) : EvS :=
  (sSeq (sIf (fTOr (fB (fBin eqD (fVar 1) (fC (.int 0)))) (fTNot (fTru (fCall isiC (fCons (fVar 0) (fCons (fC (.ty "tuple")) fNil)))))) (sRet (fC .non)) sNil)
    (sSeq (sSet 2 (fC (.int 0)))
    (sSeq (sFor (iVal (fVar 0)) (tgN 3) (sSeq (sSet 4 (fCall (c 10) (fCons (fVar 3) (fCons (fVar 1) fNil))))
    (sSeq (sIf (fTOr (fB (fBin isD (fVar 4) (fC .non))) (fB (fBin gtD (fBin addD (fVar 2) (fVar 4)) (fC (.int 200))))) (sRet (fC .non)) sNil)
    (sAug 2 iaddD (fVar 4)))))
    (sRet (fVar 2)))))
noncomputable def b12 (c : Nat → EvC) : EvS :=
  (sRet (fBin isNotD (fCall (c 11) (fCons (fVar 0) (fCons (fC (.int 5)) fNil))) (fC .non)))
noncomputable def b13 (c : Nat → EvC) : EvS :=
  (sSeq (sIf (fB (fBin isD (fVar 0) (fC .non))) (sRet (fC (.str "-"))) sNil)
    (sSeq (sIf (fTru (fCall isiC (fCons (fVar 0) (fCons (fC (.ty "tuple")) fNil)))) (sRet (fBM "str" joinM (fC (.str " ")) (fCons (fBin addD (fBin addD (fLst (fCons (fC (.str "<")) fNil)) (fComp (iVal (fVar 0)) [1] (tgN 1) cYes (fCall (c 13) (fCons (fVar 1) fNil)))) (fLst (fCons (fC (.str ">")) fNil))) fNil))) sNil)
    (sRet (fCall strC (fCons (fVar 0) fNil)))))
noncomputable def b14 (c : Nat → EvC) : EvS :=
  (sSeq (sIf (fTAnd (fB (fBin inD (fVar 0) (fC (.str "Ss")))) (fB (fBin isNotD (fVar 1) (fC .non)))) (sRet (fBM "str" joinM (fC (.str " ")) (fCons (fBin addD (fBin addD (fLst (fCons (fC (.str "[")) fNil)) (fComp (iVal (fVar 1)) [2] (tgN 2) cYes (fCall (c 15) (fCons (fVar 2) fNil)))) (fLst (fCons (fC (.str "]")) fNil))) fNil))) sNil)
    (sRet (fCall (c 13) (fCons (fVar 1) fNil))))
noncomputable def b15 (c : Nat → EvC) : EvS :=
  (sSeq (sAsg (fVar 0) (tgStar 1 2))
    (sSeq (sSet 3 (fComp (iZip (fCons (fBin ixD (fC (.kd kd_FORMS)) (fVar 1)) (fCons (fVar 2) fNil))) [4, 5] (tgTup 2 (tgsCons (tgN 4) (tgsCons (tgN 5) tgsNil))) cYes (fCall (c 14) (fCons (fVar 4) (fCons (fVar 5) fNil)))))
    (sRet (fBM "str" joinM (fC (.str " ")) (fCons (fBin addD (fBin addD (fLst (fCons (fC (.str "(")) (fCons (fVar 1) fNil))) (fVar 3)) (fLst (fCons (fC (.str ")")) fNil))) fNil)))))
noncomputable def b16 (c : Nat → EvC) : EvS :=
  (sRet (fBM "str" joinM (fC (.str " ")) (fCons (fComp (iVal (fVar 0)) [1] (tgN 1) cYes (fCall (c 15) (fCons (fVar 1) fNil))) fNil)))
noncomputable def b17 (c : Nat → EvC) : EvS :=
  (sSeq (sSet 1 (fIf (fTru (fBM "str" stwM (fVar 0) (fCons (fC (.str "-")) fNil))) (fSl (fVar 0) (oSome (fC (.int 1))) oNone) (fVar 0)))
    (sSeq (sIf (fTAnd (fB (fChain ltD leD (fC (.int 0)) (fCall lenC (fCons (fVar 1) fNil)) (fC (.int 10)))) (fTru (fCall allC (fCons (fComp (iVal (fVar 1)) [2] (tgN 2) cYes (fBin inD (fVar 2) (fC (.str "0123456789")))) fNil)))) (sRet (fCall intS (fCons (fVar 0) fNil))) sNil)
    (sRet (fIf (fB (fBin eqD (fVar 0) (fC (.str "-")))) (fC .non) (fVar 0)))))
noncomputable def b18 (c : Nat → EvC) : EvS :=
  (sSeq (sFldS [0] "row" (fVar 0) (fBM "str" splM (fVar 1) (fCons (fC (.str " ")) fNil)))
    (sFldS [0] "at" (fVar 0) (fC (.int 0))))
noncomputable def b19 (c : Nat → EvC) : EvS :=
  (sRet (fBin eqD (fFld [0] "at" (fVar 0)) (fCall lenC (fCons (fFld [0] "row" (fVar 0)) fNil))))
noncomputable def b20 (c : Nat → EvC) : EvS :=
  (sSeq (sIf (fTru (fMeth 0 "is_over" (c 19) (fVar 0) fNil)) sBad sNil)
    (sSeq (sFldAdd [0] "at" (fVar 0) (fC (.int 1)))
    (sRet (fBin ixD (fFld [0] "row" (fVar 0)) (fBin subD (fFld [0] "at" (fVar 0)) (fC (.int 1)))))))
noncomputable def b21 (c : Nat → EvC) : EvS :=
  (sSeq (sSet 2 (fMeth 0 "next_word" (c 20) (fVar 0) fNil))
    (sSeq (sIf (fB (fBin notInD (fVar 2) (fC (.kd kd_ENDS)))) (sRet (fCall (c 17) (fCons (fVar 2) fNil))) sNil)
    (sSeq (sIf (fB (fBin eqD (fVar 1) (fC (.int 0)))) sBad sNil)
    (sSeq (sSet 3 (fNew fNil))
    (sSeq (sWhile 1000000 (fTAnd (fTNot (fTru (fMeth 0 "is_over" (c 19) (fVar 0) fNil))) (fB (fBin neD (fBin ixD (fFld [0] "row" (fVar 0)) (fFld [0] "at" (fVar 0))) (fBin ixD (fC (.kd kd_ENDS)) (fVar 2))))) (sExpr (fBM "list" appM (fVar 3) (fCons (fMeth 0 "bracketed" (c 21) (fVar 0) (fCons (fBin subD (fVar 1) (fC (.int 1))) fNil)) fNil))))
    (sSeq (sExpr (fMeth 0 "next_word" (c 20) (fVar 0) fNil))
    (sRet (fCall tupleC (fCons (fVar 3) fNil)))))))))
noncomputable def b22 (c : Nat → EvC) : EvS :=
  (sSeq (sIf (fTNot (fTru (fCall isiC (fCons (fVar 0) (fCons (fC (.ty "str")) fNil))))) sBad sNil)
    (sSeq (sSet 1 (fMake 0 (c 18) (fCons (fVar 0) fNil)))
    (sSeq (sSet 2 (fNew fNil))
    (sSeq (sWhile 1000000 (fTAnd (fB (fBin neD (fVar 0) (fC (.str "")))) (fTNot (fTru (fMeth 0 "is_over" (c 19) (fVar 1) fNil)))) (sExpr (fBM "list" appM (fVar 2) (fCons (fMeth 0 "bracketed" (c 21) (fVar 1) (fCons (fC (.int 13)) fNil)) fNil))))
    (sSeq (sSet 3 (fCall tupleC (fCons (fVar 2) fNil)))
    (sSeq (sIf (fTOr (fTNot (fTru (fCall (c 12) (fCons (fVar 3) fNil)))) (fB (fBin neD (fCall (c 16) (fCons (fVar 3) fNil)) (fVar 0)))) sBad sNil)
    (sRet (fVar 3))))))))
noncomputable def b23 (c : Nat → EvC) : EvS :=
  (sRet (fDisp (((fC (.str "cells")), (fCall listC (fCons (fSl (fVar 0) oNone (oSome (fC (.int 63)))) fNil))) :: (((fC (.str "at")), (fC (.int 0))) :: (((fC (.str "left")), (fC (.int 0))) :: [])))))
noncomputable def b24 (c : Nat → EvC) : EvS :=
  (sSeq (sIf (fB (fBin gtD (fBin ixD (fVar 0) (fC (.str "left"))) (fC (.int 0)))) (sSeq (sSet 2 (fBin modD (fBin ixD (fVar 0) (fC (.str "left"))) (fVar 1)))
    (sSeq (sSub (fBin fdivD (fBin ixD (fVar 0) (fC (.str "left"))) (fVar 1)) (fVar 0) (fC (.str "left")))
    (sRet (fVar 2)))) sNil)
    (sSeq (sSet 3 (fBin ixD (fVar 0) (fC (.str "at"))))
    (sSeq (sSub (fBin addD (fVar 3) (fC (.int 1))) (fVar 0) (fC (.str "at")))
    (sSeq (sSet 4 (fC (.int 23)))
    (sSeq (sIf (fB (fBin neD (fBin ixD (fVar 0) (fC (.str "cells"))) (fLst fNil))) (sSet 4 (fBin ixD (fBin ixD (fVar 0) (fC (.str "cells"))) (fBin modD (fVar 3) (fCall lenC (fCons (fBin ixD (fVar 0) (fC (.str "cells"))) fNil))))) sNil)
    (sSeq (sIf (fTAnd (fB (fBin ltD (fVar 3) (fCall lenC (fCons (fBin ixD (fVar 0) (fC (.str "cells"))) fNil)))) (fB (fBin geD (fVar 4) (fBin powD (fC (.int 10)) (fC (.int 18)))))) (sSeq (sSub (fBin fdivD (fBin subD (fVar 4) (fBin powD (fC (.int 10)) (fC (.int 18)))) (fVar 1)) (fVar 0) (fC (.str "left")))
    (sRet (fBin modD (fBin subD (fVar 4) (fBin powD (fC (.int 10)) (fC (.int 18)))) (fVar 1)))) sNil)
    (sSeq (sSet 5 (fBin modD (fBin addD (fBin addD (fBin addD (fBin mulD (fBin modD (fVar 4) (fC (.int 2147483549))) (fC (.int 40692))) (fBin mulD (fBin mulD (fC (.int 7919)) (fVar 3)) (fVar 3))) (fBin mulD (fC (.int 104729)) (fVar 3))) (fC (.int 3))) (fC (.int 2147483647))))
    (sSeq (sSet 5 (fBin modD (fBin addD (fBin addD (fBin mulD (fVar 5) (fVar 5)) (fBin mulD (fC (.int 69621)) (fVar 5))) (fC (.int 7))) (fC (.int 2147483629))))
    (sRet (fBin modD (fBin fdivD (fVar 5) (fC (.int 61))) (fVar 1)))))))))))
noncomputable def b25 (c : Nat → EvC) : EvS :=
  (sRet (fBin ixD (fVar 1) (fCall (c 24) (fCons (fVar 0) (fCons (fCall lenC (fCons (fVar 1) fNil)) fNil)))))
noncomputable def b26 (c : Nat → EvC) : EvS :=
  (sSeq (sSet 1 (fLst (fCons (fC (.str "say")) (fCons (fC (.str "kept")) (fCons (fC (.str "none")) (fCons (fC (.str "a")) (fCons (fC (.str "z")) (fCons (fC (.str "abcdefgh")) (fCons (fC (.str "zzzzzzzz")) (fCons (fC (.str "post")) fNil))))))))))
    (sSeq (sSet 2 (fC (.str "abcdefghijklmnopqrstuvwxyz")))
    (sSeq (sSet 3 (fBM "str" joinM (fC (.str "")) (fCons (fComp (iRange1 (fBin addD (fC (.int 1)) (fCall (c 24) (fCons (fVar 0) (fCons (fC (.int 8)) fNil))))) [4] (tgN 4) cYes (fCall (c 25) (fCons (fVar 0) (fCons (fVar 2) fNil)))) fNil)))
    (sRet (fBin ixD (fLst (fCons (fVar 3) (fCons (fCall (c 25) (fCons (fVar 0) (fCons (fVar 1) fNil))) fNil))) (fCall (c 24) (fCons (fVar 0) (fCons (fC (.int 2)) fNil))))))))
noncomputable def b27 (c : Nat → EvC) : EvS :=
  (sSeq (sSet 2 (fCall (c 24) (fCons (fVar 0) (fCons (fBin addD (fC (.int 4)) (fCall intC (fCons (fBin gtD (fVar 1) (fC (.int 0))) fNil))) fNil))))
    (sSeq (sIf (fB (fBin ltD (fVar 2) (fC (.int 2)))) (sRet (fBin ixD (fLst (fCons (fC .non) (fCons (fCall (c 26) (fCons (fVar 0) fNil)) fNil))) (fVar 2))) sNil)
    (sSeq (sIf (fB (fBin eqD (fVar 2) (fC (.int 2)))) (sRet (fBin subD (fCall (c 24) (fCons (fVar 0) (fCons (fC (.int 2001)) fNil))) (fC (.int 1000)))) sNil)
    (sSeq (sIf (fB (fBin eqD (fVar 2) (fC (.int 3)))) (sRet (fBin ixD (fLst (fCons (fC (.int 1000000000)) (fCons (fUn negD (fC (.int 1000000000))) (fCons (fC (.int 0)) (fCons (fUn negD (fC (.int 1))) fNil))))) (fCall (c 24) (fCons (fVar 0) (fCons (fC (.int 4)) fNil))))) sNil)
    (sSeq (sSet 3 (fBin ixD (fLst (fCons (fCall (c 24) (fCons (fVar 0) (fCons (fC (.int 4)) fNil))) (fCons (fC (.int 20)) fNil))) (fCall intC (fCons (fAnd (fBin eqD (fVar 1) (fC (.int 1))) (fBin eqD (fCall (c 24) (fCons (fVar 0) (fCons (fC (.int 9)) fNil))) (fC (.int 0)))) fNil))))
    (sRet (fCall tupleC (fCons (fComp (iRange1 (fVar 3)) [4] (tgN 4) cYes (fCall (c 27) (fCons (fVar 0) (fCons (fBin subD (fVar 1) (fC (.int 1))) fNil)))) fNil))))))))
noncomputable def b28 (c : Nat → EvC) : EvS :=
  (sSeq (sSet 0 (fDisp (((fC (.str "say")), (fC (.str "w"))) :: (((fC (.str "echo")), (fC (.str ""))) :: (((fC (.str "spend")), (fC (.str "k"))) :: (((fC (.str "post")), (fC (.str "rwS"))) :: (((fC (.str "micro")), (fC (.str "S"))) :: (((fC (.str "after")), (fC (.str "krwS"))) :: (((fC (.str "every")), (fC (.str "erwS"))) :: [])))))))))
    (sSeq (sExpr (fBM "dict" updM (fVar 0) (fCons (fDisp (((fC (.str "idle")), (fC (.str "iwS"))) :: (((fC (.str "stop")), (fC (.str "w"))) :: (((fC (.str "rerank")), (fC (.str "wr"))) :: (((fC (.str "make")), (fC (.str "w"))) :: (((fC (.str "keep")), (fC (.str "wv"))) :: (((fC (.str "pass")), (fC (.str "w"))) :: (((fC (.str "break")), (fC (.str "ww"))) :: [])))))))) fNil)))
    (sSeq (sExpr (fBM "dict" updM (fVar 0) (fCons (fDisp (((fC (.str "follow")), (fC (.str "ww"))) :: (((fC (.str "then")), (fC (.str "wwss"))) :: (((fC (.str "all")), (fC (.str "wn"))) :: (((fC (.str "any")), (fC (.str "wn"))) :: (((fC (.str "first")), (fC (.str "wn"))) :: (((fC (.str "each")), (fC (.str "wn"))) :: (((fC (.str "give")), (fC (.str "v"))) :: [])))))))) fNil)))
    (sSeq (sExpr (fBM "dict" updM (fVar 0) (fCons (fDisp (((fC (.str "fail")), (fC (.str "w"))) :: (((fC (.str "guard")), (fC (.str "SsS"))) :: (((fC (.str "if")), (fC (.str "wSS"))) :: (((fC (.str "wait")), (fC (.str "w"))) :: (((fC (.str "run")), (fC (.str "w"))) :: (((fC (.str "story")), (fC (.str "wS"))) :: (((fC (.str "cancel")), (fC (.str "w"))) :: [])))))))) fNil)))
    (sSeq (sExpr (fBM "dict" updM (fVar 0) (fCons (fDisp (((fC (.str "yield")), (fC (.str "r"))) :: (((fC (.str "call")), (fC (.str "w"))) :: []))) fNil)))
    (sRet (fVar 0)))))))
noncomputable def b29 (c : Nat → EvC) : EvS :=
  (sSeq (sSet 4 (fBin ixD (fLst (fCons (fC (.int 0)) (fCons (fC (.int 1)) (fCons (fCall (c 24) (fCons (fVar 0) (fCons (fC (.int 1001)) fNil))) (fCons (fC (.int 1000)) fNil))))) (fCall (c 24) (fCons (fVar 0) (fCons (fC (.int 4)) fNil)))))
    (sSeq (sIf (fB (fBin eqD (fVar 1) (fC (.str "i")))) (sRet (fBin ixD (fLst (fCons (fC .non) (fCons (fVar 4) fNil))) (fCall (c 24) (fCons (fVar 0) (fCons (fC (.int 2)) fNil))))) sNil)
    (sSeq (sIf (fB (fBin inD (fVar 1) (fC (.str "ke")))) (sRet (fCall maxC (fCons (fVar 4) (fCons (fCall intC (fCons (fBin eqD (fVar 1) (fC (.str "e"))) fNil)) fNil)))) sNil)
    (sSeq (sIf (fB (fBin inD (fVar 1) (fC (.str "wr")))) (sRet (fIf (fB (fBin eqD (fVar 1) (fC (.str "w")))) (fCall (c 26) (fCons (fVar 0) fNil)) (fCall (c 24) (fCons (fVar 0) (fCons (fC (.int 6)) fNil))))) sNil)
    (sSeq (sIf (fB (fBin inD (fVar 1) (fC (.str "vn")))) (sRet (fIf (fB (fBin eqD (fVar 1) (fC (.str "v")))) (fCall (c 27) (fCons (fVar 0) (fCons (fC (.int 2)) fNil))) (fCall tupleC (fCons (fComp (iRange1 (fCall (c 24) (fCons (fVar 0) (fCons (fC (.int 9)) fNil)))) [5] (tgN 5) cYes (fCall (c 26) (fCons (fVar 0) fNil))) fNil)))) sNil)
    (sSeq (sIf (fTAnd (fB (fBin eqD (fVar 1) (fC (.str "s")))) (fTOr (fB (fBin ltD (fVar 3) (fC (.int 2)))) (fB (fBin eqD (fCall (c 24) (fCons (fVar 0) (fCons (fC (.int 3)) fNil))) (fC (.int 0)))))) (sRet (fC .non)) sNil)
    (sRet (fCall (c 30) (fCons (fVar 0) (fCons (fVar 2) (fCons (fBin subD (fVar 3) (fC (.int 1))) fNil)))))))))))
noncomputable def b30 (c : Nat → EvC) : EvS :=
  (sSeq (sAsg (fTup (fCons (fNew fNil) (fCons (fCall (c 28) fNil) fNil))) (tgTup 2 (tgsCons (tgN 3) (tgsCons (tgN 4) tgsNil))))
    (sSeq (sSet 5 (fComp (iVal (fVar 4)) [6] (tgN 6) (fTOr (fB (fBin gtD (fVar 2) (fC (.int 1)))) (fB (fBin notInD (fC (.str "S")) (fBin ixD (fVar 4) (fVar 6))))) (fVar 6)))
    (sSeq (sFor (iRange1 (fCall (c 24) (fCons (fVar 0) (fCons (fC (.int 7)) fNil)))) (tgN 7) (sIf (fB (fBin gtD (fBin ixD (fVar 1) (fC (.str "left"))) (fC (.int 0)))) (sSeq (sSub (fBin subD (fBin ixD (fVar 1) (fC (.str "left"))) (fC (.int 1))) (fVar 1) (fC (.str "left")))
    (sSeq (sSet 6 (fCall (c 25) (fCons (fVar 0) (fCons (fVar 5) fNil))))
    (sExpr (fBM "list" appM (fVar 3) (fCons (fCall tupleC (fCons (fBin addD (fLst (fCons (fVar 6) fNil)) (fComp (iVal (fBin ixD (fVar 4) (fVar 6))) [8] (tgN 8) cYes (fCall (c 29) (fCons (fVar 0) (fCons (fVar 8) (fCons (fVar 1) (fCons (fVar 2) fNil))))))) fNil)) fNil))))) sNil))
    (sRet (fCall tupleC (fCons (fVar 3) fNil))))))
noncomputable def b31 (c : Nat → EvC) : EvS :=
  (sSeq (sIf (fTru (fCall isiC (fCons (fVar 0) (fCons (fC (.ty "tuple")) fNil)))) (sRet (fBM "str" joinM (fC (.str " ")) (fCons (fBin addD (fBin addD (fLst (fCons (fC (.str "<")) fNil)) (fComp (iVal (fVar 0)) [1] (tgN 1) cYes (fCall (c 31) (fCons (fVar 1) fNil)))) (fLst (fCons (fC (.str ">")) fNil))) fNil))) sNil)
    (sRet (fIf (fB (fBin isD (fVar 0) (fC .non))) (fC (.str "-")) (fCall strC (fCons (fVar 0) fNil)))))
noncomputable def b32 (c : Nat → EvC) : EvS :=
  (sSeq (sPar 1 2 (fCons (fNew fNil) (fCons (fCall (c 28) fNil) fNil)))
    (sSeq (sFor (iVal (fVar 0)) (tgN 3) (sSeq (sSet 1 (fBin addN (fVar 1) (fLst (fCons (fC (.str "(")) (fCons (fBin ixD (fVar 3) (fC (.int 0))) fNil)))))
    (sSeq (sFor (iZip (fCons (fBin ixD (fVar 2) (fBin ixD (fVar 3) (fC (.int 0)))) (fCons (fSl (fVar 3) (oSome (fC (.int 1))) oNone) fNil))) (tgTup 2 (tgsCons (tgN 4) (tgsCons (tgN 5) tgsNil))) (sIf (fTAnd (fB (fBin inD (fVar 4) (fC (.str "Ss")))) (fB (fBin isNotD (fVar 5) (fC .non)))) (sSet 1 (fBin addN (fBin addD (fBin addD (fVar 1) (fLst (fCons (fC (.str "[")) fNil))) (fBin mulD (fLst (fCons (fCall (c 32) (fCons (fVar 5) fNil)) fNil)) (fCall intC (fCons (fBin neD (fVar 5) (fTup fNil)) fNil)))) (fLst (fCons (fC (.str "]")) fNil)))) (sExpr (fBM "list" appM (fVar 1) (fCons (fCall (c 31) (fCons (fVar 5) fNil)) fNil)))))
    (sExpr (fBM "list" appM (fVar 1) (fCons (fC (.str ")")) fNil))))))
    (sRet (fBM "str" joinM (fC (.str " ")) (fCons (fVar 1) fNil)))))
noncomputable def b33 (c : Nat → EvC) : EvS :=
  (sRet (fAnd (fCall isiC (fCons (fVar 0) (fCons (fC (.ty "int")) fNil))) (fAnd (fNot (fCall isiC (fCons (fVar 0) (fCons (fC (.ty "bool")) fNil)))) (fChain leD leD (fVar 1) (fVar 0) (fVar 2)))))
noncomputable def b34 (c : Nat → EvC) : EvS :=
  (sSeq (sIf (fTOr (fTNot (fTru (fCall isiC (fCons (fVar 0) (fCons (fC (.ty "str")) fNil))))) (fTNot (fB (fChain leD leD (fC (.int 1)) (fCall lenC (fCons (fVar 0) fNil)) (fC (.int 8)))))) (sRet (fC (.bl false))) sNil)
    (sRet (fBin eqD (fComp (iVal (fVar 0)) [1] (tgN 1) (fB (fBin notInD (fVar 1) (fC (.str "abcdefghijklmnopqrstuvwxyz")))) (fVar 1)) (fLst fNil))))
noncomputable def b35 (c : Nat → EvC) : EvS :=
  (sSeq (sIf (fTru (fCall isiC (fCons (fVar 0) (fCons (fC (.ty "tuple")) fNil)))) (sRet (fAnd (fBin gtD (fVar 1) (fC (.int 0))) (fAnd (fBin leD (fCall lenC (fCons (fVar 0) fNil)) (fC (.int 20))) (fBin eqD (fComp (iVal (fVar 0)) [2] (tgN 2) (fTNot (fTru (fCall (c 35) (fCons (fVar 2) (fCons (fBin subD (fVar 1) (fC (.int 1))) fNil))))) (fVar 2)) (fLst fNil))))) sNil)
    (sRet (fOr (fBin isD (fVar 0) (fC .non)) (fOr (fCall (c 34) (fCons (fVar 0) fNil)) (fCall (c 33) (fCons (fVar 0) (fCons (fUn negD (fC (.int 1000000000))) (fCons (fC (.int 1000000000)) fNil))))))))
noncomputable def b36 (c : Nat → EvC) : EvS :=
  (sSeq (sIf (fB (fBin eqD (fVar 0) (fC (.str "w")))) (sRet (fCall (c 34) (fCons (fVar 1) fNil))) sNil)
    (sSeq (sIf (fB (fBin eqD (fVar 0) (fC (.str "n")))) (sRet (fAnd (fCall isiC (fCons (fVar 1) (fCons (fC (.ty "tuple")) fNil))) (fAnd (fBin leD (fCall lenC (fCons (fVar 1) fNil)) (fC (.int 8))) (fBin eqD (fComp (iVal (fVar 1)) [2] (tgN 2) (fTNot (fTru (fCall (c 34) (fCons (fVar 2) fNil)))) (fVar 2)) (fLst fNil))))) sNil)
    (sSeq (sIf (fB (fBin eqD (fVar 0) (fC (.str "v")))) (sRet (fCall (c 35) (fCons (fVar 1) (fCons (fC (.int 4)) fNil)))) sNil)
    (sSeq (sIf (fB (fBin eqD (fVar 0) (fC (.str "r")))) (sRet (fCall (c 33) (fCons (fVar 1) (fCons (fC (.int 0)) (fCons (fC (.int 5)) fNil))))) sNil)
    (sRet (fOr (fAnd (fBin eqD (fVar 0) (fC (.str "i"))) (fBin isD (fVar 1) (fC .non))) (fCall (c 33) (fCons (fVar 1) (fCons (fCall intC (fCons (fBin eqD (fVar 0) (fC (.str "e"))) fNil)) (fCons (fC (.int 1000)) fNil))))))))))
noncomputable def b37 (c : Nat → EvC) : EvS :=
  (sSeq (sIf (fTOr (fB (fBin eqD (fVar 1) (fC (.int 0)))) (fTNot (fTru (fCall isiC (fCons (fVar 0) (fCons (fC (.ty "tuple")) fNil)))))) (sRet (fC (.int 1000))) sNil)
    (sSeq (sPar 2 3 (fCons (fC (.int 0)) (fCons (fCall (c 28) fNil) fNil)))
    (sSeq (sFor (iVal (fVar 0)) (tgN 4) (sSeq (sIf (fTOr (fTNot (fTru (fCall isiC (fCons (fVar 4) (fCons (fC (.ty "tuple")) fNil))))) (fTOr (fB (fBin eqD (fVar 4) (fTup fNil))) (fTOr (fTNot (fTru (fCall isiC (fCons (fBin ixD (fVar 4) (fC (.int 0))) (fCons (fC (.ty "str")) fNil))))) (fB (fBin notInD (fBin ixD (fVar 4) (fC (.int 0))) (fVar 3)))))) (sRet (fC (.int 1000))) sNil)
    (sSeq (sIf (fB (fBin neD (fCall lenC (fCons (fVar 4) fNil)) (fBin addD (fC (.int 1)) (fCall lenC (fCons (fBin ixD (fVar 3) (fBin ixD (fVar 4) (fC (.int 0)))) fNil))))) (sRet (fC (.int 1000))) sNil)
    (sSeq (sSet 2 (fBin addD (fVar 2) (fC (.int 1))))
    (sFor (iZip (fCons (fBin ixD (fVar 3) (fBin ixD (fVar 4) (fC (.int 0)))) (fCons (fSl (fVar 4) (oSome (fC (.int 1))) oNone) fNil))) (tgTup 2 (tgsCons (tgN 5) (tgsCons (tgN 6) tgsNil))) (sIf (fTAnd (fB (fBin inD (fVar 5) (fC (.str "Ss")))) (fTOr (fB (fBin eqD (fVar 5) (fC (.str "S")))) (fB (fBin isNotD (fVar 6) (fC .non))))) (sSet 2 (fBin addD (fVar 2) (fCall (c 37) (fCons (fVar 6) (fCons (fBin subD (fVar 1) (fC (.int 1))) fNil))))) (sIf (fTAnd (fB (fBin notInD (fVar 5) (fC (.str "Ss")))) (fTNot (fTru (fCall (c 36) (fCons (fVar 5) (fCons (fVar 6) fNil)))))) (sRet (fC (.int 1000))) sNil)))))))
    (sRet (fVar 2)))))
noncomputable def b38 (c : Nat → EvC) : EvS :=
  (sRet (fBin leD (fCall (c 37) (fCons (fVar 0) (fCons (fC (.int 5)) fNil))) (fC (.int 200))))
noncomputable def b39 (c : Nat → EvC) : EvS :=
  (sSeq (sSet 1 (fLst (fCons (fC .non) (fCons (fC (.bl true)) (fCons (fC (.bl false)) (fCons (fUn negD (fC (.int 1))) (fCons (fC (.int 6)) (fCons (fC (.int 1001)) (fCons (fC (.int 1000000001)) (fCons (fUn negD (fC (.int 1000000001))) (fCons (fBin powD (fC (.int 10)) (fC (.int 30))) (fCons (fC (.str "")) (fCons (fC (.str "A")) (fCons (fC (.str "abcdefghi")) (fCons (fC (.str "a b")) (fCons (fC (.str "-")) fNil))))))))))))))))
    (sSeq (sSet 1 (fBin addD (fVar 1) (fLst (fCons (fC (.str "say ")) (fCons (fTup fNil) (fCons (fTup (fCons (fC (.str "say")) fNil)) (fCons (fTup (fCons (fC (.str "echo")) (fCons (fC (.str "a")) fNil))) (fCons (fLst fNil) (fCons (fLst (fCons (fC (.str "say")) (fCons (fC (.str "a")) fNil))) (fCons fDict0 (fCons (fTup (fCons (fTup (fCons (fC (.str "echo")) fNil)) fNil)) (fCons (fLst (fCons (fTup (fCons (fC (.str "echo")) fNil)) fNil)) (fCons (fC (.str "echo")) fNil)))))))))))))
    (sRet (fBin ixD (fBin addD (fVar 1) (fLst (fCons (fC (.int 0)) (fCons (fC (.int 5)) (fCons (fC (.int 1000)) (fCons (fC (.str "a")) fNil)))))) (fCall (c 24) (fCons (fVar 0) (fCons (fC (.int 28)) fNil)))))))
noncomputable def b40 (c : Nat → EvC) : EvS :=
  (sSeq (sIf (fTOr (fTNot (fTru (fCall isiC (fCons (fVar 1) (fCons (fC (.ty "tuple")) fNil))))) (fTOr (fB (fBin eqD (fVar 1) (fTup fNil))) (fB (fBin eqD (fCall (c 24) (fCons (fVar 0) (fCons (fC (.int 12)) fNil))) (fC (.int 0)))))) (sRet (fCall (c 39) (fCons (fVar 0) fNil))) sNil)
    (sSeq (sPar 2 3 (fCons (fCall (c 24) (fCons (fVar 0) (fCons (fCall lenC (fCons (fVar 1) fNil)) fNil))) (fCons (fCall (c 24) (fCons (fVar 0) (fCons (fCall lenC (fCons (fVar 1) fNil)) fNil))) fNil)))
    (sSeq (sSet 4 (fCall (c 24) (fCons (fVar 0) (fCons (fC (.int 10)) fNil))))
    (sSeq (sIf (fB (fBin ltD (fVar 4) (fC (.int 6)))) (sRet (fBin addD (fBin addD (fSl (fVar 1) oNone (oSome (fVar 2))) (fTup (fCons (fCall (c 40) (fCons (fVar 0) (fCons (fBin ixD (fVar 1) (fVar 2)) fNil))) fNil))) (fSl (fVar 1) (oSome (fBin addD (fVar 2) (fC (.int 1)))) oNone))) sNil)
    (sSeq (sIf (fB (fBin eqD (fVar 4) (fC (.int 6)))) (sRet (fBin addD (fSl (fVar 1) oNone (oSome (fVar 2))) (fSl (fVar 1) (oSome (fBin addD (fVar 2) (fC (.int 1)))) oNone))) sNil)
    (sSeq (sIf (fB (fBin eqD (fVar 4) (fC (.int 7)))) (sRet (fBin addD (fBin addD (fSl (fVar 1) oNone (oSome (fVar 2))) (fTup (fCons (fBin ixD (fVar 1) (fVar 3)) fNil))) (fSl (fVar 1) (oSome (fVar 2)) oNone))) sNil)
    (sRet (fBin ixD (fLst (fCons (fBin addD (fBin addD (fSl (fVar 1) oNone (oSome (fVar 2))) (fTup (fCons (fBin ixD (fVar 1) (fVar 3)) fNil))) (fSl (fVar 1) (oSome (fBin addD (fVar 2) (fC (.int 1)))) oNone)) (fCons (fBin ixD (fLst (fCons (fUn revD (fVar 1)) (fCons (fCall listC (fCons (fVar 1) fNil)) fNil))) (fCall (c 24) (fCons (fVar 0) (fCons (fC (.int 2)) fNil)))) fNil))) (fBin subD (fVar 4) (fC (.int 8)))))))))))
noncomputable def b41 (c : Nat → EvC) : EvS :=
  (sSeq (sSet 1 (fCall (c 23) (fCons (fVar 0) fNil)))
    (sSeq (sFor (iRange1 (fC (.int 8))) (tgN 2) (sSeq (sSet 3 (fCall (c 30) (fCons (fVar 1) (fCons (fDisp (((fC (.str "left")), (fBin ixD (fLst (fCons (fC (.int 3)) (fCons (fC (.int 20)) (fCons (fC (.int 60)) fNil)))) (fCall (c 24) (fCons (fVar 1) (fCons (fC (.int 3)) fNil))))) :: [])) (fCons (fBin addD (fC (.int 1)) (fCall (c 24) (fCons (fVar 1) (fCons (fC (.int 5)) fNil)))) fNil)))))
    (sSeq (sSet 4 (fCall (c 40) (fCons (fVar 1) (fCons (fVar 3) fNil))))
    (sSeq (sSet 5 (fBin addD (fLst (fCons (fVar 3) fNil)) (fBin mulD (fLst (fCons (fVar 4) fNil)) (fCall intC (fCons (fCall (c 38) (fCons (fVar 4) fNil)) fNil)))))
    (sSeq (sFor (iVal (fVar 5)) (tgN 6) (sSeq (sSet 7 (fCall (c 32) (fCons (fVar 6) fNil)))
    (sSeq (sIf (fTOr (fB (fBin neD (fCall reprC (fCons (fCall (c 16) (fCons (fVar 6) fNil)) fNil)) (fCall reprC (fCons (fVar 7) fNil)))) (fB (fBin neD (fCallK (c 16) q16_0 fNil (fCons (fVar 6) fNil)) (fVar 7)))) (sRet (fC (.bl false))) sNil)
    (sIf (fTOr (fB (fBin neD (fCall reprC (fCons (fCall (c 22) (fCons (fVar 7) fNil)) fNil)) (fCall reprC (fCons (fVar 6) fNil)))) (fB (fBin neD (fCallK (c 22) q22_0 fNil (fCons (fVar 7) fNil)) (fVar 6)))) (sRet (fC (.bl false))) sNil))))
    (sIf (fB (fBin neD (fBin eqD (fCall (c 16) (fCons (fBin ixD (fVar 5) (fC (.int 0))) fNil)) (fCall (c 16) (fCons (fBin ixD (fVar 5) (fUn negD (fC (.int 1)))) fNil))) (fBin eqD (fBin ixD (fVar 5) (fC (.int 0))) (fBin ixD (fVar 5) (fUn negD (fC (.int 1))))))) (sRet (fC (.bl false))) sNil))))))
    (sRet (fAnd (fBin eqD (fCall (c 16) (fCons (fTup fNil) fNil)) (fC (.str ""))) (fBin eqD (fCall (c 22) (fCons (fC (.str "")) fNil)) (fTup fNil))))))
noncomputable def tab : Nat → FD
  | 0 => ⟨false, 3, 3, b0⟩
  | 1 => ⟨false, 2, 1, b1⟩
  | 2 => ⟨false, 3, 2, b2⟩
  | 3 => ⟨false, 1, 1, b3⟩
  | 4 => ⟨false, 2, 1, b4⟩
  | 5 => ⟨false, 1, 1, b5⟩
  | 6 => ⟨false, 1, 1, b6⟩
  | 7 => ⟨false, 1, 1, b7⟩
  | 8 => ⟨false, 1, 1, b8⟩
  | 9 => ⟨false, 4, 3, b9⟩
  | 10 => ⟨false, 8, 2, b10⟩
  | 11 => ⟨false, 5, 2, b11⟩
  | 12 => ⟨false, 1, 1, b12⟩
  | 13 => ⟨false, 2, 1, b13⟩
  | 14 => ⟨false, 3, 2, b14⟩
  | 15 => ⟨false, 6, 1, b15⟩
  | 16 => ⟨false, 2, 1, b16⟩
  | 17 => ⟨false, 3, 1, b17⟩
  | 18 => ⟨false, 2, 2, b18⟩
  | 19 => ⟨false, 1, 1, b19⟩
  | 20 => ⟨false, 1, 1, b20⟩
  | 21 => ⟨false, 4, 2, b21⟩
  | 22 => ⟨false, 4, 1, b22⟩
  | 23 => ⟨true, 1, 1, b23⟩
  | 24 => ⟨false, 6, 2, b24⟩
  | 25 => ⟨false, 2, 2, b25⟩
  | 26 => ⟨false, 5, 1, b26⟩
  | 27 => ⟨false, 5, 2, b27⟩
  | 28 => ⟨false, 1, 0, b28⟩
  | 29 => ⟨false, 6, 4, b29⟩
  | 30 => ⟨false, 9, 3, b30⟩
  | 31 => ⟨false, 2, 1, b31⟩
  | 32 => ⟨false, 6, 1, b32⟩
  | 33 => ⟨false, 3, 3, b33⟩
  | 34 => ⟨false, 2, 1, b34⟩
  | 35 => ⟨false, 3, 2, b35⟩
  | 36 => ⟨false, 3, 2, b36⟩
  | 37 => ⟨false, 7, 2, b37⟩
  | 38 => ⟨false, 1, 1, b38⟩
  | 39 => ⟨false, 2, 1, b39⟩
  | 40 => ⟨false, 5, 2, b40⟩
  | 41 => ⟨false, 8, 1, b41⟩
  | _ => ⟨false, 0, 0, fun _ => sBad⟩
def tabT (lp : Nat → Addr) : List (Addr × Str) := []
def tabC (lc lp : Nat → Addr) : List (Addr × Addr) := []
/-- what the top has written -/
structure Tx (PP : Params) (K : PySem.W.Frag) (mg : Str → Option Value) (fa lc lp ca : Nat → Addr) (fd : Nat → FuncData) : Prop where
  F0 : Fun K "is_from" "is_from" s0 (fa 0) (fd 0)
  g0 : mg "is_from" = some (.ref (fa 0))
  b0 : Binds K (fd 0) ["thing", "least", "greatest"] []
  F1 : Fun K "is_word" "is_word" s1 (fa 1) (fd 1)
  g1 : mg "is_word" = some (.ref (fa 1))
  b1 : Binds K (fd 1) ["thing"] []
  F2 : Fun K "is_worth_in" "is_worth_in" s2 (fa 2) (fd 2)
  g2 : mg "is_worth_in" = some (.ref (fa 2))
  b2 : Binds K (fd 2) ["thing", "left"] []
  F3 : Fun K "is_worth" "is_worth" s3 (fa 3) (fd 3)
  g3 : mg "is_worth" = some (.ref (fa 3))
  b3 : Binds K (fd 3) ["thing"] []
  F4 : Fun K "are_names" "are_names" s4 (fa 4) (fd 4)
  g4 : mg "are_names" = some (.ref (fa 4))
  b4 : Binds K (fd 4) ["thing"] []
  F5 : Fun K "is_rank" "is_rank" s5 (fa 5) (fd 5)
  g5 : mg "is_rank" = some (.ref (fa 5))
  b5 : Binds K (fd 5) ["thing"] []
  F6 : Fun K "is_delay" "is_delay" s6 (fa 6) (fd 6)
  g6 : mg "is_delay" = some (.ref (fa 6))
  b6 : Binds K (fd 6) ["thing"] []
  F7 : Fun K "is_round" "is_round" s7 (fa 7) (fd 7)
  g7 : mg "is_round" = some (.ref (fa 7))
  b7 : Binds K (fd 7) ["thing"] []
  F8 : Fun K "is_latest" "is_latest" s8 (fa 8) (fd 8)
  g8 : mg "is_latest" = some (.ref (fa 8))
  b8 : Binds K (fd 8) ["thing"] []
  F9 : Fun K "count_by" "count_by" s9 (fa 9) (fd 9)
  g9 : mg "count_by" = some (.ref (fa 9))
  b9 : Binds K (fd 9) ["kind", "part", "left"] []
  F10 : Fun K "count_in" "count_in" s10 (fa 10) (fd 10)
  g10 : mg "count_in" = some (.ref (fa 10))
  b10 : Binds K (fd 10) ["deed", "left"] []
  F11 : Fun K "count_of" "count_of" s11 (fa 11) (fd 11)
  g11 : mg "count_of" = some (.ref (fa 11))
  b11 : Binds K (fd 11) ["thing", "left"] []
  F12 : Fun K "is_script" "is_script" s12 (fa 12) (fd 12)
  g12 : mg "is_script" = some (.ref (fa 12))
  b12 : Binds K (fd 12) ["thing"] []
  F13 : Fun K "show_worth" "show_worth" s13 (fa 13) (fd 13)
  g13 : mg "show_worth" = some (.ref (fa 13))
  b13 : Binds K (fd 13) ["worth"] []
  F14 : Fun K "show_part" "show_part" s14 (fa 14) (fd 14)
  g14 : mg "show_part" = some (.ref (fa 14))
  b14 : Binds K (fd 14) ["kind", "part"] []
  F15 : Fun K "show_deed" "show_deed" s15 (fa 15) (fd 15)
  g15 : mg "show_deed" = some (.ref (fa 15))
  b15 : Binds K (fd 15) ["deed"] []
  F16 : Fun K "show_script" "show_script" s16 (fa 16) (fd 16)
  g16 : mg "show_script" = some (.ref (fa 16))
  b16 : Binds K (fd 16) ["script"] []
  F17 : Fun K "atom_in" "atom_in" s17 (fa 17) (fd 17)
  g17 : mg "atom_in" = some (.ref (fa 17))
  b17 : Binds K (fd 17) ["word"] []
  F18 : Fun K "__init__" "Words.__init__" s18 (fa 18) (fd 18)
  g18 : Mk K (ca 0) (fa 18)
  b18 : Binds K (fd 18) ["self", "text"] []
  F19 : Fun K "is_over" "Words.is_over" s19 (fa 19) (fd 19)
  g19 : Meth K (ca 0) "is_over" (fa 19)
  b19 : Binds K (fd 19) ["self"] []
  F20 : Fun K "next_word" "Words.next_word" s20 (fa 20) (fd 20)
  g20 : Meth K (ca 0) "next_word" (fa 20)
  b20 : Binds K (fd 20) ["self"] []
  F21 : Fun K "bracketed" "Words.bracketed" s21 (fa 21) (fd 21)
  g21 : Meth K (ca 0) "bracketed" (fa 21)
  b21 : Binds K (fd 21) ["self", "left"] []
  F22 : Fun K "read_script" "read_script" s22 (fa 22) (fd 22)
  g22 : mg "read_script" = some (.ref (fa 22))
  b22 : Binds K (fd 22) ["text"] []
  F23 : Fun K "_law_pen" "_law_pen" s23 (fa 23) (fd 23)
  g23 : mg "_law_pen" = some (.ref (fa 23))
  b23 : Binds K (fd 23) ["_law_cells"] []
  F24 : Fun K "_law_draw" "_law_draw" s24 (fa 24) (fd 24)
  g24 : mg "_law_draw" = some (.ref (fa 24))
  b24 : Binds K (fd 24) ["_law_held", "_law_many_here"] []
  F25 : Fun K "_law_pick" "_law_pick" s25 (fa 25) (fd 25)
  g25 : mg "_law_pick" = some (.ref (fa 25))
  b25 : Binds K (fd 25) ["_law_held", "_law_some"] []
  F26 : Fun K "_law_word" "_law_word" s26 (fa 26) (fd 26)
  g26 : mg "_law_word" = some (.ref (fa 26))
  b26 : Binds K (fd 26) ["_law_held"] []
  F27 : Fun K "_law_worth" "_law_worth" s27 (fa 27) (fd 27)
  g27 : mg "_law_worth" = some (.ref (fa 27))
  b27 : Binds K (fd 27) ["_law_held", "_law_within"] []
  F28 : Fun K "_law_forms" "_law_forms" s28 (fa 28) (fd 28)
  g28 : mg "_law_forms" = some (.ref (fa 28))
  b28 : Binds K (fd 28) [] []
  F29 : Fun K "_law_part" "_law_part" s29 (fa 29) (fd 29)
  g29 : mg "_law_part" = some (.ref (fa 29))
  b29 : Binds K (fd 29) ["_law_held", "_law_kind", "_law_plan", "_law_within"] []
  F30 : Fun K "_law_script" "_law_script" s30 (fa 30) (fd 30)
  g30 : mg "_law_script" = some (.ref (fa 30))
  b30 : Binds K (fd 30) ["_law_held", "_law_plan", "_law_within"] []
  F31 : Fun K "_law_shown" "_law_shown" s31 (fa 31) (fd 31)
  g31 : mg "_law_shown" = some (.ref (fa 31))
  b31 : Binds K (fd 31) ["_law_it"] []
  F32 : Fun K "_law_text" "_law_text" s32 (fa 32) (fd 32)
  g32 : mg "_law_text" = some (.ref (fa 32))
  b32 : Binds K (fd 32) ["_law_todo"] []
  F33 : Fun K "_law_is_from" "_law_is_from" s33 (fa 33) (fd 33)
  g33 : mg "_law_is_from" = some (.ref (fa 33))
  b33 : Binds K (fd 33) ["_law_it", "_law_least", "_law_most"] []
  F34 : Fun K "_law_is_word" "_law_is_word" s34 (fa 34) (fd 34)
  g34 : mg "_law_is_word" = some (.ref (fa 34))
  b34 : Binds K (fd 34) ["_law_it"] []
  F35 : Fun K "_law_is_worth" "_law_is_worth" s35 (fa 35) (fd 35)
  g35 : mg "_law_is_worth" = some (.ref (fa 35))
  b35 : Binds K (fd 35) ["_law_it", "_law_left"] []
  F36 : Fun K "_law_is_part" "_law_is_part" s36 (fa 36) (fd 36)
  g36 : mg "_law_is_part" = some (.ref (fa 36))
  b36 : Binds K (fd 36) ["_law_kind", "_law_it"] []
  F37 : Fun K "_law_many" "_law_many" s37 (fa 37) (fd 37)
  g37 : mg "_law_many" = some (.ref (fa 37))
  b37 : Binds K (fd 37) ["_law_it", "_law_left"] []
  F38 : Fun K "_law_is_script" "_law_is_script" s38 (fa 38) (fd 38)
  g38 : mg "_law_is_script" = some (.ref (fa 38))
  b38 : Binds K (fd 38) ["_law_it"] []
  F39 : Fun K "_law_odd" "_law_odd" s39 (fa 39) (fd 39)
  g39 : mg "_law_odd" = some (.ref (fa 39))
  b39 : Binds K (fd 39) ["_law_held"] []
  F40 : Fun K "_law_bent" "_law_bent" s40 (fa 40) (fd 40)
  g40 : mg "_law_bent" = some (.ref (fa 40))
  b40 : Binds K (fd 40) ["_law_held", "_law_it"] []
  F41 : Fun K "law" "law" s41 (fa 41) (fd 41)
  g41 : mg "law" = some (.ref (fa 41))
  b41 : Binds K (fd 41) ["_law_cells"] []
  cl0 : Cls K (ca 0)
  cg0 : mg "Words" = some (.ref (ca 0))
  na0_at : NoAttr K (ca 0) "at"
  na0_row : NoAttr K (ca 0) "row"
  q16_0 : KBinds K (fd 16) ["script"] ["script"] q16_0 q16_0
  q22_0 : KBinds K (fd 22) ["text"] ["text"] q22_0 q22_0
  c_ENDS : ∃ (a : Addr) (vs : List (Key × V)), mg "ENDS" = some (.ref a) ∧ KDs K PP a vs ∧ ∀ (β : Bt) (H : Hp), RKs ⟨K, fa, PP, tabT lp, ca⟩ β H vs kd_ENDS
  c_FIGURES : ∃ u, mg "FIGURES" = some u ∧ RelV (.str "0123456789") u
  c_FORMS : ∃ (a : Addr) (vs : List (Key × V)), mg "FORMS" = some (.ref a) ∧ KDs K PP a vs ∧ ∀ (β : Bt) (H : Hp), RKs ⟨K, fa, PP, tabT lp, ca⟩ β H vs kd_FORMS
  c_GREATEST : ∃ u, mg "GREATEST" = some u ∧ RelV (.int 1000000000) u
  c_LAST_RANK : ∃ u, mg "LAST_RANK" = some u ∧ RelV (.int 5) u
  c_LETTERS : ∃ u, mg "LETTERS" = some u ∧ RelV (.str "abcdefghijklmnopqrstuvwxyz") u
  c_LONGEST_WORD : ∃ u, mg "LONGEST_WORD" = some u ∧ RelV (.int 8) u
  c_LOOKS : ∃ (a : Addr) (vs : List (Key × V)), mg "LOOKS" = some (.ref a) ∧ KDs K PP a vs ∧ ∀ (β : Bt) (H : Hp), RKs ⟨K, fa, PP, tabT lp, ca⟩ β H vs kd_LOOKS
  c_MOST_BRACKETS : ∃ u, mg "MOST_BRACKETS" = some u ∧ RelV (.int 13) u
  c_MOST_DEEDS : ∃ u, mg "MOST_DEEDS" = some u ∧ RelV (.int 200) u
  c_MOST_DEEP : ∃ u, mg "MOST_DEEP" = some u ∧ RelV (.int 5) u
  c_MOST_DELAY : ∃ u, mg "MOST_DELAY" = some u ∧ RelV (.int 1000) u
  c_MOST_FIGURES : ∃ u, mg "MOST_FIGURES" = some u ∧ RelV (.int 10) u
  c_MOST_IN_TUPLE : ∃ u, mg "MOST_IN_TUPLE" = some u ∧ RelV (.int 20) u
  c_MOST_NAMES : ∃ u, mg "MOST_NAMES" = some u ∧ RelV (.int 8) u
  c_MOST_NESTED : ∃ u, mg "MOST_NESTED" = some u ∧ RelV (.int 4) u
  c_NOTHING : ∃ u, mg "NOTHING" = some u ∧ RelV (.str "-") u
  c_SCRIPTS : ∃ u, mg "SCRIPTS" = some u ∧ RelV (.str "Ss") u
  z_all : mg "all" = none
  z_bool : mg "bool" = none
  z_int : mg "int" = none
  z_isinstance : mg "isinstance" = none
  z_len : mg "len" = none
  z_list : mg "list" = none
  z_max : mg "max" = none
  z_range : mg "range" = none
  z_repr : mg "repr" = none
  z_str : mg "str" = none
  z_tuple : mg "tuple" = none
  z_zip : mg "zip" = none
/-- the defs keep what they promise, at fuel k -/
structure All (P : Program) (w : World) (K : PySem.W.Frag) (mg : Str → Option Value) (base : Heap) (fa lp ca : Nat → Addr) (fd : Nat → FuncData) (k : Nat) : Prop where
  f0 : FnG P w K mg base CX0 (2 * k + 2) (fa 0) (fd 0) ["thing", "least", "greatest"] (spF ⟨K, fa, w.params, tabT lp, ca⟩ 3 (evC tab k 0))
  f1 : FnG P w K mg base CX0 (2 * k + 2) (fa 1) (fd 1) ["thing"] (spF ⟨K, fa, w.params, tabT lp, ca⟩ 1 (evC tab k 1))
  f2 : FnG P w K mg base CX0 (2 * k + 2) (fa 2) (fd 2) ["thing", "left"] (spF ⟨K, fa, w.params, tabT lp, ca⟩ 2 (evC tab k 2))
  f3 : FnG P w K mg base CX0 (2 * k + 2) (fa 3) (fd 3) ["thing"] (spF ⟨K, fa, w.params, tabT lp, ca⟩ 1 (evC tab k 3))
  f4 : FnG P w K mg base CX0 (2 * k + 2) (fa 4) (fd 4) ["thing"] (spF ⟨K, fa, w.params, tabT lp, ca⟩ 1 (evC tab k 4))
  f5 : FnG P w K mg base CX0 (2 * k + 2) (fa 5) (fd 5) ["thing"] (spF ⟨K, fa, w.params, tabT lp, ca⟩ 1 (evC tab k 5))
  f6 : FnG P w K mg base CX0 (2 * k + 2) (fa 6) (fd 6) ["thing"] (spF ⟨K, fa, w.params, tabT lp, ca⟩ 1 (evC tab k 6))
  f7 : FnG P w K mg base CX0 (2 * k + 2) (fa 7) (fd 7) ["thing"] (spF ⟨K, fa, w.params, tabT lp, ca⟩ 1 (evC tab k 7))
  f8 : FnG P w K mg base CX0 (2 * k + 2) (fa 8) (fd 8) ["thing"] (spF ⟨K, fa, w.params, tabT lp, ca⟩ 1 (evC tab k 8))
  f9 : FnG P w K mg base CX0 (2 * k + 2) (fa 9) (fd 9) ["kind", "part", "left"] (spF ⟨K, fa, w.params, tabT lp, ca⟩ 3 (evC tab k 9))
  f10 : FnG P w K mg base CX0 (2 * k + 2) (fa 10) (fd 10) ["deed", "left"] (spF ⟨K, fa, w.params, tabT lp, ca⟩ 2 (evC tab k 10))
  f11 : FnG P w K mg base CX0 (2 * k + 2) (fa 11) (fd 11) ["thing", "left"] (spF ⟨K, fa, w.params, tabT lp, ca⟩ 2 (evC tab k 11))
  f12 : FnG P w K mg base CX0 (2 * k + 2) (fa 12) (fd 12) ["thing"] (spF ⟨K, fa, w.params, tabT lp, ca⟩ 1 (evC tab k 12))
  f13 : FnG P w K mg base CX0 (2 * k + 2) (fa 13) (fd 13) ["worth"] (spF ⟨K, fa, w.params, tabT lp, ca⟩ 1 (evC tab k 13))
  f14 : FnG P w K mg base CX0 (2 * k + 2) (fa 14) (fd 14) ["kind", "part"] (spF ⟨K, fa, w.params, tabT lp, ca⟩ 2 (evC tab k 14))
  f15 : FnG P w K mg base CX0 (2 * k + 2) (fa 15) (fd 15) ["deed"] (spF ⟨K, fa, w.params, tabT lp, ca⟩ 1 (evC tab k 15))
  f16 : FnG P w K mg base CX0 (2 * k + 2) (fa 16) (fd 16) ["script"] (spF ⟨K, fa, w.params, tabT lp, ca⟩ 1 (evC tab k 16))
  f17 : FnG P w K mg base CX0 (2 * k + 2) (fa 17) (fd 17) ["word"] (spF ⟨K, fa, w.params, tabT lp, ca⟩ 1 (evC tab k 17))
  f18 : FnG P w K mg base CX0 (2 * k + 2) (fa 18) (fd 18) ["self", "text"] (spF ⟨K, fa, w.params, tabT lp, ca⟩ 2 (evC tab k 18))
  f19 : FnG P w K mg base CX0 (2 * k + 2) (fa 19) (fd 19) ["self"] (spF ⟨K, fa, w.params, tabT lp, ca⟩ 1 (evC tab k 19))
  f20 : FnG P w K mg base CX0 (2 * k + 2) (fa 20) (fd 20) ["self"] (spF ⟨K, fa, w.params, tabT lp, ca⟩ 1 (evC tab k 20))
  f21 : FnG P w K mg base CX0 (2 * k + 2) (fa 21) (fd 21) ["self", "left"] (spF ⟨K, fa, w.params, tabT lp, ca⟩ 2 (evC tab k 21))
  f22 : FnG P w K mg base CX0 (2 * k + 2) (fa 22) (fd 22) ["text"] (spF ⟨K, fa, w.params, tabT lp, ca⟩ 1 (evC tab k 22))
  f23 : FnG P w K mg base CX0 (2 * k + 2) (fa 23) (fd 23) ["_law_cells"] (spF ⟨K, fa, w.params, tabT lp, ca⟩ 1 (evC tab k 23))
  f24 : FnG P w K mg base CX0 (2 * k + 2) (fa 24) (fd 24) ["_law_held", "_law_many_here"] (spF ⟨K, fa, w.params, tabT lp, ca⟩ 2 (evC tab k 24))
  f25 : FnG P w K mg base CX0 (2 * k + 2) (fa 25) (fd 25) ["_law_held", "_law_some"] (spF ⟨K, fa, w.params, tabT lp, ca⟩ 2 (evC tab k 25))
  f26 : FnG P w K mg base CX0 (2 * k + 2) (fa 26) (fd 26) ["_law_held"] (spF ⟨K, fa, w.params, tabT lp, ca⟩ 1 (evC tab k 26))
  f27 : FnG P w K mg base CX0 (2 * k + 2) (fa 27) (fd 27) ["_law_held", "_law_within"] (spF ⟨K, fa, w.params, tabT lp, ca⟩ 2 (evC tab k 27))
  f28 : FnG P w K mg base CX0 (2 * k + 2) (fa 28) (fd 28) [] (spF ⟨K, fa, w.params, tabT lp, ca⟩ 0 (evC tab k 28))
  f29 : FnG P w K mg base CX0 (2 * k + 2) (fa 29) (fd 29) ["_law_held", "_law_kind", "_law_plan", "_law_within"] (spF ⟨K, fa, w.params, tabT lp, ca⟩ 4 (evC tab k 29))
  f30 : FnG P w K mg base CX0 (2 * k + 2) (fa 30) (fd 30) ["_law_held", "_law_plan", "_law_within"] (spF ⟨K, fa, w.params, tabT lp, ca⟩ 3 (evC tab k 30))
  f31 : FnG P w K mg base CX0 (2 * k + 2) (fa 31) (fd 31) ["_law_it"] (spF ⟨K, fa, w.params, tabT lp, ca⟩ 1 (evC tab k 31))
  f32 : FnG P w K mg base CX0 (2 * k + 2) (fa 32) (fd 32) ["_law_todo"] (spF ⟨K, fa, w.params, tabT lp, ca⟩ 1 (evC tab k 32))
  f33 : FnG P w K mg base CX0 (2 * k + 2) (fa 33) (fd 33) ["_law_it", "_law_least", "_law_most"] (spF ⟨K, fa, w.params, tabT lp, ca⟩ 3 (evC tab k 33))
  f34 : FnG P w K mg base CX0 (2 * k + 2) (fa 34) (fd 34) ["_law_it"] (spF ⟨K, fa, w.params, tabT lp, ca⟩ 1 (evC tab k 34))
  f35 : FnG P w K mg base CX0 (2 * k + 2) (fa 35) (fd 35) ["_law_it", "_law_left"] (spF ⟨K, fa, w.params, tabT lp, ca⟩ 2 (evC tab k 35))
  f36 : FnG P w K mg base CX0 (2 * k + 2) (fa 36) (fd 36) ["_law_kind", "_law_it"] (spF ⟨K, fa, w.params, tabT lp, ca⟩ 2 (evC tab k 36))
  f37 : FnG P w K mg base CX0 (2 * k + 2) (fa 37) (fd 37) ["_law_it", "_law_left"] (spF ⟨K, fa, w.params, tabT lp, ca⟩ 2 (evC tab k 37))
  f38 : FnG P w K mg base CX0 (2 * k + 2) (fa 38) (fd 38) ["_law_it"] (spF ⟨K, fa, w.params, tabT lp, ca⟩ 1 (evC tab k 38))
  f39 : FnG P w K mg base CX0 (2 * k + 2) (fa 39) (fd 39) ["_law_held"] (spF ⟨K, fa, w.params, tabT lp, ca⟩ 1 (evC tab k 39))
  f40 : FnG P w K mg base CX0 (2 * k + 2) (fa 40) (fd 40) ["_law_held", "_law_it"] (spF ⟨K, fa, w.params, tabT lp, ca⟩ 2 (evC tab k 40))
  f41 : FnG P w K mg base CX0 (2 * k + 2) (fa 41) (fd 41) ["_law_cells"] (spF ⟨K, fa, w.params, tabT lp, ca⟩ 1 (evC tab k 41))
section
variable {P : Program} {w : World} {K : PySem.W.Frag} {mg : Str → Option Value} {base : Heap} {fa lc lp ca : Nat → Addr} {fd : Nat → FuncData} {k : Nat}
theorem d0 (T : Tx w.params K mg fa lc lp ca fd) (TBs : ∀ p ∈ tabC lc lp, LamX.TabB base mg p.1 p.2) (A : All P w K mg base fa lp ca fd k) (cdv : Value) (hcd : (fd 0).code = cdv) (A0 : Around) (outer : List PySem.Env) (s : Shared) (H : Hp) (E : XK) (hgd : (A0.deeper (envOfC "is_from" (defScope s0) s.heap.objs.size (fa 0) cdv)).guards = some []) (hr1 : Room (2 * k + 3) (A0.deeper (envOfC "is_from" (defScope s0) s.heap.objs.size (fa 0) cdv))) :
    PSs (cxOf CX0 P w K mg base N0 "is_from" (defScope s0) (fa 0) cdv A0 outer s H E).nox (defBody s0) (tFS ⟨K, fa, w.params, tabT lp, ca⟩ (b0 (evC tab k))) := by
  have hr := hr1.mono (Nat.le_succ _)
  obtain ⟨h1, h64, h65, h66⟩ := units_of hr
  exact (pfs_one (pf_ret (pf_and (pf_callB (cr_isi rfl) (by rfl) T.z_isinstance bt_isinstance (pfa_cons (pf_var (pv 0)) (pfa_cons (pf_tyv (by rfl) T.z_int bt_int) pfa_nil))) (pf_and (pf_not (pf_callB (cr_isi rfl) (by rfl) T.z_isinstance bt_isinstance (pfa_cons (pf_var (pv 0)) (pfa_cons (pf_tyv (by rfl) T.z_bool bt_bool) pfa_nil)))) (pf_one (pf_chain op_leDD op_leDD (pf_var (pv 1)) (pf_var (pv 0)) (pf_var (pv 2))))))))
theorem d1 (T : Tx w.params K mg fa lc lp ca fd) (TBs : ∀ p ∈ tabC lc lp, LamX.TabB base mg p.1 p.2) (A : All P w K mg base fa lp ca fd k) (cdv : Value) (hcd : (fd 1).code = cdv) (A0 : Around) (outer : List PySem.Env) (s : Shared) (H : Hp) (E : XK) (hgd : (A0.deeper (envOfC "is_word" (defScope s1) s.heap.objs.size (fa 1) cdv)).guards = some []) (hr1 : Room (2 * k + 3) (A0.deeper (envOfC "is_word" (defScope s1) s.heap.objs.size (fa 1) cdv))) :
    PSs (cxOf CX0 P w K mg base N1 "is_word" (defScope s1) (fa 1) cdv A0 outer s H E).nox (defBody s1) (tFS ⟨K, fa, w.params, tabT lp, ca⟩ (b1 (evC tab k))) := by
  have hr := hr1.mono (Nat.le_succ _)
  obtain ⟨h1, h64, h65, h66⟩ := units_of hr
  exact (pfs_cons (pf_ifS (PW.pt (pfw_or (pft_not (pft_tru rfl (pf_callB (cr_isi rfl) (by rfl) T.z_isinstance bt_isinstance (pfa_cons (pf_var (pv 0)) (pfa_cons (pf_tyv (by rfl) T.z_str bt_str) pfa_nil))))) (pfw_or1 (pft_not (pft_chain op_leDD op_leDD pf_int (pf_callB (cr_len rfl) (by rfl) T.z_len bt_len (pfa_cons (pf_var (pv 0)) pfa_nil)) (pf_globE (by rfl) T.c_LONGEST_WORD fun _ _ => .int _)))))) (pfs_one (pf_ret pf_bl)) pfs_nil)
    (pfs_one (pf_ret (pf_callB (cr_allD rfl rfl) (by rfl) T.z_all bt_all (pfa_cons (pf_lc (own := [("sign", 1)]) (ws := [1]) rfl S1.nd (by decide) (pfi_val rfl (pf_var (pv 0))) (blkOk_by (N := N1) (sc := defScope s1) (by decide +kernel)) (fun _ _ _ _ _ => (pfg_name (pg_name (i := 1) S1.nd rfl (by first | exact Or.inl rfl | exact Or.inr rfl)))) (fun _ _ _ _ _ => pfts_nil) (fun _ _ _ _ _ => (pf_cmp (op_inDD rfl rfl h65) (pf_var (pv 1)) (pf_globE (by rfl) T.c_LETTERS fun _ _ => .str _) (by with_unfolding_all rfl)))) pfa_nil)))))
theorem d2 (T : Tx w.params K mg fa lc lp ca fd) (TBs : ∀ p ∈ tabC lc lp, LamX.TabB base mg p.1 p.2) (A : All P w K mg base fa lp ca fd k) (cdv : Value) (hcd : (fd 2).code = cdv) (A0 : Around) (outer : List PySem.Env) (s : Shared) (H : Hp) (E : XK) (hgd : (A0.deeper (envOfC "is_worth_in" (defScope s2) s.heap.objs.size (fa 2) cdv)).guards = some []) (hr1 : Room (2 * k + 3) (A0.deeper (envOfC "is_worth_in" (defScope s2) s.heap.objs.size (fa 2) cdv))) :
    PSs (cxOf CX0 P w K mg base N2 "is_worth_in" (defScope s2) (fa 2) cdv A0 outer s H E).nox (defBody s2) (tFS ⟨K, fa, w.params, tabT lp, ca⟩ (b2 (evC tab k))) := by
  have hr := hr1.mono (Nat.le_succ _)
  obtain ⟨h1, h64, h65, h66⟩ := units_of hr
  exact (pfs_cons (pf_ifS (PW.pt (pfw_or (pft_cmp op_isDD (pf_var (pv 0)) pf_non (nomark _)) (pfw_or (pft_tru rfl (pf_call A.f1 (fun _ _ _ _ e => evC_len e) hgd hr (by rfl) T.g1 T.F1.kp T.b1 pass0 (pfa_cons (pf_var (pv 0)) pfa_nil))) (pfw_or1 (pft_tru rfl (pf_call A.f0 (fun _ _ _ _ e => evC_len e) hgd hr (by rfl) T.g0 T.F0.kp T.b0 pass0 (pfa_cons (pf_var (pv 0)) (pfa_cons (pf_un un_negD (pf_globE (by rfl) T.c_GREATEST fun _ _ => .int _)) (pfa_cons (pf_globE (by rfl) T.c_GREATEST fun _ _ => .int _) pfa_nil))))))))) (pfs_one (pf_ret pf_bl)) pfs_nil)
    (pfs_cons (pf_ifS (PW.pt (pfw_or (pft_cmp (op_eqDD rfl h64) (pf_var (pv 1)) pf_int (nomark _)) (pfw_or (pft_not (pft_tru rfl (pf_callB (cr_isi rfl) (by rfl) T.z_isinstance bt_isinstance (pfa_cons (pf_var (pv 0)) (pfa_cons (pf_tyv (by rfl) T.z_tuple bt_tuple) pfa_nil))))) (pfw_or1 (pft_cmp op_gtDD (pf_callB (cr_len rfl) (by rfl) T.z_len bt_len (pfa_cons (pf_var (pv 0)) pfa_nil)) (pf_globE (by rfl) T.c_MOST_IN_TUPLE fun _ _ => .int _) (nomark _)))))) (pfs_one (pf_ret pf_bl)) pfs_nil)
    (pfs_one (pf_ret (pf_callB (cr_allD rfl rfl) (by rfl) T.z_all bt_all (pfa_cons (pf_lc (own := [("part", 2)]) (ws := [2]) rfl S2.nd (by decide) (pfi_val rfl (pf_var (pv 0))) (blkOk_by (N := N2) (sc := defScope s2) (by decide +kernel)) (fun _ _ _ _ _ => (pfg_name (pg_name (i := 2) S2.nd rfl (by first | exact Or.inl rfl | exact Or.inr rfl)))) (fun _ _ _ _ _ => pfts_nil) (fun _ _ _ _ _ => (pf_call A.f2 (fun _ _ _ _ e => evC_len e) hgd hr (by rfl) T.g2 T.F2.kp T.b2 pass0 (pfa_cons (pf_var (pv 2)) (pfa_cons (pf_bin op_subD (pf_var (pv 1)) pf_int) pfa_nil))))) pfa_nil))))))
theorem d3 (T : Tx w.params K mg fa lc lp ca fd) (TBs : ∀ p ∈ tabC lc lp, LamX.TabB base mg p.1 p.2) (A : All P w K mg base fa lp ca fd k) (cdv : Value) (hcd : (fd 3).code = cdv) (A0 : Around) (outer : List PySem.Env) (s : Shared) (H : Hp) (E : XK) (hgd : (A0.deeper (envOfC "is_worth" (defScope s3) s.heap.objs.size (fa 3) cdv)).guards = some []) (hr1 : Room (2 * k + 3) (A0.deeper (envOfC "is_worth" (defScope s3) s.heap.objs.size (fa 3) cdv))) :
    PSs (cxOf CX0 P w K mg base N3 "is_worth" (defScope s3) (fa 3) cdv A0 outer s H E).nox (defBody s3) (tFS ⟨K, fa, w.params, tabT lp, ca⟩ (b3 (evC tab k))) := by
  have hr := hr1.mono (Nat.le_succ _)
  obtain ⟨h1, h64, h65, h66⟩ := units_of hr
  exact (pfs_one (pf_ret (pf_call A.f2 (fun _ _ _ _ e => evC_len e) hgd hr (by rfl) T.g2 T.F2.kp T.b2 pass0 (pfa_cons (pf_var (pv 0)) (pfa_cons (pf_globE (by rfl) T.c_MOST_NESTED fun _ _ => .int _) pfa_nil)))))
theorem d4 (T : Tx w.params K mg fa lc lp ca fd) (TBs : ∀ p ∈ tabC lc lp, LamX.TabB base mg p.1 p.2) (A : All P w K mg base fa lp ca fd k) (cdv : Value) (hcd : (fd 4).code = cdv) (A0 : Around) (outer : List PySem.Env) (s : Shared) (H : Hp) (E : XK) (hgd : (A0.deeper (envOfC "are_names" (defScope s4) s.heap.objs.size (fa 4) cdv)).guards = some []) (hr1 : Room (2 * k + 3) (A0.deeper (envOfC "are_names" (defScope s4) s.heap.objs.size (fa 4) cdv))) :
    PSs (cxOf CX0 P w K mg base N4 "are_names" (defScope s4) (fa 4) cdv A0 outer s H E).nox (defBody s4) (tFS ⟨K, fa, w.params, tabT lp, ca⟩ (b4 (evC tab k))) := by
  have hr := hr1.mono (Nat.le_succ _)
  obtain ⟨h1, h64, h65, h66⟩ := units_of hr
  exact (pfs_one (pf_ret (pf_and (pf_callB (cr_isi rfl) (by rfl) T.z_isinstance bt_isinstance (pfa_cons (pf_var (pv 0)) (pfa_cons (pf_tyv (by rfl) T.z_tuple bt_tuple) pfa_nil))) (pf_and (pf_cmp op_leDD (pf_callB (cr_len rfl) (by rfl) T.z_len bt_len (pfa_cons (pf_var (pv 0)) pfa_nil)) (pf_globE (by rfl) T.c_MOST_NAMES fun _ _ => .int _) (nomark _)) (pf_one (pf_callB (cr_allD rfl rfl) (by rfl) T.z_all bt_all (pfa_cons (pf_lc (own := [("name", 1)]) (ws := [1]) rfl S4.nd (by decide) (pfi_val rfl (pf_var (pv 0))) (blkOk_by (N := N4) (sc := defScope s4) (by decide +kernel)) (fun _ _ _ _ _ => (pfg_name (pg_name (i := 1) S4.nd rfl (by first | exact Or.inl rfl | exact Or.inr rfl)))) (fun _ _ _ _ _ => pfts_nil) (fun _ _ _ _ _ => (pf_call A.f1 (fun _ _ _ _ e => evC_len e) hgd hr (by rfl) T.g1 T.F1.kp T.b1 pass0 (pfa_cons (pf_var (pv 1)) pfa_nil)))) pfa_nil)))))))
theorem d5 (T : Tx w.params K mg fa lc lp ca fd) (TBs : ∀ p ∈ tabC lc lp, LamX.TabB base mg p.1 p.2) (A : All P w K mg base fa lp ca fd k) (cdv : Value) (hcd : (fd 5).code = cdv) (A0 : Around) (outer : List PySem.Env) (s : Shared) (H : Hp) (E : XK) (hgd : (A0.deeper (envOfC "is_rank" (defScope s5) s.heap.objs.size (fa 5) cdv)).guards = some []) (hr1 : Room (2 * k + 3) (A0.deeper (envOfC "is_rank" (defScope s5) s.heap.objs.size (fa 5) cdv))) :
    PSs (cxOf CX0 P w K mg base N5 "is_rank" (defScope s5) (fa 5) cdv A0 outer s H E).nox (defBody s5) (tFS ⟨K, fa, w.params, tabT lp, ca⟩ (b5 (evC tab k))) := by
  have hr := hr1.mono (Nat.le_succ _)
  obtain ⟨h1, h64, h65, h66⟩ := units_of hr
  exact (pfs_one (pf_ret (pf_call A.f0 (fun _ _ _ _ e => evC_len e) hgd hr (by rfl) T.g0 T.F0.kp T.b0 pass0 (pfa_cons (pf_var (pv 0)) (pfa_cons pf_int (pfa_cons (pf_globE (by rfl) T.c_LAST_RANK fun _ _ => .int _) pfa_nil))))))
theorem d6 (T : Tx w.params K mg fa lc lp ca fd) (TBs : ∀ p ∈ tabC lc lp, LamX.TabB base mg p.1 p.2) (A : All P w K mg base fa lp ca fd k) (cdv : Value) (hcd : (fd 6).code = cdv) (A0 : Around) (outer : List PySem.Env) (s : Shared) (H : Hp) (E : XK) (hgd : (A0.deeper (envOfC "is_delay" (defScope s6) s.heap.objs.size (fa 6) cdv)).guards = some []) (hr1 : Room (2 * k + 3) (A0.deeper (envOfC "is_delay" (defScope s6) s.heap.objs.size (fa 6) cdv))) :
    PSs (cxOf CX0 P w K mg base N6 "is_delay" (defScope s6) (fa 6) cdv A0 outer s H E).nox (defBody s6) (tFS ⟨K, fa, w.params, tabT lp, ca⟩ (b6 (evC tab k))) := by
  have hr := hr1.mono (Nat.le_succ _)
  obtain ⟨h1, h64, h65, h66⟩ := units_of hr
  exact (pfs_one (pf_ret (pf_call A.f0 (fun _ _ _ _ e => evC_len e) hgd hr (by rfl) T.g0 T.F0.kp T.b0 pass0 (pfa_cons (pf_var (pv 0)) (pfa_cons pf_int (pfa_cons (pf_globE (by rfl) T.c_MOST_DELAY fun _ _ => .int _) pfa_nil))))))
theorem d7 (T : Tx w.params K mg fa lc lp ca fd) (TBs : ∀ p ∈ tabC lc lp, LamX.TabB base mg p.1 p.2) (A : All P w K mg base fa lp ca fd k) (cdv : Value) (hcd : (fd 7).code = cdv) (A0 : Around) (outer : List PySem.Env) (s : Shared) (H : Hp) (E : XK) (hgd : (A0.deeper (envOfC "is_round" (defScope s7) s.heap.objs.size (fa 7) cdv)).guards = some []) (hr1 : Room (2 * k + 3) (A0.deeper (envOfC "is_round" (defScope s7) s.heap.objs.size (fa 7) cdv))) :
    PSs (cxOf CX0 P w K mg base N7 "is_round" (defScope s7) (fa 7) cdv A0 outer s H E).nox (defBody s7) (tFS ⟨K, fa, w.params, tabT lp, ca⟩ (b7 (evC tab k))) := by
  have hr := hr1.mono (Nat.le_succ _)
  obtain ⟨h1, h64, h65, h66⟩ := units_of hr
  exact (pfs_one (pf_ret (pf_call A.f0 (fun _ _ _ _ e => evC_len e) hgd hr (by rfl) T.g0 T.F0.kp T.b0 pass0 (pfa_cons (pf_var (pv 0)) (pfa_cons pf_int (pfa_cons (pf_globE (by rfl) T.c_MOST_DELAY fun _ _ => .int _) pfa_nil))))))
theorem d8 (T : Tx w.params K mg fa lc lp ca fd) (TBs : ∀ p ∈ tabC lc lp, LamX.TabB base mg p.1 p.2) (A : All P w K mg base fa lp ca fd k) (cdv : Value) (hcd : (fd 8).code = cdv) (A0 : Around) (outer : List PySem.Env) (s : Shared) (H : Hp) (E : XK) (hgd : (A0.deeper (envOfC "is_latest" (defScope s8) s.heap.objs.size (fa 8) cdv)).guards = some []) (hr1 : Room (2 * k + 3) (A0.deeper (envOfC "is_latest" (defScope s8) s.heap.objs.size (fa 8) cdv))) :
    PSs (cxOf CX0 P w K mg base N8 "is_latest" (defScope s8) (fa 8) cdv A0 outer s H E).nox (defBody s8) (tFS ⟨K, fa, w.params, tabT lp, ca⟩ (b8 (evC tab k))) := by
  have hr := hr1.mono (Nat.le_succ _)
  obtain ⟨h1, h64, h65, h66⟩ := units_of hr
  exact (pfs_one (pf_ret (pf_or (pf_cmp op_isDD (pf_var (pv 0)) pf_non (nomark _)) (pf_one (pf_call A.f6 (fun _ _ _ _ e => evC_len e) hgd hr (by rfl) T.g6 T.F6.kp T.b6 pass0 (pfa_cons (pf_var (pv 0)) pfa_nil))))))
theorem d9 (T : Tx w.params K mg fa lc lp ca fd) (TBs : ∀ p ∈ tabC lc lp, LamX.TabB base mg p.1 p.2) (A : All P w K mg base fa lp ca fd k) (cdv : Value) (hcd : (fd 9).code = cdv) (A0 : Around) (outer : List PySem.Env) (s : Shared) (H : Hp) (E : XK) (hgd : (A0.deeper (envOfC "count_by" (defScope s9) s.heap.objs.size (fa 9) cdv)).guards = some []) (hr1 : Room (2 * k + 3) (A0.deeper (envOfC "count_by" (defScope s9) s.heap.objs.size (fa 9) cdv))) :
    PSs (cxOf CX0 P w K mg base N9 "count_by" (defScope s9) (fa 9) cdv A0 outer s H E).nox (defBody s9) (tFS ⟨K, fa, w.params, tabT lp, ca⟩ (b9 (evC tab k))) := by
  have hr := hr1.mono (Nat.le_succ _)
  obtain ⟨h1, h64, h65, h66⟩ := units_of hr
  exact (pfs_cons (pf_ifS (PW.pt (pfw_and (pft_cmp (op_eqDD rfl h64) (pf_var (pv 0)) pf_str (nomark _)) (pfw_and1 (pft_cmp op_isDD (pf_var (pv 1)) pf_non (nomark _))))) (pfs_one (pf_ret pf_int)) pfs_nil)
    (pfs_cons (pf_ifS (pft_cmp (op_inDD rfl rfl h65) (pf_var (pv 0)) (pf_globE (by rfl) T.c_SCRIPTS fun _ _ => .str _) (by with_unfolding_all rfl)) (pfs_one (pf_ret (pf_call A.f11 (fun _ _ _ _ e => evC_len e) hgd hr (by rfl) T.g11 T.F11.kp T.b11 pass0 (pfa_cons (pf_var (pv 1)) (pfa_cons (pf_bin op_subD (pf_var (pv 2)) pf_int) pfa_nil))))) pfs_nil)
    (pfs_cons (pf_set (ps_set (i := 3) S9.nd rfl (Or.inl rfl) (pf_ix rfl rfl h1 (let ⟨_, _, h1, h2, h3⟩ := T.c_LOOKS; pf_globD (by rfl) h1 h2 h3) (pf_var (pv 0)))))
    (pfs_one (pf_ret (pf_if (pft_tru rfl (pf_callV (List.forall_mem_cons.mpr ⟨⟨_, _, _, A.f1, fun _ _ _ _ e => evC_len e, T.F1.kp, T.b1⟩, (List.forall_mem_cons.mpr ⟨⟨_, _, _, A.f4, fun _ _ _ _ e => evC_len e, T.F4.kp, T.b4⟩, (List.forall_mem_cons.mpr ⟨⟨_, _, _, A.f3, fun _ _ _ _ e => evC_len e, T.F3.kp, T.b3⟩, (List.forall_mem_cons.mpr ⟨⟨_, _, _, A.f5, fun _ _ _ _ e => evC_len e, T.F5.kp, T.b5⟩, (List.forall_mem_cons.mpr ⟨⟨_, _, _, A.f6, fun _ _ _ _ e => evC_len e, T.F6.kp, T.b6⟩, (List.forall_mem_cons.mpr ⟨⟨_, _, _, A.f7, fun _ _ _ _ e => evC_len e, T.F7.kp, T.b7⟩, (List.forall_mem_cons.mpr ⟨⟨_, _, _, A.f8, fun _ _ _ _ e => evC_len e, T.F8.kp, T.b8⟩, (fun _ h => absurd h (by simp))⟩)⟩)⟩)⟩)⟩)⟩)⟩) hgd hr pass0 (pv 3) (pfa_cons (pf_var (pv 1)) pfa_nil))) pf_int pf_non))))))
theorem d10 (T : Tx w.params K mg fa lc lp ca fd) (TBs : ∀ p ∈ tabC lc lp, LamX.TabB base mg p.1 p.2) (A : All P w K mg base fa lp ca fd k) (cdv : Value) (hcd : (fd 10).code = cdv) (A0 : Around) (outer : List PySem.Env) (s : Shared) (H : Hp) (E : XK) (hgd : (A0.deeper (envOfC "count_in" (defScope s10) s.heap.objs.size (fa 10) cdv)).guards = some []) (hr1 : Room (2 * k + 3) (A0.deeper (envOfC "count_in" (defScope s10) s.heap.objs.size (fa 10) cdv))) :
    PSs (cxOf CX0 P w K mg base N10 "count_in" (defScope s10) (fa 10) cdv A0 outer s H E).nox (defBody s10) (tFS ⟨K, fa, w.params, tabT lp, ca⟩ (b10 (evC tab k))) := by
  have hr := hr1.mono (Nat.le_succ _)
  obtain ⟨h1, h64, h65, h66⟩ := units_of hr
  exact (pfs_cons (pf_ifS (PW.pt (pfw_or (pft_not (pft_tru rfl (pf_callB (cr_isi rfl) (by rfl) T.z_isinstance bt_isinstance (pfa_cons (pf_var (pv 0)) (pfa_cons (pf_tyv (by rfl) T.z_tuple bt_tuple) pfa_nil))))) (pfw_or (pft_cmp (op_eqDD rfl h64) (pf_var (pv 0)) (pf_tup pfa_nil) (nomark _)) (pfw_or (pft_not (pft_tru rfl (pf_callB (cr_isi rfl) (by rfl) T.z_isinstance bt_isinstance (pfa_cons (pf_ix rfl rfl h1 (pf_var (pv 0)) pf_int) (pfa_cons (pf_tyv (by rfl) T.z_str bt_str) pfa_nil))))) (pfw_or1 (pft_cmp (op_notInDD rfl rfl h65) (pf_ix rfl rfl h1 (pf_var (pv 0)) pf_int) (let ⟨_, _, h1, h2, h3⟩ := T.c_FORMS; pf_globD (by rfl) h1 h2 h3) (by with_unfolding_all rfl))))))) (pfs_one (pf_ret pf_non)) pfs_nil)
    (pfs_cons (pf_asg (pf_var (pv 0)) (pfg_star rfl rfl (pgs_cons (pg_name (i := 2) S10.nd rfl (by first | exact Or.inl rfl | exact Or.inr rfl)) (pgs_cons (pg_name (i := 3) S10.nd rfl (by first | exact Or.inl rfl | exact Or.inr rfl)) pgs_nil))))
    (pfs_cons (pf_ifS (pft_cmp (op_neDD rfl h64) (pf_callB (cr_len rfl) (by rfl) T.z_len bt_len (pfa_cons (pf_var (pv 3)) pfa_nil)) (pf_callB (cr_len rfl) (by rfl) T.z_len bt_len (pfa_cons (pf_ix rfl rfl h1 (let ⟨_, _, h1, h2, h3⟩ := T.c_FORMS; pf_globD (by rfl) h1 h2 h3) (pf_var (pv 2))) pfa_nil)) (nomark _)) (pfs_one (pf_ret pf_non)) pfs_nil)
    (pfs_cons (pf_set (ps_set (i := 4) S10.nd rfl (Or.inl rfl) pf_int))
    (pfs_cons (pf_for PassesOwn.never rfl (pfi_zipS rfl (by rfl) T.z_zip (pfa_cons (pf_ix rfl rfl h1 (let ⟨_, _, h1, h2, h3⟩ := T.c_FORMS; pf_globD (by rfl) h1 h2 h3) (pf_var (pv 2))) (pfa_cons (pf_var (pv 3)) pfa_nil))) (pfg_tup rfl rfl (pfgs_cons (pfg_name (pg_name (i := 5) S10.nd rfl (by first | exact Or.inl rfl | exact Or.inr rfl))) (pfgs_cons (pfg_name (pg_name (i := 6) S10.nd rfl (by first | exact Or.inl rfl | exact Or.inr rfl))) pfgs_nil))) (pfs_cons (pf_set (ps_set (i := 7) S10.nd rfl (Or.inl rfl) (pf_call A.f9 (fun _ _ _ _ e => evC_len e) hgd hr (by rfl) T.g9 T.F9.kp T.b9 pass0 (pfa_cons (pf_var (pv 5)) (pfa_cons (pf_var (pv 6)) (pfa_cons (pf_var (pv 1)) pfa_nil))))))
    (pfs_cons (pf_ifS (pft_cmp op_isDD (pf_var (pv 7)) pf_non (nomark _)) (pfs_one (pf_ret pf_non)) pfs_nil)
    (pfs_one (pf_aug (i := 4) S10.nd rfl (by first | exact Or.inl rfl | exact Or.inr rfl) (pf_var (pv 7)) iop_addD)))))
    (pfs_one (pf_ret (pf_var (pv 4)))))))))
theorem d11 (T : Tx w.params K mg fa lc lp ca fd) (TBs : ∀ p ∈ tabC lc lp, LamX.TabB base mg p.1 p.2) (A : All P w K mg base fa lp ca fd k) (cdv : Value) (hcd : (fd 11).code = cdv) (A0 : Around) (outer : List PySem.Env) (s : Shared) (H : Hp) (E : XK) (hgd : (A0.deeper (envOfC "count_of" (defScope s11) s.heap.objs.size (fa 11) cdv)).guards = some []) (hr1 : Room (2 * k + 3) (A0.deeper (envOfC "count_of" (defScope s11) s.heap.objs.size (fa 11) cdv))) :
    PSs (cxOf CX0 P w K mg base N11 "count_of" (defScope s11) (fa 11) cdv A0 outer s H E).nox (defBody s11) (tFS ⟨K, fa, w.params, tabT lp, ca⟩ (b11 (evC tab k))) := by
  have hr := hr1.mono (Nat.le_succ _)
  obtain ⟨h1, h64, h65, h66⟩ := units_of hr
  exact (pfs_cons (pf_ifS (PW.pt (pfw_or (pft_cmp (op_eqDD rfl h64) (pf_var (pv 1)) pf_int (nomark _)) (pfw_or1 (pft_not (pft_tru rfl (pf_callB (cr_isi rfl) (by rfl) T.z_isinstance bt_isinstance (pfa_cons (pf_var (pv 0)) (pfa_cons (pf_tyv (by rfl) T.z_tuple bt_tuple) pfa_nil)))))))) (pfs_one (pf_ret pf_non)) pfs_nil)
    (pfs_cons (pf_set (ps_set (i := 2) S11.nd rfl (Or.inl rfl) pf_int))
    (pfs_cons (pf_for PassesOwn.never rfl (pfi_val rfl (pf_var (pv 0))) (pfg_name (pg_name (i := 3) S11.nd rfl (by first | exact Or.inl rfl | exact Or.inr rfl))) (pfs_cons (pf_set (ps_set (i := 4) S11.nd rfl (Or.inl rfl) (pf_call A.f10 (fun _ _ _ _ e => evC_len e) hgd hr (by rfl) T.g10 T.F10.kp T.b10 pass0 (pfa_cons (pf_var (pv 3)) (pfa_cons (pf_var (pv 1)) pfa_nil)))))
    (pfs_cons (pf_ifS (PW.pt (pfw_or (pft_cmp op_isDD (pf_var (pv 4)) pf_non (nomark _)) (pfw_or1 (pft_cmp op_gtDD (pf_bin (op_addD rfl) (pf_var (pv 2)) (pf_var (pv 4))) (pf_globE (by rfl) T.c_MOST_DEEDS fun _ _ => .int _) (nomark _))))) (pfs_one (pf_ret pf_non)) pfs_nil)
    (pfs_one (pf_aug (i := 2) S11.nd rfl (by first | exact Or.inl rfl | exact Or.inr rfl) (pf_var (pv 4)) iop_addD)))))
    (pfs_one (pf_ret (pf_var (pv 2)))))))
theorem d12 (T : Tx w.params K mg fa lc lp ca fd) (TBs : ∀ p ∈ tabC lc lp, LamX.TabB base mg p.1 p.2) (A : All P w K mg base fa lp ca fd k) (cdv : Value) (hcd : (fd 12).code = cdv) (A0 : Around) (outer : List PySem.Env) (s : Shared) (H : Hp) (E : XK) (hgd : (A0.deeper (envOfC "is_script" (defScope s12) s.heap.objs.size (fa 12) cdv)).guards = some []) (hr1 : Room (2 * k + 3) (A0.deeper (envOfC "is_script" (defScope s12) s.heap.objs.size (fa 12) cdv))) :
    PSs (cxOf CX0 P w K mg base N12 "is_script" (defScope s12) (fa 12) cdv A0 outer s H E).nox (defBody s12) (tFS ⟨K, fa, w.params, tabT lp, ca⟩ (b12 (evC tab k))) := by
  have hr := hr1.mono (Nat.le_succ _)
  obtain ⟨h1, h64, h65, h66⟩ := units_of hr
  exact (pfs_one (pf_ret (pf_cmp op_isNotDD (pf_call A.f11 (fun _ _ _ _ e => evC_len e) hgd hr (by rfl) T.g11 T.F11.kp T.b11 pass0 (pfa_cons (pf_var (pv 0)) (pfa_cons (pf_globE (by rfl) T.c_MOST_DEEP fun _ _ => .int _) pfa_nil))) pf_non (nomark _))))
theorem d13 (T : Tx w.params K mg fa lc lp ca fd) (TBs : ∀ p ∈ tabC lc lp, LamX.TabB base mg p.1 p.2) (A : All P w K mg base fa lp ca fd k) (cdv : Value) (hcd : (fd 13).code = cdv) (A0 : Around) (outer : List PySem.Env) (s : Shared) (H : Hp) (E : XK) (hgd : (A0.deeper (envOfC "show_worth" (defScope s13) s.heap.objs.size (fa 13) cdv)).guards = some []) (hr1 : Room (2 * k + 3) (A0.deeper (envOfC "show_worth" (defScope s13) s.heap.objs.size (fa 13) cdv))) :
    PSs (cxOf CX0 P w K mg base N13 "show_worth" (defScope s13) (fa 13) cdv A0 outer s H E).nox (defBody s13) (tFS ⟨K, fa, w.params, tabT lp, ca⟩ (b13 (evC tab k))) := by
  have hr := hr1.mono (Nat.le_succ _)
  obtain ⟨h1, h64, h65, h66⟩ := units_of hr
  exact (pfs_cons (pf_ifS (pft_cmp op_isDD (pf_var (pv 0)) pf_non (nomark _)) (pfs_one (pf_ret (pf_globE (by rfl) T.c_NOTHING fun _ _ => .str _))) pfs_nil)
    (pfs_cons (pf_ifS (pft_tru rfl (pf_callB (cr_isi rfl) (by rfl) T.z_isinstance bt_isinstance (pfa_cons (pf_var (pv 0)) (pfa_cons (pf_tyv (by rfl) T.z_tuple bt_tuple) pfa_nil)))) (pfs_one (pf_ret (pf_bm rfl (by decide) PySem.F.plainAttrs_str PySem.F.slot_str_join PySem.F.type_str_join (md_join rfl) pf_str (pfa_cons (pf_bin (op_addD rfl) (pf_bin (op_addD rfl) (pf_lst (pfa_cons pf_str pfa_nil)) (pf_lc (own := [("part", 1)]) (ws := [1]) rfl S13.nd (by decide) (pfi_val rfl (pf_var (pv 0))) (blkOk_by (N := N13) (sc := defScope s13) (by decide +kernel)) (fun _ _ _ _ _ => (pfg_name (pg_name (i := 1) S13.nd rfl (by first | exact Or.inl rfl | exact Or.inr rfl)))) (fun _ _ _ _ _ => pfts_nil) (fun _ _ _ _ _ => (pf_call A.f13 (fun _ _ _ _ e => evC_len e) hgd hr (by rfl) T.g13 T.F13.kp T.b13 pass0 (pfa_cons (pf_var (pv 1)) pfa_nil))))) (pf_lst (pfa_cons pf_str pfa_nil))) pfa_nil)))) pfs_nil)
    (pfs_one (pf_ret (pf_callTy (cr_str) (by rfl) T.z_str bt_str (pfa_cons (pf_var (pv 0)) pfa_nil))))))
theorem d14 (T : Tx w.params K mg fa lc lp ca fd) (TBs : ∀ p ∈ tabC lc lp, LamX.TabB base mg p.1 p.2) (A : All P w K mg base fa lp ca fd k) (cdv : Value) (hcd : (fd 14).code = cdv) (A0 : Around) (outer : List PySem.Env) (s : Shared) (H : Hp) (E : XK) (hgd : (A0.deeper (envOfC "show_part" (defScope s14) s.heap.objs.size (fa 14) cdv)).guards = some []) (hr1 : Room (2 * k + 3) (A0.deeper (envOfC "show_part" (defScope s14) s.heap.objs.size (fa 14) cdv))) :
    PSs (cxOf CX0 P w K mg base N14 "show_part" (defScope s14) (fa 14) cdv A0 outer s H E).nox (defBody s14) (tFS ⟨K, fa, w.params, tabT lp, ca⟩ (b14 (evC tab k))) := by
  have hr := hr1.mono (Nat.le_succ _)
  obtain ⟨h1, h64, h65, h66⟩ := units_of hr
  exact (pfs_cons (pf_ifS (PW.pt (pfw_and (pft_cmp (op_inDD rfl rfl h65) (pf_var (pv 0)) (pf_globE (by rfl) T.c_SCRIPTS fun _ _ => .str _) (by with_unfolding_all rfl)) (pfw_and1 (pft_cmp op_isNotDD (pf_var (pv 1)) pf_non (nomark _))))) (pfs_one (pf_ret (pf_bm rfl (by decide) PySem.F.plainAttrs_str PySem.F.slot_str_join PySem.F.type_str_join (md_join rfl) pf_str (pfa_cons (pf_bin (op_addD rfl) (pf_bin (op_addD rfl) (pf_lst (pfa_cons pf_str pfa_nil)) (pf_lc (own := [("deed", 2)]) (ws := [2]) rfl S14.nd (by decide) (pfi_val rfl (pf_var (pv 1))) (blkOk_by (N := N14) (sc := defScope s14) (by decide +kernel)) (fun _ _ _ _ _ => (pfg_name (pg_name (i := 2) S14.nd rfl (by first | exact Or.inl rfl | exact Or.inr rfl)))) (fun _ _ _ _ _ => pfts_nil) (fun _ _ _ _ _ => (pf_call A.f15 (fun _ _ _ _ e => evC_len e) hgd hr (by rfl) T.g15 T.F15.kp T.b15 pass0 (pfa_cons (pf_var (pv 2)) pfa_nil))))) (pf_lst (pfa_cons pf_str pfa_nil))) pfa_nil)))) pfs_nil)
    (pfs_one (pf_ret (pf_call A.f13 (fun _ _ _ _ e => evC_len e) hgd hr (by rfl) T.g13 T.F13.kp T.b13 pass0 (pfa_cons (pf_var (pv 1)) pfa_nil)))))
theorem d15 (T : Tx w.params K mg fa lc lp ca fd) (TBs : ∀ p ∈ tabC lc lp, LamX.TabB base mg p.1 p.2) (A : All P w K mg base fa lp ca fd k) (cdv : Value) (hcd : (fd 15).code = cdv) (A0 : Around) (outer : List PySem.Env) (s : Shared) (H : Hp) (E : XK) (hgd : (A0.deeper (envOfC "show_deed" (defScope s15) s.heap.objs.size (fa 15) cdv)).guards = some []) (hr1 : Room (2 * k + 3) (A0.deeper (envOfC "show_deed" (defScope s15) s.heap.objs.size (fa 15) cdv))) :
    PSs (cxOf CX0 P w K mg base N15 "show_deed" (defScope s15) (fa 15) cdv A0 outer s H E).nox (defBody s15) (tFS ⟨K, fa, w.params, tabT lp, ca⟩ (b15 (evC tab k))) := by
  have hr := hr1.mono (Nat.le_succ _)
  obtain ⟨h1, h64, h65, h66⟩ := units_of hr
  exact (pfs_cons (pf_asg (pf_var (pv 0)) (pfg_star rfl rfl (pgs_cons (pg_name (i := 1) S15.nd rfl (by first | exact Or.inl rfl | exact Or.inr rfl)) (pgs_cons (pg_name (i := 2) S15.nd rfl (by first | exact Or.inl rfl | exact Or.inr rfl)) pgs_nil))))
    (pfs_cons (pf_setLc (i := 3) (own := [("kind", 4), ("part", 5)]) (ws := [4, 5]) rfl S15.nd (by decide) rfl rfl (sw_true rfl rfl rfl (by decide +kernel))  (pfi_zipS rfl (by rfl) T.z_zip (pfa_cons (pf_ix rfl rfl h1 (let ⟨_, _, h1, h2, h3⟩ := T.c_FORMS; pf_globD (by rfl) h1 h2 h3) (pf_var (pv 1))) (pfa_cons (pf_var (pv 2)) pfa_nil))) (blkOk_by (N := N15) (sc := defScope s15) (by decide +kernel)) (fun _ _ _ _ _ => (pfg_tup rfl rfl (pfgs_cons (pfg_name (pg_name (i := 4) S15.nd rfl (by first | exact Or.inl rfl | exact Or.inr rfl))) (pfgs_cons (pfg_name (pg_name (i := 5) S15.nd rfl (by first | exact Or.inl rfl | exact Or.inr rfl))) pfgs_nil)))) (fun _ _ _ _ _ => pfts_nil) (fun _ _ _ _ _ => (pf_call A.f14 (fun _ _ _ _ e => evC_len e) hgd hr (by rfl) T.g14 T.F14.kp T.b14 pass0 (pfa_cons (pf_var (pv 4)) (pfa_cons (pf_var (pv 5)) pfa_nil)))))
    (pfs_one (pf_ret (pf_bm rfl (by decide) PySem.F.plainAttrs_str PySem.F.slot_str_join PySem.F.type_str_join (md_join rfl) pf_str (pfa_cons (pf_bin (op_addD rfl) (pf_bin (op_addD rfl) (pf_lst (pfa_cons pf_str (pfa_cons (pf_var (pv 1)) pfa_nil))) (pf_var (pv 3))) (pf_lst (pfa_cons pf_str pfa_nil))) pfa_nil))))))
theorem d16 (T : Tx w.params K mg fa lc lp ca fd) (TBs : ∀ p ∈ tabC lc lp, LamX.TabB base mg p.1 p.2) (A : All P w K mg base fa lp ca fd k) (cdv : Value) (hcd : (fd 16).code = cdv) (A0 : Around) (outer : List PySem.Env) (s : Shared) (H : Hp) (E : XK) (hgd : (A0.deeper (envOfC "show_script" (defScope s16) s.heap.objs.size (fa 16) cdv)).guards = some []) (hr1 : Room (2 * k + 3) (A0.deeper (envOfC "show_script" (defScope s16) s.heap.objs.size (fa 16) cdv))) :
    PSs (cxOf CX0 P w K mg base N16 "show_script" (defScope s16) (fa 16) cdv A0 outer s H E).nox (defBody s16) (tFS ⟨K, fa, w.params, tabT lp, ca⟩ (b16 (evC tab k))) := by
  have hr := hr1.mono (Nat.le_succ _)
  obtain ⟨h1, h64, h65, h66⟩ := units_of hr
  exact (pfs_one (pf_ret (pf_bm rfl (by decide) PySem.F.plainAttrs_str PySem.F.slot_str_join PySem.F.type_str_join (md_join rfl) pf_str (pfa_cons (pf_lc (own := [("deed", 1)]) (ws := [1]) rfl S16.nd (by decide) (pfi_val rfl (pf_var (pv 0))) (blkOk_by (N := N16) (sc := defScope s16) (by decide +kernel)) (fun _ _ _ _ _ => (pfg_name (pg_name (i := 1) S16.nd rfl (by first | exact Or.inl rfl | exact Or.inr rfl)))) (fun _ _ _ _ _ => pfts_nil) (fun _ _ _ _ _ => (pf_call A.f15 (fun _ _ _ _ e => evC_len e) hgd hr (by rfl) T.g15 T.F15.kp T.b15 pass0 (pfa_cons (pf_var (pv 1)) pfa_nil)))) pfa_nil))))
theorem d17 (T : Tx w.params K mg fa lc lp ca fd) (TBs : ∀ p ∈ tabC lc lp, LamX.TabB base mg p.1 p.2) (A : All P w K mg base fa lp ca fd k) (cdv : Value) (hcd : (fd 17).code = cdv) (A0 : Around) (outer : List PySem.Env) (s : Shared) (H : Hp) (E : XK) (hgd : (A0.deeper (envOfC "atom_in" (defScope s17) s.heap.objs.size (fa 17) cdv)).guards = some []) (hr1 : Room (2 * k + 3) (A0.deeper (envOfC "atom_in" (defScope s17) s.heap.objs.size (fa 17) cdv))) :
    PSs (cxOf CX0 P w K mg base N17 "atom_in" (defScope s17) (fa 17) cdv A0 outer s H E).nox (defBody s17) (tFS ⟨K, fa, w.params, tabT lp, ca⟩ (b17 (evC tab k))) := by
  have hr := hr1.mono (Nat.le_succ _)
  obtain ⟨h1, h64, h65, h66⟩ := units_of hr
  exact (pfs_cons (pf_set (ps_set (i := 1) S17.nd rfl (Or.inl rfl) (pf_if (pft_tru rfl (pf_bm rfl (by decide) PySem.F.plainAttrs_str PySem.F.slot_str_startswith PySem.F.type_str_startswith md_startswith (pf_var (pv 0)) (pfa_cons pf_str pfa_nil))) (pf_sl rfl (pf_var (pv 0)) (pfo_some pf_int) pfo_none) (pf_var (pv 0)))))
    (pfs_cons (pf_ifS (PW.pt (pfw_and (pft_chain op_ltDD op_leDD pf_int (pf_callB (cr_len rfl) (by rfl) T.z_len bt_len (pfa_cons (pf_var (pv 1)) pfa_nil)) (pf_globE (by rfl) T.c_MOST_FIGURES fun _ _ => .int _)) (pfw_and1 (pft_tru rfl (pf_callB (cr_allD rfl rfl) (by rfl) T.z_all bt_all (pfa_cons (pf_lc (own := [("sign", 2)]) (ws := [2]) rfl S17.nd (by decide) (pfi_val rfl (pf_var (pv 1))) (blkOk_by (N := N17) (sc := defScope s17) (by decide +kernel)) (fun _ _ _ _ _ => (pfg_name (pg_name (i := 2) S17.nd rfl (by first | exact Or.inl rfl | exact Or.inr rfl)))) (fun _ _ _ _ _ => pfts_nil) (fun _ _ _ _ _ => (pf_cmp (op_inDD rfl rfl h65) (pf_var (pv 2)) (pf_globE (by rfl) T.c_FIGURES fun _ _ => .str _) (by with_unfolding_all rfl)))) pfa_nil)))))) (pfs_one (pf_ret (pf_callTy (cr_intS) (by rfl) T.z_int bt_int (pfa_cons (pf_var (pv 0)) pfa_nil)))) pfs_nil)
    (pfs_one (pf_ret (pf_if (pft_cmp (op_eqDD rfl h64) (pf_var (pv 0)) (pf_globE (by rfl) T.c_NOTHING fun _ _ => .str _) (nomark _)) pf_non (pf_var (pv 0)))))))
theorem d18 (T : Tx w.params K mg fa lc lp ca fd) (TBs : ∀ p ∈ tabC lc lp, LamX.TabB base mg p.1 p.2) (A : All P w K mg base fa lp ca fd k) (cdv : Value) (hcd : (fd 18).code = cdv) (A0 : Around) (outer : List PySem.Env) (s : Shared) (H : Hp) (E : XK) (hgd : (A0.deeper (envOfC "Words.__init__" (defScope s18) s.heap.objs.size (fa 18) cdv)).guards = some []) (hr1 : Room (2 * k + 3) (A0.deeper (envOfC "Words.__init__" (defScope s18) s.heap.objs.size (fa 18) cdv))) :
    PSs (cxOf CX0 P w K mg base N18 "Words.__init__" (defScope s18) (fa 18) cdv A0 outer s H E).nox (defBody s18) (tFS ⟨K, fa, w.params, tabT lp, ca⟩ (b18 (evC tab k))) := by
  have hr := hr1.mono (Nat.le_succ _)
  obtain ⟨h1, h64, h65, h66⟩ := units_of hr
  exact (pfs_cons (pf_fldS (List.forall_mem_cons.mpr ⟨⟨T.cl0, T.na0_row⟩, (fun _ h => absurd h (by simp))⟩) (pf_var (pv 0)) (pf_bm rfl (by decide) PySem.F.plainAttrs_str PySem.F.slot_str_split PySem.F.type_str_split md_split (pf_var (pv 1)) (pfa_cons pf_str pfa_nil)))
    (pfs_one (pf_fldS (List.forall_mem_cons.mpr ⟨⟨T.cl0, T.na0_at⟩, (fun _ h => absurd h (by simp))⟩) (pf_var (pv 0)) pf_int)))
theorem d19 (T : Tx w.params K mg fa lc lp ca fd) (TBs : ∀ p ∈ tabC lc lp, LamX.TabB base mg p.1 p.2) (A : All P w K mg base fa lp ca fd k) (cdv : Value) (hcd : (fd 19).code = cdv) (A0 : Around) (outer : List PySem.Env) (s : Shared) (H : Hp) (E : XK) (hgd : (A0.deeper (envOfC "Words.is_over" (defScope s19) s.heap.objs.size (fa 19) cdv)).guards = some []) (hr1 : Room (2 * k + 3) (A0.deeper (envOfC "Words.is_over" (defScope s19) s.heap.objs.size (fa 19) cdv))) :
    PSs (cxOf CX0 P w K mg base N19 "Words.is_over" (defScope s19) (fa 19) cdv A0 outer s H E).nox (defBody s19) (tFS ⟨K, fa, w.params, tabT lp, ca⟩ (b19 (evC tab k))) := by
  have hr := hr1.mono (Nat.le_succ _)
  obtain ⟨h1, h64, h65, h66⟩ := units_of hr
  exact (pfs_one (pf_ret (pf_cmp (op_eqDD rfl h64) (pf_fld (List.forall_mem_cons.mpr ⟨⟨T.cl0, T.na0_at⟩, (fun _ h => absurd h (by simp))⟩) (pf_var (pv 0))) (pf_callB (cr_len rfl) (by rfl) T.z_len bt_len (pfa_cons (pf_fld (List.forall_mem_cons.mpr ⟨⟨T.cl0, T.na0_row⟩, (fun _ h => absurd h (by simp))⟩) (pf_var (pv 0))) pfa_nil)) (nomark _))))
theorem d20 (T : Tx w.params K mg fa lc lp ca fd) (TBs : ∀ p ∈ tabC lc lp, LamX.TabB base mg p.1 p.2) (A : All P w K mg base fa lp ca fd k) (cdv : Value) (hcd : (fd 20).code = cdv) (A0 : Around) (outer : List PySem.Env) (s : Shared) (H : Hp) (E : XK) (hgd : (A0.deeper (envOfC "Words.next_word" (defScope s20) s.heap.objs.size (fa 20) cdv)).guards = some []) (hr1 : Room (2 * k + 3) (A0.deeper (envOfC "Words.next_word" (defScope s20) s.heap.objs.size (fa 20) cdv))) :
    PSs (cxOf CX0 P w K mg base N20 "Words.next_word" (defScope s20) (fa 20) cdv A0 outer s H E).nox (defBody s20) (tFS ⟨K, fa, w.params, tabT lp, ca⟩ (b20 (evC tab k))) := by
  have hr := hr1.mono (Nat.le_succ _)
  obtain ⟨h1, h64, h65, h66⟩ := units_of hr
  exact (pfs_cons (pf_ifS (pft_tru rfl (pf_meth0 (pf_var (pv 0)) T.cl0 T.g19 A.f19 (fun _ _ _ _ e => evC_len e) hgd hr T.b19 pass0)) (pfs_one pf_bad) pfs_nil)
    (pfs_cons (pf_fldAdd (List.forall_mem_cons.mpr ⟨⟨T.cl0, T.na0_at⟩, (fun _ h => absurd h (by simp))⟩) (pf_var (pv 0)) pf_int)
    (pfs_one (pf_ret (pf_ix rfl rfl h1 (pf_fld (List.forall_mem_cons.mpr ⟨⟨T.cl0, T.na0_row⟩, (fun _ h => absurd h (by simp))⟩) (pf_var (pv 0))) (pf_bin op_subD (pf_fld (List.forall_mem_cons.mpr ⟨⟨T.cl0, T.na0_at⟩, (fun _ h => absurd h (by simp))⟩) (pf_var (pv 0))) pf_int))))))
theorem d21 (T : Tx w.params K mg fa lc lp ca fd) (TBs : ∀ p ∈ tabC lc lp, LamX.TabB base mg p.1 p.2) (A : All P w K mg base fa lp ca fd k) (cdv : Value) (hcd : (fd 21).code = cdv) (A0 : Around) (outer : List PySem.Env) (s : Shared) (H : Hp) (E : XK) (hgd : (A0.deeper (envOfC "Words.bracketed" (defScope s21) s.heap.objs.size (fa 21) cdv)).guards = some []) (hr1 : Room (2 * k + 3) (A0.deeper (envOfC "Words.bracketed" (defScope s21) s.heap.objs.size (fa 21) cdv))) :
    PSs (cxOf CX0 P w K mg base N21 "Words.bracketed" (defScope s21) (fa 21) cdv A0 outer s H E).nox (defBody s21) (tFS ⟨K, fa, w.params, tabT lp, ca⟩ (b21 (evC tab k))) := by
  have hr := hr1.mono (Nat.le_succ _)
  obtain ⟨h1, h64, h65, h66⟩ := units_of hr
  exact (pfs_cons (pf_set (ps_set (i := 2) S21.nd rfl (Or.inl rfl) (pf_meth0 (pf_var (pv 0)) T.cl0 T.g20 A.f20 (fun _ _ _ _ e => evC_len e) hgd hr T.b20 pass0)))
    (pfs_cons (pf_ifS (pft_cmp (op_notInDD rfl rfl h65) (pf_var (pv 2)) (let ⟨_, _, h1, h2, h3⟩ := T.c_ENDS; pf_globD (by rfl) h1 h2 h3) (by with_unfolding_all rfl)) (pfs_one (pf_ret (pf_call A.f17 (fun _ _ _ _ e => evC_len e) hgd hr (by rfl) T.g17 T.F17.kp T.b17 pass0 (pfa_cons (pf_var (pv 2)) pfa_nil)))) pfs_nil)
    (pfs_cons (pf_ifS (pft_cmp (op_eqDD rfl h64) (pf_var (pv 1)) pf_int (nomark _)) (pfs_one pf_bad) pfs_nil)
    (pfs_cons (pf_set (ps_set (i := 3) S21.nd rfl (Or.inl rfl) (pf_new pfa_nil)))
    (pfs_cons (pf_while (n := 1000000) PassesOwn.never (PW.pt (pfw_and (pft_not (pft_tru rfl (pf_meth0 (pf_var (pv 0)) T.cl0 T.g19 A.f19 (fun _ _ _ _ e => evC_len e) hgd hr T.b19 pass0))) (pfw_and1 (pft_cmp (op_neDD rfl h64) (pf_ix rfl rfl h1 (pf_fld (List.forall_mem_cons.mpr ⟨⟨T.cl0, T.na0_row⟩, (fun _ h => absurd h (by simp))⟩) (pf_var (pv 0))) (pf_fld (List.forall_mem_cons.mpr ⟨⟨T.cl0, T.na0_at⟩, (fun _ h => absurd h (by simp))⟩) (pf_var (pv 0)))) (pf_ix rfl rfl h1 (let ⟨_, _, h1, h2, h3⟩ := T.c_ENDS; pf_globD (by rfl) h1 h2 h3) (pf_var (pv 2))) (nomark _))))) (pfs_one (pf_expr (pf_bm rfl (by decide) PySem.F.plainAttrs_list PySem.F.slot_list_append PySem.F.type_list_append md_append (pf_var (pv 3)) (pfa_cons (pf_meth (pf_var (pv 0)) T.cl0 T.g21 A.f21 (fun _ _ _ _ e => evC_len e) hgd hr T.b21 pass0 (pfa_cons (pf_bin op_subD (pf_var (pv 1)) pf_int) pfa_nil)) pfa_nil)))))
    (pfs_cons (pf_expr (pf_meth0 (pf_var (pv 0)) T.cl0 T.g20 A.f20 (fun _ _ _ _ e => evC_len e) hgd hr T.b20 pass0))
    (pfs_one (pf_ret (pf_callTy (cr_tuple rfl) (by rfl) T.z_tuple bt_tuple (pfa_cons (pf_var (pv 3)) pfa_nil))))))))))
theorem d22 (T : Tx w.params K mg fa lc lp ca fd) (TBs : ∀ p ∈ tabC lc lp, LamX.TabB base mg p.1 p.2) (A : All P w K mg base fa lp ca fd k) (cdv : Value) (hcd : (fd 22).code = cdv) (A0 : Around) (outer : List PySem.Env) (s : Shared) (H : Hp) (E : XK) (hgd : (A0.deeper (envOfC "read_script" (defScope s22) s.heap.objs.size (fa 22) cdv)).guards = some []) (hr1 : Room (2 * k + 3) (A0.deeper (envOfC "read_script" (defScope s22) s.heap.objs.size (fa 22) cdv))) :
    PSs (cxOf CX0 P w K mg base N22 "read_script" (defScope s22) (fa 22) cdv A0 outer s H E).nox (defBody s22) (tFS ⟨K, fa, w.params, tabT lp, ca⟩ (b22 (evC tab k))) := by
  have hr := hr1.mono (Nat.le_succ _)
  obtain ⟨h1, h64, h65, h66⟩ := units_of hr
  exact (pfs_cons (pf_ifS (pft_not (pft_tru rfl (pf_callB (cr_isi rfl) (by rfl) T.z_isinstance bt_isinstance (pfa_cons (pf_var (pv 0)) (pfa_cons (pf_tyv (by rfl) T.z_str bt_str) pfa_nil))))) (pfs_one pf_bad) pfs_nil)
    (pfs_cons (pf_set (ps_set (i := 1) S22.nd rfl (Or.inl rfl) (pf_make (k := 2 * k + 2) T.g18 A.f18 (fun _ _ _ _ e => evC_len e) hgd hr1 (by rfl) T.cg0 T.b18 pass0 (pfa_cons (pf_var (pv 0)) pfa_nil))))
    (pfs_cons (pf_set (ps_set (i := 2) S22.nd rfl (Or.inl rfl) (pf_new pfa_nil)))
    (pfs_cons (pf_while (n := 1000000) PassesOwn.never (PW.pt (pfw_and (pft_cmp (op_neDD rfl h64) (pf_var (pv 0)) pf_str (nomark _)) (pfw_and1 (pft_not (pft_tru rfl (pf_meth0 (pf_var (pv 1)) T.cl0 T.g19 A.f19 (fun _ _ _ _ e => evC_len e) hgd hr T.b19 pass0)))))) (pfs_one (pf_expr (pf_bm rfl (by decide) PySem.F.plainAttrs_list PySem.F.slot_list_append PySem.F.type_list_append md_append (pf_var (pv 2)) (pfa_cons (pf_meth (pf_var (pv 1)) T.cl0 T.g21 A.f21 (fun _ _ _ _ e => evC_len e) hgd hr T.b21 pass0 (pfa_cons (pf_globE (by rfl) T.c_MOST_BRACKETS fun _ _ => .int _) pfa_nil)) pfa_nil)))))
    (pfs_cons (pf_set (ps_set (i := 3) S22.nd rfl (Or.inl rfl) (pf_callTy (cr_tuple rfl) (by rfl) T.z_tuple bt_tuple (pfa_cons (pf_var (pv 2)) pfa_nil))))
    (pfs_cons (pf_ifS (PW.pt (pfw_or (pft_not (pft_tru rfl (pf_call A.f12 (fun _ _ _ _ e => evC_len e) hgd hr (by rfl) T.g12 T.F12.kp T.b12 pass0 (pfa_cons (pf_var (pv 3)) pfa_nil)))) (pfw_or1 (pft_cmp (op_neDD rfl h64) (pf_call A.f16 (fun _ _ _ _ e => evC_len e) hgd hr (by rfl) T.g16 T.F16.kp T.b16 pass0 (pfa_cons (pf_var (pv 3)) pfa_nil)) (pf_var (pv 0)) (nomark _))))) (pfs_one pf_bad) pfs_nil)
    (pfs_one (pf_ret (pf_var (pv 3))))))))))
theorem d23 (T : Tx w.params K mg fa lc lp ca fd) (TBs : ∀ p ∈ tabC lc lp, LamX.TabB base mg p.1 p.2) (A : All P w K mg base fa lp ca fd k) (cdv : Value) (hcd : (fd 23).code = cdv) (A0 : Around) (outer : List PySem.Env) (s : Shared) (H : Hp) (E : XK) (hgd : (A0.deeper (envOfC "_law_pen" (defScope s23) s.heap.objs.size (fa 23) cdv)).guards = some []) (hr1 : Room (2 * k + 3) (A0.deeper (envOfC "_law_pen" (defScope s23) s.heap.objs.size (fa 23) cdv))) :
    PSs (cxOf CX0 P w K mg base N23 "_law_pen" (defScope s23) (fa 23) cdv A0 outer s H E).nox (defBody s23) (tFS ⟨K, fa, w.params, tabT lp, ca⟩ (b23 (evC tab k))) := by
  have hr := hr1.mono (Nat.le_succ _)
  obtain ⟨h1, h64, h65, h66⟩ := units_of hr
  exact (pfs_one (pf_ret (pf_disp (fs := (((fC (.str "cells")), (fCall listC (fCons (fSl (fVar 0) oNone (oSome (fC (.int 63)))) fNil))) :: (((fC (.str "at")), (fC (.int 0))) :: (((fC (.str "left")), (fC (.int 0))) :: [])))) (pfp_cons pf_str (pf_callTy (cr_list rfl) (by rfl) T.z_list bt_list (pfa_cons (pf_sl rfl (pf_var (pv 0)) pfo_none (pfo_some pf_int)) pfa_nil)) (pfp_cons pf_str pf_int (pfp_cons pf_str pf_int pfp_nil))) rfl rfl (by simp) (by decide))))
theorem d24 (T : Tx w.params K mg fa lc lp ca fd) (TBs : ∀ p ∈ tabC lc lp, LamX.TabB base mg p.1 p.2) (A : All P w K mg base fa lp ca fd k) (cdv : Value) (hcd : (fd 24).code = cdv) (A0 : Around) (outer : List PySem.Env) (s : Shared) (H : Hp) (E : XK) (hgd : (A0.deeper (envOfC "_law_draw" (defScope s24) s.heap.objs.size (fa 24) cdv)).guards = some []) (hr1 : Room (2 * k + 3) (A0.deeper (envOfC "_law_draw" (defScope s24) s.heap.objs.size (fa 24) cdv))) :
    PSs (cxOf CX0 P w K mg base N24 "_law_draw" (defScope s24) (fa 24) cdv A0 outer s H E).nox (defBody s24) (tFS ⟨K, fa, w.params, tabT lp, ca⟩ (b24 (evC tab k))) := by
  have hr := hr1.mono (Nat.le_succ _)
  obtain ⟨h1, h64, h65, h66⟩ := units_of hr
  exact (pfs_cons (pf_ifS (pft_cmp op_gtDD (pf_ix rfl rfl h1 (pf_var (pv 0)) pf_str) pf_int (nomark _)) (pfs_cons (pf_set (ps_set (i := 2) S24.nd rfl (Or.inl rfl) (pf_bin op_modD (pf_ix rfl rfl h1 (pf_var (pv 0)) pf_str) (pf_var (pv 1)))))
    (pfs_cons (pf_sub h1 (pf_bin op_fdivD (pf_ix rfl rfl h1 (pf_var (pv 0)) pf_str) (pf_var (pv 1))) (pf_var (pv 0)) pf_str)
    (pfs_one (pf_ret (pf_var (pv 2)))))) pfs_nil)
    (pfs_cons (pf_set (ps_set (i := 3) S24.nd rfl (Or.inl rfl) (pf_ix rfl rfl h1 (pf_var (pv 0)) pf_str)))
    (pfs_cons (pf_sub h1 (pf_bin (op_addD rfl) (pf_var (pv 3)) pf_int) (pf_var (pv 0)) pf_str)
    (pfs_cons (pf_set (ps_set (i := 4) S24.nd rfl (Or.inl rfl) pf_int))
    (pfs_cons (pf_ifS (pft_cmp (op_neDD rfl h64) (pf_ix rfl rfl h1 (pf_var (pv 0)) pf_str) (pf_lst pfa_nil) (nomark _)) (pfs_one (pf_set (ps_set (i := 4) S24.nd rfl (Or.inl rfl) (pf_ix rfl rfl h1 (pf_ix rfl rfl h1 (pf_var (pv 0)) pf_str) (pf_bin op_modD (pf_var (pv 3)) (pf_callB (cr_len rfl) (by rfl) T.z_len bt_len (pfa_cons (pf_ix rfl rfl h1 (pf_var (pv 0)) pf_str) pfa_nil))))))) pfs_nil)
    (pfs_cons (pf_ifS (PW.pt (pfw_and (pft_cmp op_ltDD (pf_var (pv 3)) (pf_callB (cr_len rfl) (by rfl) T.z_len bt_len (pfa_cons (pf_ix rfl rfl h1 (pf_var (pv 0)) pf_str) pfa_nil)) (nomark _)) (pfw_and1 (pft_cmp op_geDD (pf_var (pv 4)) (pf_bin op_powD pf_int pf_int) (nomark _))))) (pfs_cons (pf_sub h1 (pf_bin op_fdivD (pf_bin op_subD (pf_var (pv 4)) (pf_bin op_powD pf_int pf_int)) (pf_var (pv 1))) (pf_var (pv 0)) pf_str)
    (pfs_one (pf_ret (pf_bin op_modD (pf_bin op_subD (pf_var (pv 4)) (pf_bin op_powD pf_int pf_int)) (pf_var (pv 1)))))) pfs_nil)
    (pfs_cons (pf_set (ps_set (i := 5) S24.nd rfl (Or.inl rfl) (pf_bin op_modD (pf_bin (op_addD rfl) (pf_bin (op_addD rfl) (pf_bin (op_addD rfl) (pf_bin (op_mulD rfl) (pf_bin op_modD (pf_var (pv 4)) pf_int) pf_int) (pf_bin (op_mulD rfl) (pf_bin (op_mulD rfl) pf_int (pf_var (pv 3))) (pf_var (pv 3)))) (pf_bin (op_mulD rfl) pf_int (pf_var (pv 3)))) pf_int) pf_int)))
    (pfs_cons (pf_set (ps_set (i := 5) S24.nd rfl (Or.inl rfl) (pf_bin op_modD (pf_bin (op_addD rfl) (pf_bin (op_addD rfl) (pf_bin (op_mulD rfl) (pf_var (pv 5)) (pf_var (pv 5))) (pf_bin (op_mulD rfl) pf_int (pf_var (pv 5)))) pf_int) pf_int)))
    (pfs_one (pf_ret (pf_bin op_modD (pf_bin op_fdivD (pf_var (pv 5)) pf_int) (pf_var (pv 1)))))))))))))
theorem d25 (T : Tx w.params K mg fa lc lp ca fd) (TBs : ∀ p ∈ tabC lc lp, LamX.TabB base mg p.1 p.2) (A : All P w K mg base fa lp ca fd k) (cdv : Value) (hcd : (fd 25).code = cdv) (A0 : Around) (outer : List PySem.Env) (s : Shared) (H : Hp) (E : XK) (hgd : (A0.deeper (envOfC "_law_pick" (defScope s25) s.heap.objs.size (fa 25) cdv)).guards = some []) (hr1 : Room (2 * k + 3) (A0.deeper (envOfC "_law_pick" (defScope s25) s.heap.objs.size (fa 25) cdv))) :
    PSs (cxOf CX0 P w K mg base N25 "_law_pick" (defScope s25) (fa 25) cdv A0 outer s H E).nox (defBody s25) (tFS ⟨K, fa, w.params, tabT lp, ca⟩ (b25 (evC tab k))) := by
  have hr := hr1.mono (Nat.le_succ _)
  obtain ⟨h1, h64, h65, h66⟩ := units_of hr
  exact (pfs_one (pf_ret (pf_ix rfl rfl h1 (pf_var (pv 1)) (pf_call A.f24 (fun _ _ _ _ e => evC_len e) hgd hr (by rfl) T.g24 T.F24.kp T.b24 pass0 (pfa_cons (pf_var (pv 0)) (pfa_cons (pf_callB (cr_len rfl) (by rfl) T.z_len bt_len (pfa_cons (pf_var (pv 1)) pfa_nil)) pfa_nil))))))
theorem d26 (T : Tx w.params K mg fa lc lp ca fd) (TBs : ∀ p ∈ tabC lc lp, LamX.TabB base mg p.1 p.2) (A : All P w K mg base fa lp ca fd k) (cdv : Value) (hcd : (fd 26).code = cdv) (A0 : Around) (outer : List PySem.Env) (s : Shared) (H : Hp) (E : XK) (hgd : (A0.deeper (envOfC "_law_word" (defScope s26) s.heap.objs.size (fa 26) cdv)).guards = some []) (hr1 : Room (2 * k + 3) (A0.deeper (envOfC "_law_word" (defScope s26) s.heap.objs.size (fa 26) cdv))) :
    PSs (cxOf CX0 P w K mg base N26 "_law_word" (defScope s26) (fa 26) cdv A0 outer s H E).nox (defBody s26) (tFS ⟨K, fa, w.params, tabT lp, ca⟩ (b26 (evC tab k))) := by
  have hr := hr1.mono (Nat.le_succ _)
  obtain ⟨h1, h64, h65, h66⟩ := units_of hr
  exact (pfs_cons (pf_set (ps_set (i := 1) S26.nd rfl (Or.inl rfl) (pf_lst (pfa_cons pf_str (pfa_cons pf_str (pfa_cons pf_str (pfa_cons pf_str (pfa_cons pf_str (pfa_cons pf_str (pfa_cons pf_str (pfa_cons pf_str pfa_nil)))))))))))
    (pfs_cons (pf_set (ps_set (i := 2) S26.nd rfl (Or.inr rfl) pf_str))
    (pfs_cons (pf_set (ps_set (i := 3) S26.nd rfl (Or.inl rfl) (pf_bm rfl (by decide) PySem.F.plainAttrs_str PySem.F.slot_str_join PySem.F.type_str_join (md_join rfl) pf_str (pfa_cons (pf_lc (own := [("_law_k", 4)]) (ws := [4]) rfl S26.nd (by decide) (pfi_range1 (by rfl) T.z_range (pf_bin (op_addD rfl) pf_int (pf_call A.f24 (fun _ _ _ _ e => evC_len e) hgd hr (by rfl) T.g24 T.F24.kp T.b24 pass0 (pfa_cons (pf_var (pv 0)) (pfa_cons pf_int pfa_nil))))) (blkOk_by (N := N26) (sc := defScope s26) (by decide +kernel)) (fun _ _ _ _ _ => (pfg_name (pg_name (i := 4) S26.nd rfl (by first | exact Or.inl rfl | exact Or.inr rfl)))) (fun _ _ _ _ _ => pfts_nil) (fun _ _ _ _ _ => (pf_call A.f25 (fun _ _ _ _ e => evC_len e) hgd hr (by rfl) T.g25 T.F25.kp T.b25 pass0 (pfa_cons (pf_var (pv 0)) (pfa_cons (pf_var (pv 2)) pfa_nil))))) pfa_nil))))
    (pfs_one (pf_ret (pf_ix rfl rfl h1 (pf_lst (pfa_cons (pf_var (pv 3)) (pfa_cons (pf_call A.f25 (fun _ _ _ _ e => evC_len e) hgd hr (by rfl) T.g25 T.F25.kp T.b25 pass0 (pfa_cons (pf_var (pv 0)) (pfa_cons (pf_var (pv 1)) pfa_nil))) pfa_nil))) (pf_call A.f24 (fun _ _ _ _ e => evC_len e) hgd hr (by rfl) T.g24 T.F24.kp T.b24 pass0 (pfa_cons (pf_var (pv 0)) (pfa_cons pf_int pfa_nil)))))))))
theorem d27 (T : Tx w.params K mg fa lc lp ca fd) (TBs : ∀ p ∈ tabC lc lp, LamX.TabB base mg p.1 p.2) (A : All P w K mg base fa lp ca fd k) (cdv : Value) (hcd : (fd 27).code = cdv) (A0 : Around) (outer : List PySem.Env) (s : Shared) (H : Hp) (E : XK) (hgd : (A0.deeper (envOfC "_law_worth" (defScope s27) s.heap.objs.size (fa 27) cdv)).guards = some []) (hr1 : Room (2 * k + 3) (A0.deeper (envOfC "_law_worth" (defScope s27) s.heap.objs.size (fa 27) cdv))) :
    PSs (cxOf CX0 P w K mg base N27 "_law_worth" (defScope s27) (fa 27) cdv A0 outer s H E).nox (defBody s27) (tFS ⟨K, fa, w.params, tabT lp, ca⟩ (b27 (evC tab k))) := by
  have hr := hr1.mono (Nat.le_succ _)
  obtain ⟨h1, h64, h65, h66⟩ := units_of hr
  exact (pfs_cons (pf_set (ps_set (i := 2) S27.nd rfl (Or.inl rfl) (pf_call A.f24 (fun _ _ _ _ e => evC_len e) hgd hr (by rfl) T.g24 T.F24.kp T.b24 pass0 (pfa_cons (pf_var (pv 0)) (pfa_cons (pf_bin (op_addD rfl) pf_int (pf_callTy (cr_int) (by rfl) T.z_int bt_int (pfa_cons (pf_cmp op_gtDD (pf_var (pv 1)) pf_int (nomark _)) pfa_nil))) pfa_nil)))))
    (pfs_cons (pf_ifS (pft_cmp op_ltDD (pf_var (pv 2)) pf_int (nomark _)) (pfs_one (pf_ret (pf_ix rfl rfl h1 (pf_lst (pfa_cons pf_non (pfa_cons (pf_call A.f26 (fun _ _ _ _ e => evC_len e) hgd hr (by rfl) T.g26 T.F26.kp T.b26 pass0 (pfa_cons (pf_var (pv 0)) pfa_nil)) pfa_nil))) (pf_var (pv 2))))) pfs_nil)
    (pfs_cons (pf_ifS (pft_cmp (op_eqDD rfl h64) (pf_var (pv 2)) pf_int (nomark _)) (pfs_one (pf_ret (pf_bin op_subD (pf_call A.f24 (fun _ _ _ _ e => evC_len e) hgd hr (by rfl) T.g24 T.F24.kp T.b24 pass0 (pfa_cons (pf_var (pv 0)) (pfa_cons pf_int pfa_nil))) pf_int))) pfs_nil)
    (pfs_cons (pf_ifS (pft_cmp (op_eqDD rfl h64) (pf_var (pv 2)) pf_int (nomark _)) (pfs_one (pf_ret (pf_ix rfl rfl h1 (pf_lst (pfa_cons pf_int (pfa_cons (pf_un un_negD pf_int) (pfa_cons pf_int (pfa_cons (pf_un un_negD pf_int) pfa_nil))))) (pf_call A.f24 (fun _ _ _ _ e => evC_len e) hgd hr (by rfl) T.g24 T.F24.kp T.b24 pass0 (pfa_cons (pf_var (pv 0)) (pfa_cons pf_int pfa_nil)))))) pfs_nil)
    (pfs_cons (pf_set (ps_set (i := 3) S27.nd rfl (Or.inl rfl) (pf_ix rfl rfl h1 (pf_lst (pfa_cons (pf_call A.f24 (fun _ _ _ _ e => evC_len e) hgd hr (by rfl) T.g24 T.F24.kp T.b24 pass0 (pfa_cons (pf_var (pv 0)) (pfa_cons pf_int pfa_nil))) (pfa_cons pf_int pfa_nil))) (pf_callTy (cr_int) (by rfl) T.z_int bt_int (pfa_cons (pf_and (pf_cmp (op_eqDD rfl h64) (pf_var (pv 1)) pf_int (nomark _)) (pf_one (pf_cmp (op_eqDD rfl h64) (pf_call A.f24 (fun _ _ _ _ e => evC_len e) hgd hr (by rfl) T.g24 T.F24.kp T.b24 pass0 (pfa_cons (pf_var (pv 0)) (pfa_cons pf_int pfa_nil))) pf_int (nomark _)))) pfa_nil)))))
    (pfs_one (pf_ret (pf_callTy (cr_tuple rfl) (by rfl) T.z_tuple bt_tuple (pfa_cons (pf_lc (own := [("_law_k", 4)]) (ws := [4]) rfl S27.nd (by decide) (pfi_range1 (by rfl) T.z_range (pf_var (pv 3))) (blkOk_by (N := N27) (sc := defScope s27) (by decide +kernel)) (fun _ _ _ _ _ => (pfg_name (pg_name (i := 4) S27.nd rfl (by first | exact Or.inl rfl | exact Or.inr rfl)))) (fun _ _ _ _ _ => pfts_nil) (fun _ _ _ _ _ => (pf_call A.f27 (fun _ _ _ _ e => evC_len e) hgd hr (by rfl) T.g27 T.F27.kp T.b27 pass0 (pfa_cons (pf_var (pv 0)) (pfa_cons (pf_bin op_subD (pf_var (pv 1)) pf_int) pfa_nil))))) pfa_nil)))))))))
theorem d28 (T : Tx w.params K mg fa lc lp ca fd) (TBs : ∀ p ∈ tabC lc lp, LamX.TabB base mg p.1 p.2) (A : All P w K mg base fa lp ca fd k) (cdv : Value) (hcd : (fd 28).code = cdv) (A0 : Around) (outer : List PySem.Env) (s : Shared) (H : Hp) (E : XK) (hgd : (A0.deeper (envOfC "_law_forms" (defScope s28) s.heap.objs.size (fa 28) cdv)).guards = some []) (hr1 : Room (2 * k + 3) (A0.deeper (envOfC "_law_forms" (defScope s28) s.heap.objs.size (fa 28) cdv))) :
    PSs (cxOf CX0 P w K mg base N28 "_law_forms" (defScope s28) (fa 28) cdv A0 outer s H E).nox (defBody s28) (tFS ⟨K, fa, w.params, tabT lp, ca⟩ (b28 (evC tab k))) := by
  have hr := hr1.mono (Nat.le_succ _)
  obtain ⟨h1, h64, h65, h66⟩ := units_of hr
  exact (pfs_cons (pf_set (ps_set (i := 0) S28.nd rfl (Or.inl rfl) (pf_disp (fs := (((fC (.str "say")), (fC (.str "w"))) :: (((fC (.str "echo")), (fC (.str ""))) :: (((fC (.str "spend")), (fC (.str "k"))) :: (((fC (.str "post")), (fC (.str "rwS"))) :: (((fC (.str "micro")), (fC (.str "S"))) :: (((fC (.str "after")), (fC (.str "krwS"))) :: (((fC (.str "every")), (fC (.str "erwS"))) :: [])))))))) (pfp_cons pf_str pf_str (pfp_cons pf_str pf_str (pfp_cons pf_str pf_str (pfp_cons pf_str pf_str (pfp_cons pf_str pf_str (pfp_cons pf_str pf_str (pfp_cons pf_str pf_str pfp_nil))))))) rfl rfl (by simp) (by decide))))
    (pfs_cons (pf_expr (pf_bm rfl (by decide) PySem.F.plainAttrs_dict PySem.F.slot_dict_update PySem.F.type_dict_update md_update (pf_var (pv 0)) (pfa_cons (pf_disp (fs := (((fC (.str "idle")), (fC (.str "iwS"))) :: (((fC (.str "stop")), (fC (.str "w"))) :: (((fC (.str "rerank")), (fC (.str "wr"))) :: (((fC (.str "make")), (fC (.str "w"))) :: (((fC (.str "keep")), (fC (.str "wv"))) :: (((fC (.str "pass")), (fC (.str "w"))) :: (((fC (.str "break")), (fC (.str "ww"))) :: [])))))))) (pfp_cons pf_str pf_str (pfp_cons pf_str pf_str (pfp_cons pf_str pf_str (pfp_cons pf_str pf_str (pfp_cons pf_str pf_str (pfp_cons pf_str pf_str (pfp_cons pf_str pf_str pfp_nil))))))) rfl rfl (by simp) (by decide)) pfa_nil)))
    (pfs_cons (pf_expr (pf_bm rfl (by decide) PySem.F.plainAttrs_dict PySem.F.slot_dict_update PySem.F.type_dict_update md_update (pf_var (pv 0)) (pfa_cons (pf_disp (fs := (((fC (.str "follow")), (fC (.str "ww"))) :: (((fC (.str "then")), (fC (.str "wwss"))) :: (((fC (.str "all")), (fC (.str "wn"))) :: (((fC (.str "any")), (fC (.str "wn"))) :: (((fC (.str "first")), (fC (.str "wn"))) :: (((fC (.str "each")), (fC (.str "wn"))) :: (((fC (.str "give")), (fC (.str "v"))) :: [])))))))) (pfp_cons pf_str pf_str (pfp_cons pf_str pf_str (pfp_cons pf_str pf_str (pfp_cons pf_str pf_str (pfp_cons pf_str pf_str (pfp_cons pf_str pf_str (pfp_cons pf_str pf_str pfp_nil))))))) rfl rfl (by simp) (by decide)) pfa_nil)))
    (pfs_cons (pf_expr (pf_bm rfl (by decide) PySem.F.plainAttrs_dict PySem.F.slot_dict_update PySem.F.type_dict_update md_update (pf_var (pv 0)) (pfa_cons (pf_disp (fs := (((fC (.str "fail")), (fC (.str "w"))) :: (((fC (.str "guard")), (fC (.str "SsS"))) :: (((fC (.str "if")), (fC (.str "wSS"))) :: (((fC (.str "wait")), (fC (.str "w"))) :: (((fC (.str "run")), (fC (.str "w"))) :: (((fC (.str "story")), (fC (.str "wS"))) :: (((fC (.str "cancel")), (fC (.str "w"))) :: [])))))))) (pfp_cons pf_str pf_str (pfp_cons pf_str pf_str (pfp_cons pf_str pf_str (pfp_cons pf_str pf_str (pfp_cons pf_str pf_str (pfp_cons pf_str pf_str (pfp_cons pf_str pf_str pfp_nil))))))) rfl rfl (by simp) (by decide)) pfa_nil)))
    (pfs_cons (pf_expr (pf_bm rfl (by decide) PySem.F.plainAttrs_dict PySem.F.slot_dict_update PySem.F.type_dict_update md_update (pf_var (pv 0)) (pfa_cons (pf_disp (fs := (((fC (.str "yield")), (fC (.str "r"))) :: (((fC (.str "call")), (fC (.str "w"))) :: []))) (pfp_cons pf_str pf_str (pfp_cons pf_str pf_str pfp_nil)) rfl rfl (by simp) (by decide)) pfa_nil)))
    (pfs_one (pf_ret (pf_var (pv 0)))))))))
theorem d29 (T : Tx w.params K mg fa lc lp ca fd) (TBs : ∀ p ∈ tabC lc lp, LamX.TabB base mg p.1 p.2) (A : All P w K mg base fa lp ca fd k) (cdv : Value) (hcd : (fd 29).code = cdv) (A0 : Around) (outer : List PySem.Env) (s : Shared) (H : Hp) (E : XK) (hgd : (A0.deeper (envOfC "_law_part" (defScope s29) s.heap.objs.size (fa 29) cdv)).guards = some []) (hr1 : Room (2 * k + 3) (A0.deeper (envOfC "_law_part" (defScope s29) s.heap.objs.size (fa 29) cdv))) :
    PSs (cxOf CX0 P w K mg base N29 "_law_part" (defScope s29) (fa 29) cdv A0 outer s H E).nox (defBody s29) (tFS ⟨K, fa, w.params, tabT lp, ca⟩ (b29 (evC tab k))) := by
  have hr := hr1.mono (Nat.le_succ _)
  obtain ⟨h1, h64, h65, h66⟩ := units_of hr
  exact (pfs_cons (pf_set (ps_set (i := 4) S29.nd rfl (Or.inl rfl) (pf_ix rfl rfl h1 (pf_lst (pfa_cons pf_int (pfa_cons pf_int (pfa_cons (pf_call A.f24 (fun _ _ _ _ e => evC_len e) hgd hr (by rfl) T.g24 T.F24.kp T.b24 pass0 (pfa_cons (pf_var (pv 0)) (pfa_cons pf_int pfa_nil))) (pfa_cons pf_int pfa_nil))))) (pf_call A.f24 (fun _ _ _ _ e => evC_len e) hgd hr (by rfl) T.g24 T.F24.kp T.b24 pass0 (pfa_cons (pf_var (pv 0)) (pfa_cons pf_int pfa_nil))))))
    (pfs_cons (pf_ifS (pft_cmp (op_eqDD rfl h64) (pf_var (pv 1)) pf_str (nomark _)) (pfs_one (pf_ret (pf_ix rfl rfl h1 (pf_lst (pfa_cons pf_non (pfa_cons (pf_var (pv 4)) pfa_nil))) (pf_call A.f24 (fun _ _ _ _ e => evC_len e) hgd hr (by rfl) T.g24 T.F24.kp T.b24 pass0 (pfa_cons (pf_var (pv 0)) (pfa_cons pf_int pfa_nil)))))) pfs_nil)
    (pfs_cons (pf_ifS (pft_cmp (op_inDD rfl rfl h65) (pf_var (pv 1)) pf_str (by with_unfolding_all rfl)) (pfs_one (pf_ret (pf_callB (cr_max2 rfl) (by rfl) T.z_max bt_max (pfa_cons (pf_var (pv 4)) (pfa_cons (pf_callTy (cr_int) (by rfl) T.z_int bt_int (pfa_cons (pf_cmp (op_eqDD rfl h64) (pf_var (pv 1)) pf_str (nomark _)) pfa_nil)) pfa_nil))))) pfs_nil)
    (pfs_cons (pf_ifS (pft_cmp (op_inDD rfl rfl h65) (pf_var (pv 1)) pf_str (by with_unfolding_all rfl)) (pfs_one (pf_ret (pf_if (pft_cmp (op_eqDD rfl h64) (pf_var (pv 1)) pf_str (nomark _)) (pf_call A.f26 (fun _ _ _ _ e => evC_len e) hgd hr (by rfl) T.g26 T.F26.kp T.b26 pass0 (pfa_cons (pf_var (pv 0)) pfa_nil)) (pf_call A.f24 (fun _ _ _ _ e => evC_len e) hgd hr (by rfl) T.g24 T.F24.kp T.b24 pass0 (pfa_cons (pf_var (pv 0)) (pfa_cons pf_int pfa_nil)))))) pfs_nil)
    (pfs_cons (pf_ifS (pft_cmp (op_inDD rfl rfl h65) (pf_var (pv 1)) pf_str (by with_unfolding_all rfl)) (pfs_one (pf_ret (pf_if (pft_cmp (op_eqDD rfl h64) (pf_var (pv 1)) pf_str (nomark _)) (pf_call A.f27 (fun _ _ _ _ e => evC_len e) hgd hr (by rfl) T.g27 T.F27.kp T.b27 pass0 (pfa_cons (pf_var (pv 0)) (pfa_cons pf_int pfa_nil))) (pf_callTy (cr_tuple rfl) (by rfl) T.z_tuple bt_tuple (pfa_cons (pf_lc (own := [("_law_k", 5)]) (ws := [5]) rfl S29.nd (by decide) (pfi_range1 (by rfl) T.z_range (pf_call A.f24 (fun _ _ _ _ e => evC_len e) hgd hr (by rfl) T.g24 T.F24.kp T.b24 pass0 (pfa_cons (pf_var (pv 0)) (pfa_cons pf_int pfa_nil)))) (blkOk_by (N := N29) (sc := defScope s29) (by decide +kernel)) (fun _ _ _ _ _ => (pfg_name (pg_name (i := 5) S29.nd rfl (by first | exact Or.inl rfl | exact Or.inr rfl)))) (fun _ _ _ _ _ => pfts_nil) (fun _ _ _ _ _ => (pf_call A.f26 (fun _ _ _ _ e => evC_len e) hgd hr (by rfl) T.g26 T.F26.kp T.b26 pass0 (pfa_cons (pf_var (pv 0)) pfa_nil)))) pfa_nil))))) pfs_nil)
    (pfs_cons (pf_ifS (PW.pt (pfw_and (pft_cmp (op_eqDD rfl h64) (pf_var (pv 1)) pf_str (nomark _)) (pfw_and1 (PW.pt (pfw_or (pft_cmp op_ltDD (pf_var (pv 3)) pf_int (nomark _)) (pfw_or1 (pft_cmp (op_eqDD rfl h64) (pf_call A.f24 (fun _ _ _ _ e => evC_len e) hgd hr (by rfl) T.g24 T.F24.kp T.b24 pass0 (pfa_cons (pf_var (pv 0)) (pfa_cons pf_int pfa_nil))) pf_int (nomark _)))))))) (pfs_one (pf_ret pf_non)) pfs_nil)
    (pfs_one (pf_ret (pf_call A.f30 (fun _ _ _ _ e => evC_len e) hgd hr (by rfl) T.g30 T.F30.kp T.b30 pass0 (pfa_cons (pf_var (pv 0)) (pfa_cons (pf_var (pv 2)) (pfa_cons (pf_bin op_subD (pf_var (pv 3)) pf_int) pfa_nil))))))))))))
theorem d30 (T : Tx w.params K mg fa lc lp ca fd) (TBs : ∀ p ∈ tabC lc lp, LamX.TabB base mg p.1 p.2) (A : All P w K mg base fa lp ca fd k) (cdv : Value) (hcd : (fd 30).code = cdv) (A0 : Around) (outer : List PySem.Env) (s : Shared) (H : Hp) (E : XK) (hgd : (A0.deeper (envOfC "_law_script" (defScope s30) s.heap.objs.size (fa 30) cdv)).guards = some []) (hr1 : Room (2 * k + 3) (A0.deeper (envOfC "_law_script" (defScope s30) s.heap.objs.size (fa 30) cdv))) :
    PSs (cxOf CX0 P w K mg base N30 "_law_script" (defScope s30) (fa 30) cdv A0 outer s H E).nox (defBody s30) (tFS ⟨K, fa, w.params, tabT lp, ca⟩ (b30 (evC tab k))) := by
  have hr := hr1.mono (Nat.le_succ _)
  obtain ⟨h1, h64, h65, h66⟩ := units_of hr
  exact (pfs_cons (pf_asg (pf_tup (pfa_cons (pf_new pfa_nil) (pfa_cons (pf_call0 A.f28 (fun _ _ _ _ e => evC_len e) hgd hr (by rfl) T.g28 T.F28.kp T.b28 pass0) pfa_nil))) (pfg_tup rfl rfl (pfgs_cons (pfg_name (pg_name (i := 3) S30.nd rfl (by first | exact Or.inl rfl | exact Or.inr rfl))) (pfgs_cons (pfg_name (pg_name (i := 4) S30.nd rfl (by first | exact Or.inl rfl | exact Or.inr rfl))) pfgs_nil))))
    (pfs_cons (pf_setLc (i := 5) (own := [("_law_word_here", 6)]) (ws := [6]) rfl S30.nd (by decide) rfl rfl (sw_true rfl rfl rfl (by decide +kernel))  (pfi_val rfl (pf_var (pv 4))) (blkOk_by (N := N30) (sc := defScope s30) (by decide +kernel)) (fun _ _ _ _ _ => (pfg_name (pg_name (i := 6) S30.nd rfl (by first | exact Or.inl rfl | exact Or.inr rfl)))) (fun _ _ _ _ _ => pfts_one (PW.pt (pfw_or (pft_cmp op_gtDD (pf_var (pv 2)) pf_int (nomark _)) (pfw_or1 (pft_cmp (op_notInDD rfl rfl h65) pf_str (pf_ix rfl rfl h1 (pf_var (pv 4)) (pf_var (pv 6))) (by with_unfolding_all rfl)))))) (fun _ _ _ _ _ => (pf_var (pv 6))))
    (pfs_cons (pf_for PassesOwn.never rfl (pfi_range1 (by rfl) T.z_range (pf_call A.f24 (fun _ _ _ _ e => evC_len e) hgd hr (by rfl) T.g24 T.F24.kp T.b24 pass0 (pfa_cons (pf_var (pv 0)) (pfa_cons pf_int pfa_nil)))) (pfg_name (pg_name (i := 7) S30.nd rfl (by first | exact Or.inl rfl | exact Or.inr rfl))) (pfs_one (pf_ifS (pft_cmp op_gtDD (pf_ix rfl rfl h1 (pf_var (pv 1)) pf_str) pf_int (nomark _)) (pfs_cons (pf_sub h1 (pf_bin op_subD (pf_ix rfl rfl h1 (pf_var (pv 1)) pf_str) pf_int) (pf_var (pv 1)) pf_str)
    (pfs_cons (pf_set (ps_set (i := 6) S30.nd rfl (Or.inl rfl) (pf_call A.f25 (fun _ _ _ _ e => evC_len e) hgd hr (by rfl) T.g25 T.F25.kp T.b25 pass0 (pfa_cons (pf_var (pv 0)) (pfa_cons (pf_var (pv 5)) pfa_nil)))))
    (pfs_one (pf_expr (pf_bm rfl (by decide) PySem.F.plainAttrs_list PySem.F.slot_list_append PySem.F.type_list_append md_append (pf_var (pv 3)) (pfa_cons (pf_callTy (cr_tuple rfl) (by rfl) T.z_tuple bt_tuple (pfa_cons (pf_bin (op_addD rfl) (pf_lst (pfa_cons (pf_var (pv 6)) pfa_nil)) (pf_lc (own := [("_law_kind", 8)]) (ws := [8]) rfl S30.nd (by decide) (pfi_val rfl (pf_ix rfl rfl h1 (pf_var (pv 4)) (pf_var (pv 6)))) (blkOk_by (N := N30) (sc := defScope s30) (by decide +kernel)) (fun _ _ _ _ _ => (pfg_name (pg_name (i := 8) S30.nd rfl (by first | exact Or.inl rfl | exact Or.inr rfl)))) (fun _ _ _ _ _ => pfts_nil) (fun _ _ _ _ _ => (pf_call A.f29 (fun _ _ _ _ e => evC_len e) hgd hr (by rfl) T.g29 T.F29.kp T.b29 pass0 (pfa_cons (pf_var (pv 0)) (pfa_cons (pf_var (pv 8)) (pfa_cons (pf_var (pv 1)) (pfa_cons (pf_var (pv 2)) pfa_nil)))))))) pfa_nil)) pfa_nil)))))) pfs_nil)))
    (pfs_one (pf_ret (pf_callTy (cr_tuple rfl) (by rfl) T.z_tuple bt_tuple (pfa_cons (pf_var (pv 3)) pfa_nil)))))))
theorem d31 (T : Tx w.params K mg fa lc lp ca fd) (TBs : ∀ p ∈ tabC lc lp, LamX.TabB base mg p.1 p.2) (A : All P w K mg base fa lp ca fd k) (cdv : Value) (hcd : (fd 31).code = cdv) (A0 : Around) (outer : List PySem.Env) (s : Shared) (H : Hp) (E : XK) (hgd : (A0.deeper (envOfC "_law_shown" (defScope s31) s.heap.objs.size (fa 31) cdv)).guards = some []) (hr1 : Room (2 * k + 3) (A0.deeper (envOfC "_law_shown" (defScope s31) s.heap.objs.size (fa 31) cdv))) :
    PSs (cxOf CX0 P w K mg base N31 "_law_shown" (defScope s31) (fa 31) cdv A0 outer s H E).nox (defBody s31) (tFS ⟨K, fa, w.params, tabT lp, ca⟩ (b31 (evC tab k))) := by
  have hr := hr1.mono (Nat.le_succ _)
  obtain ⟨h1, h64, h65, h66⟩ := units_of hr
  exact (pfs_cons (pf_ifS (pft_tru rfl (pf_callB (cr_isi rfl) (by rfl) T.z_isinstance bt_isinstance (pfa_cons (pf_var (pv 0)) (pfa_cons (pf_tyv (by rfl) T.z_tuple bt_tuple) pfa_nil)))) (pfs_one (pf_ret (pf_bm rfl (by decide) PySem.F.plainAttrs_str PySem.F.slot_str_join PySem.F.type_str_join (md_join rfl) pf_str (pfa_cons (pf_bin (op_addD rfl) (pf_bin (op_addD rfl) (pf_lst (pfa_cons pf_str pfa_nil)) (pf_lc (own := [("_law_one", 1)]) (ws := [1]) rfl S31.nd (by decide) (pfi_val rfl (pf_var (pv 0))) (blkOk_by (N := N31) (sc := defScope s31) (by decide +kernel)) (fun _ _ _ _ _ => (pfg_name (pg_name (i := 1) S31.nd rfl (by first | exact Or.inl rfl | exact Or.inr rfl)))) (fun _ _ _ _ _ => pfts_nil) (fun _ _ _ _ _ => (pf_call A.f31 (fun _ _ _ _ e => evC_len e) hgd hr (by rfl) T.g31 T.F31.kp T.b31 pass0 (pfa_cons (pf_var (pv 1)) pfa_nil))))) (pf_lst (pfa_cons pf_str pfa_nil))) pfa_nil)))) pfs_nil)
    (pfs_one (pf_ret (pf_if (pft_cmp op_isDD (pf_var (pv 0)) pf_non (nomark _)) pf_str (pf_callTy (cr_str) (by rfl) T.z_str bt_str (pfa_cons (pf_var (pv 0)) pfa_nil))))))
theorem d32 (T : Tx w.params K mg fa lc lp ca fd) (TBs : ∀ p ∈ tabC lc lp, LamX.TabB base mg p.1 p.2) (A : All P w K mg base fa lp ca fd k) (cdv : Value) (hcd : (fd 32).code = cdv) (A0 : Around) (outer : List PySem.Env) (s : Shared) (H : Hp) (E : XK) (hgd : (A0.deeper (envOfC "_law_text" (defScope s32) s.heap.objs.size (fa 32) cdv)).guards = some []) (hr1 : Room (2 * k + 3) (A0.deeper (envOfC "_law_text" (defScope s32) s.heap.objs.size (fa 32) cdv))) :
    PSs (cxOf CX0 P w K mg base N32 "_law_text" (defScope s32) (fa 32) cdv A0 outer s H E).nox (defBody s32) (tFS ⟨K, fa, w.params, tabT lp, ca⟩ (b32 (evC tab k))) := by
  have hr := hr1.mono (Nat.le_succ _)
  obtain ⟨h1, h64, h65, h66⟩ := units_of hr
  exact (pfs_cons (pf_par (ps_par (i := 1) (j := 2) rfl S32.nd rfl rfl (by decide) rfl rfl (pfa_cons (pf_new pfa_nil) (pfa_cons (pf_call0 A.f28 (fun _ _ _ _ e => evC_len e) hgd hr (by rfl) T.g28 T.F28.kp T.b28 pass0) pfa_nil)) (by rfl)))
    (pfs_cons (pf_for PassesOwn.never rfl (pfi_val rfl (pf_var (pv 0))) (pfg_name (pg_name (i := 3) S32.nd rfl (by first | exact Or.inl rfl | exact Or.inr rfl))) (pfs_cons (pf_set (ps_set (i := 1) S32.nd rfl (Or.inl rfl) (pf_bin op_addN (pf_var (pv 1)) (pf_lst (pfa_cons pf_str (pfa_cons (pf_ix rfl rfl h1 (pf_var (pv 3)) pf_int) pfa_nil))))))
    (pfs_cons (pf_for PassesOwn.never rfl (pfi_zip rfl (by rfl) T.z_zip (pfa_cons (pf_ix rfl rfl h1 (pf_var (pv 2)) (pf_ix rfl rfl h1 (pf_var (pv 3)) pf_int)) (pfa_cons (pf_sl rfl (pf_var (pv 3)) (pfo_some pf_int) pfo_none) pfa_nil))) (pfg_tup rfl rfl (pfgs_cons (pfg_name (pg_name (i := 4) S32.nd rfl (by first | exact Or.inl rfl | exact Or.inr rfl))) (pfgs_cons (pfg_name (pg_name (i := 5) S32.nd rfl (by first | exact Or.inl rfl | exact Or.inr rfl))) pfgs_nil))) (pfs_one (pf_ifS (PW.pt (pfw_and (pft_cmp (op_inDD rfl rfl h65) (pf_var (pv 4)) pf_str (by with_unfolding_all rfl)) (pfw_and1 (pft_cmp op_isNotDD (pf_var (pv 5)) pf_non (nomark _))))) (pfs_one (pf_set (ps_set (i := 1) S32.nd rfl (Or.inl rfl) (pf_bin op_addN (pf_bin (op_addD rfl) (pf_bin (op_addD rfl) (pf_var (pv 1)) (pf_lst (pfa_cons pf_str pfa_nil))) (pf_bin (op_mulD rfl) (pf_lst (pfa_cons (pf_call A.f32 (fun _ _ _ _ e => evC_len e) hgd hr (by rfl) T.g32 T.F32.kp T.b32 pass0 (pfa_cons (pf_var (pv 5)) pfa_nil)) pfa_nil)) (pf_callTy (cr_int) (by rfl) T.z_int bt_int (pfa_cons (pf_cmp (op_neDD rfl h64) (pf_var (pv 5)) (pf_tup pfa_nil) (nomark _)) pfa_nil)))) (pf_lst (pfa_cons pf_str pfa_nil)))))) (pfs_one (pf_expr (pf_bm rfl (by decide) PySem.F.plainAttrs_list PySem.F.slot_list_append PySem.F.type_list_append md_append (pf_var (pv 1)) (pfa_cons (pf_call A.f31 (fun _ _ _ _ e => evC_len e) hgd hr (by rfl) T.g31 T.F31.kp T.b31 pass0 (pfa_cons (pf_var (pv 5)) pfa_nil)) pfa_nil)))))))
    (pfs_one (pf_expr (pf_bm rfl (by decide) PySem.F.plainAttrs_list PySem.F.slot_list_append PySem.F.type_list_append md_append (pf_var (pv 1)) (pfa_cons pf_str pfa_nil)))))))
    (pfs_one (pf_ret (pf_bm rfl (by decide) PySem.F.plainAttrs_str PySem.F.slot_str_join PySem.F.type_str_join (md_join rfl) pf_str (pfa_cons (pf_var (pv 1)) pfa_nil))))))
theorem d33 (T : Tx w.params K mg fa lc lp ca fd) (TBs : ∀ p ∈ tabC lc lp, LamX.TabB base mg p.1 p.2) (A : All P w K mg base fa lp ca fd k) (cdv : Value) (hcd : (fd 33).code = cdv) (A0 : Around) (outer : List PySem.Env) (s : Shared) (H : Hp) (E : XK) (hgd : (A0.deeper (envOfC "_law_is_from" (defScope s33) s.heap.objs.size (fa 33) cdv)).guards = some []) (hr1 : Room (2 * k + 3) (A0.deeper (envOfC "_law_is_from" (defScope s33) s.heap.objs.size (fa 33) cdv))) :
    PSs (cxOf CX0 P w K mg base N33 "_law_is_from" (defScope s33) (fa 33) cdv A0 outer s H E).nox (defBody s33) (tFS ⟨K, fa, w.params, tabT lp, ca⟩ (b33 (evC tab k))) := by
  have hr := hr1.mono (Nat.le_succ _)
  obtain ⟨h1, h64, h65, h66⟩ := units_of hr
  exact (pfs_one (pf_ret (pf_and (pf_callB (cr_isi rfl) (by rfl) T.z_isinstance bt_isinstance (pfa_cons (pf_var (pv 0)) (pfa_cons (pf_tyv (by rfl) T.z_int bt_int) pfa_nil))) (pf_and (pf_not (pf_callB (cr_isi rfl) (by rfl) T.z_isinstance bt_isinstance (pfa_cons (pf_var (pv 0)) (pfa_cons (pf_tyv (by rfl) T.z_bool bt_bool) pfa_nil)))) (pf_one (pf_chain op_leDD op_leDD (pf_var (pv 1)) (pf_var (pv 0)) (pf_var (pv 2))))))))
theorem d34 (T : Tx w.params K mg fa lc lp ca fd) (TBs : ∀ p ∈ tabC lc lp, LamX.TabB base mg p.1 p.2) (A : All P w K mg base fa lp ca fd k) (cdv : Value) (hcd : (fd 34).code = cdv) (A0 : Around) (outer : List PySem.Env) (s : Shared) (H : Hp) (E : XK) (hgd : (A0.deeper (envOfC "_law_is_word" (defScope s34) s.heap.objs.size (fa 34) cdv)).guards = some []) (hr1 : Room (2 * k + 3) (A0.deeper (envOfC "_law_is_word" (defScope s34) s.heap.objs.size (fa 34) cdv))) :
    PSs (cxOf CX0 P w K mg base N34 "_law_is_word" (defScope s34) (fa 34) cdv A0 outer s H E).nox (defBody s34) (tFS ⟨K, fa, w.params, tabT lp, ca⟩ (b34 (evC tab k))) := by
  have hr := hr1.mono (Nat.le_succ _)
  obtain ⟨h1, h64, h65, h66⟩ := units_of hr
  exact (pfs_cons (pf_ifS (PW.pt (pfw_or (pft_not (pft_tru rfl (pf_callB (cr_isi rfl) (by rfl) T.z_isinstance bt_isinstance (pfa_cons (pf_var (pv 0)) (pfa_cons (pf_tyv (by rfl) T.z_str bt_str) pfa_nil))))) (pfw_or1 (pft_not (pft_chain op_leDD op_leDD pf_int (pf_callB (cr_len rfl) (by rfl) T.z_len bt_len (pfa_cons (pf_var (pv 0)) pfa_nil)) pf_int))))) (pfs_one (pf_ret pf_bl)) pfs_nil)
    (pfs_one (pf_ret (pf_cmp (op_eqDD rfl h64) (pf_lc (own := [("_law_sign", 1)]) (ws := [1]) rfl S34.nd (by decide) (pfi_val rfl (pf_var (pv 0))) (blkOk_by (N := N34) (sc := defScope s34) (by decide +kernel)) (fun _ _ _ _ _ => (pfg_name (pg_name (i := 1) S34.nd rfl (by first | exact Or.inl rfl | exact Or.inr rfl)))) (fun _ _ _ _ _ => pfts_one (pft_cmp (op_notInDD rfl rfl h65) (pf_var (pv 1)) pf_str (by with_unfolding_all rfl))) (fun _ _ _ _ _ => (pf_var (pv 1)))) (pf_lst pfa_nil) (nomark _)))))
theorem d35 (T : Tx w.params K mg fa lc lp ca fd) (TBs : ∀ p ∈ tabC lc lp, LamX.TabB base mg p.1 p.2) (A : All P w K mg base fa lp ca fd k) (cdv : Value) (hcd : (fd 35).code = cdv) (A0 : Around) (outer : List PySem.Env) (s : Shared) (H : Hp) (E : XK) (hgd : (A0.deeper (envOfC "_law_is_worth" (defScope s35) s.heap.objs.size (fa 35) cdv)).guards = some []) (hr1 : Room (2 * k + 3) (A0.deeper (envOfC "_law_is_worth" (defScope s35) s.heap.objs.size (fa 35) cdv))) :
    PSs (cxOf CX0 P w K mg base N35 "_law_is_worth" (defScope s35) (fa 35) cdv A0 outer s H E).nox (defBody s35) (tFS ⟨K, fa, w.params, tabT lp, ca⟩ (b35 (evC tab k))) := by
  have hr := hr1.mono (Nat.le_succ _)
  obtain ⟨h1, h64, h65, h66⟩ := units_of hr
  exact (pfs_cons (pf_ifS (pft_tru rfl (pf_callB (cr_isi rfl) (by rfl) T.z_isinstance bt_isinstance (pfa_cons (pf_var (pv 0)) (pfa_cons (pf_tyv (by rfl) T.z_tuple bt_tuple) pfa_nil)))) (pfs_one (pf_ret (pf_and (pf_cmp op_gtDD (pf_var (pv 1)) pf_int (nomark _)) (pf_and (pf_cmp op_leDD (pf_callB (cr_len rfl) (by rfl) T.z_len bt_len (pfa_cons (pf_var (pv 0)) pfa_nil)) pf_int (nomark _)) (pf_one (pf_cmp (op_eqDD rfl h64) (pf_lc (own := [("_law_one", 2)]) (ws := [2]) rfl S35.nd (by decide) (pfi_val rfl (pf_var (pv 0))) (blkOk_by (N := N35) (sc := defScope s35) (by decide +kernel)) (fun _ _ _ _ _ => (pfg_name (pg_name (i := 2) S35.nd rfl (by first | exact Or.inl rfl | exact Or.inr rfl)))) (fun _ _ _ _ _ => pfts_one (pft_not (pft_tru rfl (pf_call A.f35 (fun _ _ _ _ e => evC_len e) hgd hr (by rfl) T.g35 T.F35.kp T.b35 pass0 (pfa_cons (pf_var (pv 2)) (pfa_cons (pf_bin op_subD (pf_var (pv 1)) pf_int) pfa_nil)))))) (fun _ _ _ _ _ => (pf_var (pv 2)))) (pf_lst pfa_nil) (nomark _))))))) pfs_nil)
    (pfs_one (pf_ret (pf_or (pf_cmp op_isDD (pf_var (pv 0)) pf_non (nomark _)) (pf_or (pf_call A.f34 (fun _ _ _ _ e => evC_len e) hgd hr (by rfl) T.g34 T.F34.kp T.b34 pass0 (pfa_cons (pf_var (pv 0)) pfa_nil)) (pf_one (pf_call A.f33 (fun _ _ _ _ e => evC_len e) hgd hr (by rfl) T.g33 T.F33.kp T.b33 pass0 (pfa_cons (pf_var (pv 0)) (pfa_cons (pf_un un_negD pf_int) (pfa_cons pf_int pfa_nil))))))))))
theorem d36 (T : Tx w.params K mg fa lc lp ca fd) (TBs : ∀ p ∈ tabC lc lp, LamX.TabB base mg p.1 p.2) (A : All P w K mg base fa lp ca fd k) (cdv : Value) (hcd : (fd 36).code = cdv) (A0 : Around) (outer : List PySem.Env) (s : Shared) (H : Hp) (E : XK) (hgd : (A0.deeper (envOfC "_law_is_part" (defScope s36) s.heap.objs.size (fa 36) cdv)).guards = some []) (hr1 : Room (2 * k + 3) (A0.deeper (envOfC "_law_is_part" (defScope s36) s.heap.objs.size (fa 36) cdv))) :
    PSs (cxOf CX0 P w K mg base N36 "_law_is_part" (defScope s36) (fa 36) cdv A0 outer s H E).nox (defBody s36) (tFS ⟨K, fa, w.params, tabT lp, ca⟩ (b36 (evC tab k))) := by
  have hr := hr1.mono (Nat.le_succ _)
  obtain ⟨h1, h64, h65, h66⟩ := units_of hr
  exact (pfs_cons (pf_ifS (pft_cmp (op_eqDD rfl h64) (pf_var (pv 0)) pf_str (nomark _)) (pfs_one (pf_ret (pf_call A.f34 (fun _ _ _ _ e => evC_len e) hgd hr (by rfl) T.g34 T.F34.kp T.b34 pass0 (pfa_cons (pf_var (pv 1)) pfa_nil)))) pfs_nil)
    (pfs_cons (pf_ifS (pft_cmp (op_eqDD rfl h64) (pf_var (pv 0)) pf_str (nomark _)) (pfs_one (pf_ret (pf_and (pf_callB (cr_isi rfl) (by rfl) T.z_isinstance bt_isinstance (pfa_cons (pf_var (pv 1)) (pfa_cons (pf_tyv (by rfl) T.z_tuple bt_tuple) pfa_nil))) (pf_and (pf_cmp op_leDD (pf_callB (cr_len rfl) (by rfl) T.z_len bt_len (pfa_cons (pf_var (pv 1)) pfa_nil)) pf_int (nomark _)) (pf_one (pf_cmp (op_eqDD rfl h64) (pf_lc (own := [("_law_one", 2)]) (ws := [2]) rfl S36.nd (by decide) (pfi_val rfl (pf_var (pv 1))) (blkOk_by (N := N36) (sc := defScope s36) (by decide +kernel)) (fun _ _ _ _ _ => (pfg_name (pg_name (i := 2) S36.nd rfl (by first | exact Or.inl rfl | exact Or.inr rfl)))) (fun _ _ _ _ _ => pfts_one (pft_not (pft_tru rfl (pf_call A.f34 (fun _ _ _ _ e => evC_len e) hgd hr (by rfl) T.g34 T.F34.kp T.b34 pass0 (pfa_cons (pf_var (pv 2)) pfa_nil))))) (fun _ _ _ _ _ => (pf_var (pv 2)))) (pf_lst pfa_nil) (nomark _))))))) pfs_nil)
    (pfs_cons (pf_ifS (pft_cmp (op_eqDD rfl h64) (pf_var (pv 0)) pf_str (nomark _)) (pfs_one (pf_ret (pf_call A.f35 (fun _ _ _ _ e => evC_len e) hgd hr (by rfl) T.g35 T.F35.kp T.b35 pass0 (pfa_cons (pf_var (pv 1)) (pfa_cons pf_int pfa_nil))))) pfs_nil)
    (pfs_cons (pf_ifS (pft_cmp (op_eqDD rfl h64) (pf_var (pv 0)) pf_str (nomark _)) (pfs_one (pf_ret (pf_call A.f33 (fun _ _ _ _ e => evC_len e) hgd hr (by rfl) T.g33 T.F33.kp T.b33 pass0 (pfa_cons (pf_var (pv 1)) (pfa_cons pf_int (pfa_cons pf_int pfa_nil)))))) pfs_nil)
    (pfs_one (pf_ret (pf_or (pf_and (pf_cmp (op_eqDD rfl h64) (pf_var (pv 0)) pf_str (nomark _)) (pf_one (pf_cmp op_isDD (pf_var (pv 1)) pf_non (nomark _)))) (pf_one (pf_call A.f33 (fun _ _ _ _ e => evC_len e) hgd hr (by rfl) T.g33 T.F33.kp T.b33 pass0 (pfa_cons (pf_var (pv 1)) (pfa_cons (pf_callTy (cr_int) (by rfl) T.z_int bt_int (pfa_cons (pf_cmp (op_eqDD rfl h64) (pf_var (pv 0)) pf_str (nomark _)) pfa_nil)) (pfa_cons pf_int pfa_nil))))))))))))
theorem d37 (T : Tx w.params K mg fa lc lp ca fd) (TBs : ∀ p ∈ tabC lc lp, LamX.TabB base mg p.1 p.2) (A : All P w K mg base fa lp ca fd k) (cdv : Value) (hcd : (fd 37).code = cdv) (A0 : Around) (outer : List PySem.Env) (s : Shared) (H : Hp) (E : XK) (hgd : (A0.deeper (envOfC "_law_many" (defScope s37) s.heap.objs.size (fa 37) cdv)).guards = some []) (hr1 : Room (2 * k + 3) (A0.deeper (envOfC "_law_many" (defScope s37) s.heap.objs.size (fa 37) cdv))) :
    PSs (cxOf CX0 P w K mg base N37 "_law_many" (defScope s37) (fa 37) cdv A0 outer s H E).nox (defBody s37) (tFS ⟨K, fa, w.params, tabT lp, ca⟩ (b37 (evC tab k))) := by
  have hr := hr1.mono (Nat.le_succ _)
  obtain ⟨h1, h64, h65, h66⟩ := units_of hr
  exact (pfs_cons (pf_ifS (PW.pt (pfw_or (pft_cmp (op_eqDD rfl h64) (pf_var (pv 1)) pf_int (nomark _)) (pfw_or1 (pft_not (pft_tru rfl (pf_callB (cr_isi rfl) (by rfl) T.z_isinstance bt_isinstance (pfa_cons (pf_var (pv 0)) (pfa_cons (pf_tyv (by rfl) T.z_tuple bt_tuple) pfa_nil)))))))) (pfs_one (pf_ret pf_int)) pfs_nil)
    (pfs_cons (pf_par (ps_par (i := 2) (j := 3) rfl S37.nd rfl rfl (by decide) rfl rfl (pfa_cons pf_int (pfa_cons (pf_call0 A.f28 (fun _ _ _ _ e => evC_len e) hgd hr (by rfl) T.g28 T.F28.kp T.b28 pass0) pfa_nil)) (by rfl)))
    (pfs_cons (pf_for PassesOwn.never rfl (pfi_val rfl (pf_var (pv 0))) (pfg_name (pg_name (i := 4) S37.nd rfl (by first | exact Or.inl rfl | exact Or.inr rfl))) (pfs_cons (pf_ifS (PW.pt (pfw_or (pft_not (pft_tru rfl (pf_callB (cr_isi rfl) (by rfl) T.z_isinstance bt_isinstance (pfa_cons (pf_var (pv 4)) (pfa_cons (pf_tyv (by rfl) T.z_tuple bt_tuple) pfa_nil))))) (pfw_or (pft_cmp (op_eqDD rfl h64) (pf_var (pv 4)) (pf_tup pfa_nil) (nomark _)) (pfw_or (pft_not (pft_tru rfl (pf_callB (cr_isi rfl) (by rfl) T.z_isinstance bt_isinstance (pfa_cons (pf_ix rfl rfl h1 (pf_var (pv 4)) pf_int) (pfa_cons (pf_tyv (by rfl) T.z_str bt_str) pfa_nil))))) (pfw_or1 (pft_cmp (op_notInDD rfl rfl h65) (pf_ix rfl rfl h1 (pf_var (pv 4)) pf_int) (pf_var (pv 3)) (by with_unfolding_all rfl))))))) (pfs_one (pf_ret pf_int)) pfs_nil)
    (pfs_cons (pf_ifS (pft_cmp (op_neDD rfl h64) (pf_callB (cr_len rfl) (by rfl) T.z_len bt_len (pfa_cons (pf_var (pv 4)) pfa_nil)) (pf_bin (op_addD rfl) pf_int (pf_callB (cr_len rfl) (by rfl) T.z_len bt_len (pfa_cons (pf_ix rfl rfl h1 (pf_var (pv 3)) (pf_ix rfl rfl h1 (pf_var (pv 4)) pf_int)) pfa_nil))) (nomark _)) (pfs_one (pf_ret pf_int)) pfs_nil)
    (pfs_cons (pf_set (ps_set (i := 2) S37.nd rfl (Or.inl rfl) (pf_bin (op_addD rfl) (pf_var (pv 2)) pf_int)))
    (pfs_one (pf_for PassesOwn.never rfl (pfi_zip rfl (by rfl) T.z_zip (pfa_cons (pf_ix rfl rfl h1 (pf_var (pv 3)) (pf_ix rfl rfl h1 (pf_var (pv 4)) pf_int)) (pfa_cons (pf_sl rfl (pf_var (pv 4)) (pfo_some pf_int) pfo_none) pfa_nil))) (pfg_tup rfl rfl (pfgs_cons (pfg_name (pg_name (i := 5) S37.nd rfl (by first | exact Or.inl rfl | exact Or.inr rfl))) (pfgs_cons (pfg_name (pg_name (i := 6) S37.nd rfl (by first | exact Or.inl rfl | exact Or.inr rfl))) pfgs_nil))) (pfs_one (pf_ifS (PW.pt (pfw_and (pft_cmp (op_inDD rfl rfl h65) (pf_var (pv 5)) pf_str (by with_unfolding_all rfl)) (pfw_and1 (PW.pt (pfw_or (pft_cmp (op_eqDD rfl h64) (pf_var (pv 5)) pf_str (nomark _)) (pfw_or1 (pft_cmp op_isNotDD (pf_var (pv 6)) pf_non (nomark _)))))))) (pfs_one (pf_set (ps_set (i := 2) S37.nd rfl (Or.inl rfl) (pf_bin (op_addD rfl) (pf_var (pv 2)) (pf_call A.f37 (fun _ _ _ _ e => evC_len e) hgd hr (by rfl) T.g37 T.F37.kp T.b37 pass0 (pfa_cons (pf_var (pv 6)) (pfa_cons (pf_bin op_subD (pf_var (pv 1)) pf_int) pfa_nil))))))) (pfs_one (pf_ifS (PW.pt (pfw_and (pft_cmp (op_notInDD rfl rfl h65) (pf_var (pv 5)) pf_str (by with_unfolding_all rfl)) (pfw_and1 (pft_not (pft_tru rfl (pf_call A.f36 (fun _ _ _ _ e => evC_len e) hgd hr (by rfl) T.g36 T.F36.kp T.b36 pass0 (pfa_cons (pf_var (pv 5)) (pfa_cons (pf_var (pv 6)) pfa_nil)))))))) (pfs_one (pf_ret pf_int)) pfs_nil))))))))))
    (pfs_one (pf_ret (pf_var (pv 2)))))))
theorem d38 (T : Tx w.params K mg fa lc lp ca fd) (TBs : ∀ p ∈ tabC lc lp, LamX.TabB base mg p.1 p.2) (A : All P w K mg base fa lp ca fd k) (cdv : Value) (hcd : (fd 38).code = cdv) (A0 : Around) (outer : List PySem.Env) (s : Shared) (H : Hp) (E : XK) (hgd : (A0.deeper (envOfC "_law_is_script" (defScope s38) s.heap.objs.size (fa 38) cdv)).guards = some []) (hr1 : Room (2 * k + 3) (A0.deeper (envOfC "_law_is_script" (defScope s38) s.heap.objs.size (fa 38) cdv))) :
    PSs (cxOf CX0 P w K mg base N38 "_law_is_script" (defScope s38) (fa 38) cdv A0 outer s H E).nox (defBody s38) (tFS ⟨K, fa, w.params, tabT lp, ca⟩ (b38 (evC tab k))) := by
  have hr := hr1.mono (Nat.le_succ _)
  obtain ⟨h1, h64, h65, h66⟩ := units_of hr
  exact (pfs_one (pf_ret (pf_cmp op_leDD (pf_call A.f37 (fun _ _ _ _ e => evC_len e) hgd hr (by rfl) T.g37 T.F37.kp T.b37 pass0 (pfa_cons (pf_var (pv 0)) (pfa_cons pf_int pfa_nil))) pf_int (nomark _))))
theorem d39 (T : Tx w.params K mg fa lc lp ca fd) (TBs : ∀ p ∈ tabC lc lp, LamX.TabB base mg p.1 p.2) (A : All P w K mg base fa lp ca fd k) (cdv : Value) (hcd : (fd 39).code = cdv) (A0 : Around) (outer : List PySem.Env) (s : Shared) (H : Hp) (E : XK) (hgd : (A0.deeper (envOfC "_law_odd" (defScope s39) s.heap.objs.size (fa 39) cdv)).guards = some []) (hr1 : Room (2 * k + 3) (A0.deeper (envOfC "_law_odd" (defScope s39) s.heap.objs.size (fa 39) cdv))) :
    PSs (cxOf CX0 P w K mg base N39 "_law_odd" (defScope s39) (fa 39) cdv A0 outer s H E).nox (defBody s39) (tFS ⟨K, fa, w.params, tabT lp, ca⟩ (b39 (evC tab k))) := by
  have hr := hr1.mono (Nat.le_succ _)
  obtain ⟨h1, h64, h65, h66⟩ := units_of hr
  exact (pfs_cons (pf_set (ps_set (i := 1) S39.nd rfl (Or.inl rfl) (pf_lst (pfa_cons pf_non (pfa_cons pf_bl (pfa_cons pf_bl (pfa_cons (pf_un un_negD pf_int) (pfa_cons pf_int (pfa_cons pf_int (pfa_cons pf_int (pfa_cons (pf_un un_negD pf_int) (pfa_cons (pf_bin op_powD pf_int pf_int) (pfa_cons pf_str (pfa_cons pf_str (pfa_cons pf_str (pfa_cons pf_str (pfa_cons pf_str pfa_nil)))))))))))))))))
    (pfs_cons (pf_set (ps_set (i := 1) S39.nd rfl (Or.inl rfl) (pf_bin (op_addD rfl) (pf_var (pv 1)) (pf_lst (pfa_cons pf_str (pfa_cons (pf_tup pfa_nil) (pfa_cons (pf_tup (pfa_cons pf_str pfa_nil)) (pfa_cons (pf_tup (pfa_cons pf_str (pfa_cons pf_str pfa_nil))) (pfa_cons (pf_lst pfa_nil) (pfa_cons (pf_lst (pfa_cons pf_str (pfa_cons pf_str pfa_nil))) (pfa_cons pf_dict0 (pfa_cons (pf_tup (pfa_cons (pf_tup (pfa_cons pf_str pfa_nil)) pfa_nil)) (pfa_cons (pf_lst (pfa_cons (pf_tup (pfa_cons pf_str pfa_nil)) pfa_nil)) (pfa_cons pf_str pfa_nil))))))))))))))
    (pfs_one (pf_ret (pf_ix rfl rfl h1 (pf_bin (op_addD rfl) (pf_var (pv 1)) (pf_lst (pfa_cons pf_int (pfa_cons pf_int (pfa_cons pf_int (pfa_cons pf_str pfa_nil)))))) (pf_call A.f24 (fun _ _ _ _ e => evC_len e) hgd hr (by rfl) T.g24 T.F24.kp T.b24 pass0 (pfa_cons (pf_var (pv 0)) (pfa_cons pf_int pfa_nil))))))))
theorem d40 (T : Tx w.params K mg fa lc lp ca fd) (TBs : ∀ p ∈ tabC lc lp, LamX.TabB base mg p.1 p.2) (A : All P w K mg base fa lp ca fd k) (cdv : Value) (hcd : (fd 40).code = cdv) (A0 : Around) (outer : List PySem.Env) (s : Shared) (H : Hp) (E : XK) (hgd : (A0.deeper (envOfC "_law_bent" (defScope s40) s.heap.objs.size (fa 40) cdv)).guards = some []) (hr1 : Room (2 * k + 3) (A0.deeper (envOfC "_law_bent" (defScope s40) s.heap.objs.size (fa 40) cdv))) :
    PSs (cxOf CX0 P w K mg base N40 "_law_bent" (defScope s40) (fa 40) cdv A0 outer s H E).nox (defBody s40) (tFS ⟨K, fa, w.params, tabT lp, ca⟩ (b40 (evC tab k))) := by
  have hr := hr1.mono (Nat.le_succ _)
  obtain ⟨h1, h64, h65, h66⟩ := units_of hr
  exact (pfs_cons (pf_ifS (PW.pt (pfw_or (pft_not (pft_tru rfl (pf_callB (cr_isi rfl) (by rfl) T.z_isinstance bt_isinstance (pfa_cons (pf_var (pv 1)) (pfa_cons (pf_tyv (by rfl) T.z_tuple bt_tuple) pfa_nil))))) (pfw_or (pft_cmp (op_eqDD rfl h64) (pf_var (pv 1)) (pf_tup pfa_nil) (nomark _)) (pfw_or1 (pft_cmp (op_eqDD rfl h64) (pf_call A.f24 (fun _ _ _ _ e => evC_len e) hgd hr (by rfl) T.g24 T.F24.kp T.b24 pass0 (pfa_cons (pf_var (pv 0)) (pfa_cons pf_int pfa_nil))) pf_int (nomark _)))))) (pfs_one (pf_ret (pf_call A.f39 (fun _ _ _ _ e => evC_len e) hgd hr (by rfl) T.g39 T.F39.kp T.b39 pass0 (pfa_cons (pf_var (pv 0)) pfa_nil)))) pfs_nil)
    (pfs_cons (pf_par (ps_par (i := 2) (j := 3) rfl S40.nd rfl rfl (by decide) rfl rfl (pfa_cons (pf_call A.f24 (fun _ _ _ _ e => evC_len e) hgd hr (by rfl) T.g24 T.F24.kp T.b24 pass0 (pfa_cons (pf_var (pv 0)) (pfa_cons (pf_callB (cr_len rfl) (by rfl) T.z_len bt_len (pfa_cons (pf_var (pv 1)) pfa_nil)) pfa_nil))) (pfa_cons (pf_call A.f24 (fun _ _ _ _ e => evC_len e) hgd hr (by rfl) T.g24 T.F24.kp T.b24 pass0 (pfa_cons (pf_var (pv 0)) (pfa_cons (pf_callB (cr_len rfl) (by rfl) T.z_len bt_len (pfa_cons (pf_var (pv 1)) pfa_nil)) pfa_nil))) pfa_nil)) (by rfl)))
    (pfs_cons (pf_set (ps_set (i := 4) S40.nd rfl (Or.inl rfl) (pf_call A.f24 (fun _ _ _ _ e => evC_len e) hgd hr (by rfl) T.g24 T.F24.kp T.b24 pass0 (pfa_cons (pf_var (pv 0)) (pfa_cons pf_int pfa_nil)))))
    (pfs_cons (pf_ifS (pft_cmp op_ltDD (pf_var (pv 4)) pf_int (nomark _)) (pfs_one (pf_ret (pf_bin (op_addD rfl) (pf_bin (op_addD rfl) (pf_sl rfl (pf_var (pv 1)) pfo_none (pfo_some (pf_var (pv 2)))) (pf_tup (pfa_cons (pf_call A.f40 (fun _ _ _ _ e => evC_len e) hgd hr (by rfl) T.g40 T.F40.kp T.b40 pass0 (pfa_cons (pf_var (pv 0)) (pfa_cons (pf_ix rfl rfl h1 (pf_var (pv 1)) (pf_var (pv 2))) pfa_nil))) pfa_nil))) (pf_sl rfl (pf_var (pv 1)) (pfo_some (pf_bin (op_addD rfl) (pf_var (pv 2)) pf_int)) pfo_none)))) pfs_nil)
    (pfs_cons (pf_ifS (pft_cmp (op_eqDD rfl h64) (pf_var (pv 4)) pf_int (nomark _)) (pfs_one (pf_ret (pf_bin (op_addD rfl) (pf_sl rfl (pf_var (pv 1)) pfo_none (pfo_some (pf_var (pv 2)))) (pf_sl rfl (pf_var (pv 1)) (pfo_some (pf_bin (op_addD rfl) (pf_var (pv 2)) pf_int)) pfo_none)))) pfs_nil)
    (pfs_cons (pf_ifS (pft_cmp (op_eqDD rfl h64) (pf_var (pv 4)) pf_int (nomark _)) (pfs_one (pf_ret (pf_bin (op_addD rfl) (pf_bin (op_addD rfl) (pf_sl rfl (pf_var (pv 1)) pfo_none (pfo_some (pf_var (pv 2)))) (pf_tup (pfa_cons (pf_ix rfl rfl h1 (pf_var (pv 1)) (pf_var (pv 3))) pfa_nil))) (pf_sl rfl (pf_var (pv 1)) (pfo_some (pf_var (pv 2))) pfo_none)))) pfs_nil)
    (pfs_one (pf_ret (pf_ix rfl rfl h1 (pf_lst (pfa_cons (pf_bin (op_addD rfl) (pf_bin (op_addD rfl) (pf_sl rfl (pf_var (pv 1)) pfo_none (pfo_some (pf_var (pv 2)))) (pf_tup (pfa_cons (pf_ix rfl rfl h1 (pf_var (pv 1)) (pf_var (pv 3))) pfa_nil))) (pf_sl rfl (pf_var (pv 1)) (pfo_some (pf_bin (op_addD rfl) (pf_var (pv 2)) pf_int)) pfo_none)) (pfa_cons (pf_ix rfl rfl h1 (pf_lst (pfa_cons (pf_rev rfl (pf_var (pv 1))) (pfa_cons (pf_callTy (cr_list rfl) (by rfl) T.z_list bt_list (pfa_cons (pf_var (pv 1)) pfa_nil)) pfa_nil))) (pf_call A.f24 (fun _ _ _ _ e => evC_len e) hgd hr (by rfl) T.g24 T.F24.kp T.b24 pass0 (pfa_cons (pf_var (pv 0)) (pfa_cons pf_int pfa_nil)))) pfa_nil))) (pf_bin op_subD (pf_var (pv 4)) pf_int))))))))))
theorem d41 (T : Tx w.params K mg fa lc lp ca fd) (TBs : ∀ p ∈ tabC lc lp, LamX.TabB base mg p.1 p.2) (A : All P w K mg base fa lp ca fd k) (cdv : Value) (hcd : (fd 41).code = cdv) (A0 : Around) (outer : List PySem.Env) (s : Shared) (H : Hp) (E : XK) (hgd : (A0.deeper (envOfC "law" (defScope s41) s.heap.objs.size (fa 41) cdv)).guards = some []) (hr1 : Room (2 * k + 3) (A0.deeper (envOfC "law" (defScope s41) s.heap.objs.size (fa 41) cdv))) :
    PSs (cxOf CX0 P w K mg base N41 "law" (defScope s41) (fa 41) cdv A0 outer s H E).nox (defBody s41) (tFS ⟨K, fa, w.params, tabT lp, ca⟩ (b41 (evC tab k))) := by
  have hr := hr1.mono (Nat.le_succ _)
  obtain ⟨h1, h64, h65, h66⟩ := units_of hr
  exact (pfs_cons (pf_set (ps_set (i := 1) S41.nd rfl (Or.inl rfl) (pf_call A.f23 (fun _ _ _ _ e => evC_len e) hgd hr (by rfl) T.g23 T.F23.kp T.b23 pass0 (pfa_cons (pf_var (pv 0)) pfa_nil))))
    (pfs_cons (pf_for PassesOwn.never rfl (pfi_range1 (by rfl) T.z_range pf_int) (pfg_name (pg_name (i := 2) S41.nd rfl (by first | exact Or.inl rfl | exact Or.inr rfl))) (pfs_cons (pf_set (ps_set (i := 3) S41.nd rfl (Or.inl rfl) (pf_call A.f30 (fun _ _ _ _ e => evC_len e) hgd hr (by rfl) T.g30 T.F30.kp T.b30 pass0 (pfa_cons (pf_var (pv 1)) (pfa_cons (pf_disp (fs := (((fC (.str "left")), (fBin ixD (fLst (fCons (fC (.int 3)) (fCons (fC (.int 20)) (fCons (fC (.int 60)) fNil)))) (fCall (evC tab k 24) (fCons (fVar 1) (fCons (fC (.int 3)) fNil))))) :: [])) (pfp_cons pf_str (pf_ix rfl rfl h1 (pf_lst (pfa_cons pf_int (pfa_cons pf_int (pfa_cons pf_int pfa_nil)))) (pf_call A.f24 (fun _ _ _ _ e => evC_len e) hgd hr (by rfl) T.g24 T.F24.kp T.b24 pass0 (pfa_cons (pf_var (pv 1)) (pfa_cons pf_int pfa_nil)))) pfp_nil) rfl rfl (by simp) (by decide)) (pfa_cons (pf_bin (op_addD rfl) pf_int (pf_call A.f24 (fun _ _ _ _ e => evC_len e) hgd hr (by rfl) T.g24 T.F24.kp T.b24 pass0 (pfa_cons (pf_var (pv 1)) (pfa_cons pf_int pfa_nil)))) pfa_nil))))))
    (pfs_cons (pf_set (ps_set (i := 4) S41.nd rfl (Or.inl rfl) (pf_call A.f40 (fun _ _ _ _ e => evC_len e) hgd hr (by rfl) T.g40 T.F40.kp T.b40 pass0 (pfa_cons (pf_var (pv 1)) (pfa_cons (pf_var (pv 3)) pfa_nil)))))
    (pfs_cons (pf_set (ps_set (i := 5) S41.nd rfl (Or.inl rfl) (pf_bin (op_addD rfl) (pf_lst (pfa_cons (pf_var (pv 3)) pfa_nil)) (pf_bin (op_mulD rfl) (pf_lst (pfa_cons (pf_var (pv 4)) pfa_nil)) (pf_callTy (cr_int) (by rfl) T.z_int bt_int (pfa_cons (pf_call A.f38 (fun _ _ _ _ e => evC_len e) hgd hr (by rfl) T.g38 T.F38.kp T.b38 pass0 (pfa_cons (pf_var (pv 4)) pfa_nil)) pfa_nil))))))
    (pfs_cons (pf_for PassesOwn.never rfl (pfi_val rfl (pf_var (pv 5))) (pfg_name (pg_name (i := 6) S41.nd rfl (by first | exact Or.inl rfl | exact Or.inr rfl))) (pfs_cons (pf_set (ps_set (i := 7) S41.nd rfl (Or.inl rfl) (pf_call A.f32 (fun _ _ _ _ e => evC_len e) hgd hr (by rfl) T.g32 T.F32.kp T.b32 pass0 (pfa_cons (pf_var (pv 6)) pfa_nil))))
    (pfs_cons (pf_ifS (PW.pt (pfw_or (pft_cmp (op_neDD rfl h64) (pf_callB (cr_repr rfl hgd h66) (by rfl) T.z_repr bt_repr (pfa_cons (pf_call A.f16 (fun _ _ _ _ e => evC_len e) hgd hr (by rfl) T.g16 T.F16.kp T.b16 pass0 (pfa_cons (pf_var (pv 6)) pfa_nil)) pfa_nil)) (pf_callB (cr_repr rfl hgd h66) (by rfl) T.z_repr bt_repr (pfa_cons (pf_var (pv 7)) pfa_nil)) (nomark _)) (pfw_or1 (pft_cmp (op_neDD rfl h64) (pf_callK0 A.f16 (fun _ _ _ _ e => evC_len e) q16_0_rel hgd hr (by rfl) T.g16 T.F16.kp (T.q16_0) pass0 (pfk_cons (pf_var (pv 6)) pfk_nil)) (pf_var (pv 7)) (nomark _))))) (pfs_one (pf_ret pf_bl)) pfs_nil)
    (pfs_one (pf_ifS (PW.pt (pfw_or (pft_cmp (op_neDD rfl h64) (pf_callB (cr_repr rfl hgd h66) (by rfl) T.z_repr bt_repr (pfa_cons (pf_call A.f22 (fun _ _ _ _ e => evC_len e) hgd hr (by rfl) T.g22 T.F22.kp T.b22 pass0 (pfa_cons (pf_var (pv 7)) pfa_nil)) pfa_nil)) (pf_callB (cr_repr rfl hgd h66) (by rfl) T.z_repr bt_repr (pfa_cons (pf_var (pv 6)) pfa_nil)) (nomark _)) (pfw_or1 (pft_cmp (op_neDD rfl h64) (pf_callK0 A.f22 (fun _ _ _ _ e => evC_len e) q22_0_rel hgd hr (by rfl) T.g22 T.F22.kp (T.q22_0) pass0 (pfk_cons (pf_var (pv 7)) pfk_nil)) (pf_var (pv 6)) (nomark _))))) (pfs_one (pf_ret pf_bl)) pfs_nil)))))
    (pfs_one (pf_ifS (pft_cmp (op_neDD rfl h64) (pf_cmp (op_eqDD rfl h64) (pf_call A.f16 (fun _ _ _ _ e => evC_len e) hgd hr (by rfl) T.g16 T.F16.kp T.b16 pass0 (pfa_cons (pf_ix rfl rfl h1 (pf_var (pv 5)) pf_int) pfa_nil)) (pf_call A.f16 (fun _ _ _ _ e => evC_len e) hgd hr (by rfl) T.g16 T.F16.kp T.b16 pass0 (pfa_cons (pf_ix rfl rfl h1 (pf_var (pv 5)) (pf_un un_negD pf_int)) pfa_nil)) (nomark _)) (pf_cmp (op_eqDD rfl h64) (pf_ix rfl rfl h1 (pf_var (pv 5)) pf_int) (pf_ix rfl rfl h1 (pf_var (pv 5)) (pf_un un_negD pf_int)) (nomark _)) (nomark _)) (pfs_one (pf_ret pf_bl)) pfs_nil)))))))
    (pfs_one (pf_ret (pf_and (pf_cmp (op_eqDD rfl h64) (pf_call A.f16 (fun _ _ _ _ e => evC_len e) hgd hr (by rfl) T.g16 T.F16.kp T.b16 pass0 (pfa_cons (pf_tup pfa_nil) pfa_nil)) pf_str (nomark _)) (pf_one (pf_cmp (op_eqDD rfl h64) (pf_call A.f22 (fun _ _ _ _ e => evC_len e) hgd hr (by rfl) T.g22 T.F22.kp T.b22 pass0 (pfa_cons pf_str pfa_nil)) (pf_tup pfa_nil) (nomark _))))))))
theorem all_zero : All P w K mg base fa lp ca fd 0 := ⟨fng_zero rfl, fng_zero rfl, fng_zero rfl, fng_zero rfl, fng_zero rfl, fng_zero rfl, fng_zero rfl, fng_zero rfl, fng_zero rfl, fng_zero rfl, fng_zero rfl, fng_zero rfl, fng_zero rfl, fng_zero rfl, fng_zero rfl, fng_zero rfl, fng_zero rfl, fng_zero rfl, fng_zero rfl, fng_zero rfl, fng_zero rfl, fng_zero rfl, fng_zero rfl, fng_zero rfl, fng_zero rfl, fng_zero rfl, fng_zero rfl, fng_zero rfl, fng_zero rfl, fng_zero rfl, fng_zero rfl, fng_zero rfl, fng_zero rfl, fng_zero rfl, fng_zero rfl, fng_zero rfl, fng_zero rfl, fng_zero rfl, fng_zero rfl, fng_zero rfl, fng_zero rfl, fng_zero rfl⟩
theorem all_succ (T : Tx w.params K mg fa lc lp ca fd) (TBs : ∀ p ∈ tabC lc lp, LamX.TabB base mg p.1 p.2) (A : All P w K mg base fa lp ca fd k) : All P w K mg base fa lp ca fd (k + 1) :=
  ⟨fng_step T.F0 S0 rfl rfl rfl fun cdv hcd A0 outer s H E hg hr => d0 T TBs A cdv hcd A0 outer s H E hg hr,
   fng_step T.F1 S1 rfl rfl rfl fun cdv hcd A0 outer s H E hg hr => d1 T TBs A cdv hcd A0 outer s H E hg hr,
   fng_step T.F2 S2 rfl rfl rfl fun cdv hcd A0 outer s H E hg hr => d2 T TBs A cdv hcd A0 outer s H E hg hr,
   fng_step T.F3 S3 rfl rfl rfl fun cdv hcd A0 outer s H E hg hr => d3 T TBs A cdv hcd A0 outer s H E hg hr,
   fng_step T.F4 S4 rfl rfl rfl fun cdv hcd A0 outer s H E hg hr => d4 T TBs A cdv hcd A0 outer s H E hg hr,
   fng_step T.F5 S5 rfl rfl rfl fun cdv hcd A0 outer s H E hg hr => d5 T TBs A cdv hcd A0 outer s H E hg hr,
   fng_step T.F6 S6 rfl rfl rfl fun cdv hcd A0 outer s H E hg hr => d6 T TBs A cdv hcd A0 outer s H E hg hr,
   fng_step T.F7 S7 rfl rfl rfl fun cdv hcd A0 outer s H E hg hr => d7 T TBs A cdv hcd A0 outer s H E hg hr,
   fng_step T.F8 S8 rfl rfl rfl fun cdv hcd A0 outer s H E hg hr => d8 T TBs A cdv hcd A0 outer s H E hg hr,
   fng_step T.F9 S9 rfl rfl rfl fun cdv hcd A0 outer s H E hg hr => d9 T TBs A cdv hcd A0 outer s H E hg hr,
   fng_step T.F10 S10 rfl rfl rfl fun cdv hcd A0 outer s H E hg hr => d10 T TBs A cdv hcd A0 outer s H E hg hr,
   fng_step T.F11 S11 rfl rfl rfl fun cdv hcd A0 outer s H E hg hr => d11 T TBs A cdv hcd A0 outer s H E hg hr,
   fng_step T.F12 S12 rfl rfl rfl fun cdv hcd A0 outer s H E hg hr => d12 T TBs A cdv hcd A0 outer s H E hg hr,
   fng_step T.F13 S13 rfl rfl rfl fun cdv hcd A0 outer s H E hg hr => d13 T TBs A cdv hcd A0 outer s H E hg hr,
   fng_step T.F14 S14 rfl rfl rfl fun cdv hcd A0 outer s H E hg hr => d14 T TBs A cdv hcd A0 outer s H E hg hr,
   fng_step T.F15 S15 rfl rfl rfl fun cdv hcd A0 outer s H E hg hr => d15 T TBs A cdv hcd A0 outer s H E hg hr,
   fng_step T.F16 S16 rfl rfl rfl fun cdv hcd A0 outer s H E hg hr => d16 T TBs A cdv hcd A0 outer s H E hg hr,
   fng_step T.F17 S17 rfl rfl rfl fun cdv hcd A0 outer s H E hg hr => d17 T TBs A cdv hcd A0 outer s H E hg hr,
   fng_step T.F18 S18 rfl rfl rfl fun cdv hcd A0 outer s H E hg hr => d18 T TBs A cdv hcd A0 outer s H E hg hr,
   fng_step T.F19 S19 rfl rfl rfl fun cdv hcd A0 outer s H E hg hr => d19 T TBs A cdv hcd A0 outer s H E hg hr,
   fng_step T.F20 S20 rfl rfl rfl fun cdv hcd A0 outer s H E hg hr => d20 T TBs A cdv hcd A0 outer s H E hg hr,
   fng_step T.F21 S21 rfl rfl rfl fun cdv hcd A0 outer s H E hg hr => d21 T TBs A cdv hcd A0 outer s H E hg hr,
   fng_step T.F22 S22 rfl rfl rfl fun cdv hcd A0 outer s H E hg hr => d22 T TBs A cdv hcd A0 outer s H E hg hr,
   fng_step T.F23 S23 rfl rfl rfl fun cdv hcd A0 outer s H E hg hr => d23 T TBs A cdv hcd A0 outer s H E hg hr,
   fng_step T.F24 S24 rfl rfl rfl fun cdv hcd A0 outer s H E hg hr => d24 T TBs A cdv hcd A0 outer s H E hg hr,
   fng_step T.F25 S25 rfl rfl rfl fun cdv hcd A0 outer s H E hg hr => d25 T TBs A cdv hcd A0 outer s H E hg hr,
   fng_step T.F26 S26 rfl rfl rfl fun cdv hcd A0 outer s H E hg hr => d26 T TBs A cdv hcd A0 outer s H E hg hr,
   fng_step T.F27 S27 rfl rfl rfl fun cdv hcd A0 outer s H E hg hr => d27 T TBs A cdv hcd A0 outer s H E hg hr,
   fng_step T.F28 S28 rfl rfl rfl fun cdv hcd A0 outer s H E hg hr => d28 T TBs A cdv hcd A0 outer s H E hg hr,
   fng_step T.F29 S29 rfl rfl rfl fun cdv hcd A0 outer s H E hg hr => d29 T TBs A cdv hcd A0 outer s H E hg hr,
   fng_step T.F30 S30 rfl rfl rfl fun cdv hcd A0 outer s H E hg hr => d30 T TBs A cdv hcd A0 outer s H E hg hr,
   fng_step T.F31 S31 rfl rfl rfl fun cdv hcd A0 outer s H E hg hr => d31 T TBs A cdv hcd A0 outer s H E hg hr,
   fng_step T.F32 S32 rfl rfl rfl fun cdv hcd A0 outer s H E hg hr => d32 T TBs A cdv hcd A0 outer s H E hg hr,
   fng_step T.F33 S33 rfl rfl rfl fun cdv hcd A0 outer s H E hg hr => d33 T TBs A cdv hcd A0 outer s H E hg hr,
   fng_step T.F34 S34 rfl rfl rfl fun cdv hcd A0 outer s H E hg hr => d34 T TBs A cdv hcd A0 outer s H E hg hr,
   fng_step T.F35 S35 rfl rfl rfl fun cdv hcd A0 outer s H E hg hr => d35 T TBs A cdv hcd A0 outer s H E hg hr,
   fng_step T.F36 S36 rfl rfl rfl fun cdv hcd A0 outer s H E hg hr => d36 T TBs A cdv hcd A0 outer s H E hg hr,
   fng_step T.F37 S37 rfl rfl rfl fun cdv hcd A0 outer s H E hg hr => d37 T TBs A cdv hcd A0 outer s H E hg hr,
   fng_step T.F38 S38 rfl rfl rfl fun cdv hcd A0 outer s H E hg hr => d38 T TBs A cdv hcd A0 outer s H E hg hr,
   fng_step T.F39 S39 rfl rfl rfl fun cdv hcd A0 outer s H E hg hr => d39 T TBs A cdv hcd A0 outer s H E hg hr,
   fng_step T.F40 S40 rfl rfl rfl fun cdv hcd A0 outer s H E hg hr => d40 T TBs A cdv hcd A0 outer s H E hg hr,
   fng_step T.F41 S41 rfl rfl rfl fun cdv hcd A0 outer s H E hg hr => d41 T TBs A cdv hcd A0 outer s H E hg hr⟩
theorem all_k (T : Tx w.params K mg fa lc lp ca fd) (TBs : ∀ p ∈ tabC lc lp, LamX.TabB base mg p.1 p.2) : ∀ k : Nat, All P w K mg base fa lp ca fd k
  | 0 => all_zero
  | k + 1 => all_succ T TBs (all_k T TBs k)
end
theorem tx_mk {P : Program} {w : World} {K : PySem.W.Frag} {h : Heap} {mg : Str → Option Value} {fl : Addr} (k : Nat) (X : K.In h) (G : h.Ns mainGlobals mg) (hfa : mg "law" = some (.ref fl)) {f0 f1 f2 f3 f4 f5 f6 f7 f8 f9 f10 f11 f12 f13 f14 f15 f16 f17 f18 f19 f20 f21 f22 f23 f24 f25 f26 f27 f28 f29 f30 f31 f32 f33 f34 f35 f36 f37 f38 f39 f40 f41 C0 : Addr} {od0 an0 od1 an1 od2 an2 od3 an3 od4 an4 od5 an5 od6 an6 od7 an7 od8 an8 od9 an9 od10 an10 od11 an11 od12 an12 od13 an13 od14 an14 od15 an15 od16 an16 od17 an17 od18 an18 od19 an19 od20 an20 od21 an21 od22 an22 od23 an23 od24 an24 od25 an25 od26 an26 od27 an27 od28 an28 od29 an29 od30 an30 od31 an31 od32 an32 od33 an33 od34 an34 od35 an35 od36 an36 od37 an37 od38 an38 od39 an39 od40 an40 od41 an41 : Option Addr} {sl0 sl1 sl2 sl3 sl4 sl5 sl6 sl7 sl8 sl9 sl10 sl11 sl12 sl13 sl14 sl15 sl16 sl17 sl18 sl19 sl20 sl21 sl22 sl23 sl24 sl25 sl26 sl27 sl28 sl29 sl30 sl31 sl32 sl33 sl34 sl35 sl36 sl37 sl38 sl39 sl40 sl41 : Array (Option Value)} {oc0 kV0 dc0 pm0 cd0 ct0 oc1 kV1 dc1 pm1 cd1 ct1 oc2 kV2 dc2 pm2 cd2 ct2 oc3 kV3 dc3 pm3 cd3 ct3 oc4 kV4 dc4 pm4 cd4 ct4 oc5 kV5 dc5 pm5 cd5 ct5 oc6 kV6 dc6 pm6 cd6 ct6 oc7 kV7 dc7 pm7 cd7 ct7 oc8 kV8 dc8 pm8 cd8 ct8 oc9 kV9 dc9 pm9 cd9 ct9 oc10 kV10 dc10 pm10 cd10 ct10 oc11 kV11 dc11 pm11 cd11 ct11 oc12 kV12 dc12 pm12 cd12 ct12 oc13 kV13 dc13 pm13 cd13 ct13 oc14 kV14 dc14 pm14 cd14 ct14 oc15 kV15 dc15 pm15 cd15 ct15 oc16 kV16 dc16 pm16 cd16 ct16 oc17 kV17 dc17 pm17 cd17 ct17 oc18 kV18 dc18 pm18 cd18 ct18 oc19 kV19 dc19 pm19 cd19 ct19 oc20 kV20 dc20 pm20 cd20 ct20 oc21 kV21 dc21 pm21 cd21 ct21 oc22 kV22 dc22 pm22 cd22 ct22 oc23 kV23 dc23 pm23 cd23 ct23 oc24 kV24 dc24 pm24 cd24 ct24 oc25 kV25 dc25 pm25 cd25 ct25 oc26 kV26 dc26 pm26 cd26 ct26 oc27 kV27 dc27 pm27 cd27 ct27 oc28 kV28 dc28 pm28 cd28 ct28 oc29 kV29 dc29 pm29 cd29 ct29 oc30 kV30 dc30 pm30 cd30 ct30 oc31 kV31 dc31 pm31 cd31 ct31 oc32 kV32 dc32 pm32 cd32 ct32 oc33 kV33 dc33 pm33 cd33 ct33 oc34 kV34 dc34 pm34 cd34 ct34 oc35 kV35 dc35 pm35 cd35 ct35 oc36 kV36 dc36 pm36 cd36 ct36 oc37 kV37 dc37 pm37 cd37 ct37 oc38 kV38 dc38 pm38 cd38 ct38 oc39 kV39 dc39 pm39 cd39 ct39 oc40 kV40 dc40 pm40 cd40 ct40 oc41 kV41 dc41 pm41 cd41 ct41 : Value} {t_FIGURES t_GREATEST t_LAST_RANK t_LETTERS t_LONGEST_WORD t_MOST_BRACKETS t_MOST_DEEDS t_MOST_DEEP t_MOST_DELAY t_MOST_FIGURES t_MOST_IN_TUPLE t_MOST_NAMES t_MOST_NESTED t_NOTHING t_SCRIPTS : Tok} {a_ENDS : Addr} {es_ENDS : Array DictEntry} {n_ENDS : Nat} {a_FORMS : Addr} {es_FORMS : Array DictEntry} {n_FORMS : Nat} {a_LOOKS : Addr} {es_LOOKS : Array DictEntry} {n_LOOKS : Nat}
    (cC0 : PySem.W.nsIn K mainGlobals "Words" = some (some (.ref C0))) (pg0 : PySem.W.plainGet K C0 Str.empty = true) (dC0 : PySem.W.hasDictIn K C0 = true) (po0 : PySem.W.plainOver K C0 = true) (sa0 : PySem.W.findIn K (.ref C0) "__setattr__" = some (some (.builtin "object.__setattr__"))) (mC0 : PySem.W.makesIn K C0 = true) (kC0 : PySem.W.keepIn K (.ref C0) = true)
    (a0 : PySem.W.nsIn K mainGlobals "is_from" = some (some (.ref f0))) (l0 : K.lookup f0 = some ⟨oc0, od0, .func (PySem.W.fnOf "is_from" "is_from" (defArgs s0) (defBody s0) (defScope s0) .none kV0 dc0 pm0 an0 cd0 ct0), sl0⟩) (c0 : PySem.W.codeIn K cd0 "is_from" = true) (k0 : PySem.W.keepIn K (.ref f0) = true)
    (a1 : PySem.W.nsIn K mainGlobals "is_word" = some (some (.ref f1))) (l1 : K.lookup f1 = some ⟨oc1, od1, .func (PySem.W.fnOf "is_word" "is_word" (defArgs s1) (defBody s1) (defScope s1) .none kV1 dc1 pm1 an1 cd1 ct1), sl1⟩) (c1 : PySem.W.codeIn K cd1 "is_word" = true) (k1 : PySem.W.keepIn K (.ref f1) = true)
    (a2 : PySem.W.nsIn K mainGlobals "is_worth_in" = some (some (.ref f2))) (l2 : K.lookup f2 = some ⟨oc2, od2, .func (PySem.W.fnOf "is_worth_in" "is_worth_in" (defArgs s2) (defBody s2) (defScope s2) .none kV2 dc2 pm2 an2 cd2 ct2), sl2⟩) (c2 : PySem.W.codeIn K cd2 "is_worth_in" = true) (k2 : PySem.W.keepIn K (.ref f2) = true)
    (a3 : PySem.W.nsIn K mainGlobals "is_worth" = some (some (.ref f3))) (l3 : K.lookup f3 = some ⟨oc3, od3, .func (PySem.W.fnOf "is_worth" "is_worth" (defArgs s3) (defBody s3) (defScope s3) .none kV3 dc3 pm3 an3 cd3 ct3), sl3⟩) (c3 : PySem.W.codeIn K cd3 "is_worth" = true) (k3 : PySem.W.keepIn K (.ref f3) = true)
    (a4 : PySem.W.nsIn K mainGlobals "are_names" = some (some (.ref f4))) (l4 : K.lookup f4 = some ⟨oc4, od4, .func (PySem.W.fnOf "are_names" "are_names" (defArgs s4) (defBody s4) (defScope s4) .none kV4 dc4 pm4 an4 cd4 ct4), sl4⟩) (c4 : PySem.W.codeIn K cd4 "are_names" = true) (k4 : PySem.W.keepIn K (.ref f4) = true)
    (a5 : PySem.W.nsIn K mainGlobals "is_rank" = some (some (.ref f5))) (l5 : K.lookup f5 = some ⟨oc5, od5, .func (PySem.W.fnOf "is_rank" "is_rank" (defArgs s5) (defBody s5) (defScope s5) .none kV5 dc5 pm5 an5 cd5 ct5), sl5⟩) (c5 : PySem.W.codeIn K cd5 "is_rank" = true) (k5 : PySem.W.keepIn K (.ref f5) = true)
    (a6 : PySem.W.nsIn K mainGlobals "is_delay" = some (some (.ref f6))) (l6 : K.lookup f6 = some ⟨oc6, od6, .func (PySem.W.fnOf "is_delay" "is_delay" (defArgs s6) (defBody s6) (defScope s6) .none kV6 dc6 pm6 an6 cd6 ct6), sl6⟩) (c6 : PySem.W.codeIn K cd6 "is_delay" = true) (k6 : PySem.W.keepIn K (.ref f6) = true)
    (a7 : PySem.W.nsIn K mainGlobals "is_round" = some (some (.ref f7))) (l7 : K.lookup f7 = some ⟨oc7, od7, .func (PySem.W.fnOf "is_round" "is_round" (defArgs s7) (defBody s7) (defScope s7) .none kV7 dc7 pm7 an7 cd7 ct7), sl7⟩) (c7 : PySem.W.codeIn K cd7 "is_round" = true) (k7 : PySem.W.keepIn K (.ref f7) = true)
    (a8 : PySem.W.nsIn K mainGlobals "is_latest" = some (some (.ref f8))) (l8 : K.lookup f8 = some ⟨oc8, od8, .func (PySem.W.fnOf "is_latest" "is_latest" (defArgs s8) (defBody s8) (defScope s8) .none kV8 dc8 pm8 an8 cd8 ct8), sl8⟩) (c8 : PySem.W.codeIn K cd8 "is_latest" = true) (k8 : PySem.W.keepIn K (.ref f8) = true)
    (a9 : PySem.W.nsIn K mainGlobals "count_by" = some (some (.ref f9))) (l9 : K.lookup f9 = some ⟨oc9, od9, .func (PySem.W.fnOf "count_by" "count_by" (defArgs s9) (defBody s9) (defScope s9) .none kV9 dc9 pm9 an9 cd9 ct9), sl9⟩) (c9 : PySem.W.codeIn K cd9 "count_by" = true) (k9 : PySem.W.keepIn K (.ref f9) = true)
    (a10 : PySem.W.nsIn K mainGlobals "count_in" = some (some (.ref f10))) (l10 : K.lookup f10 = some ⟨oc10, od10, .func (PySem.W.fnOf "count_in" "count_in" (defArgs s10) (defBody s10) (defScope s10) .none kV10 dc10 pm10 an10 cd10 ct10), sl10⟩) (c10 : PySem.W.codeIn K cd10 "count_in" = true) (k10 : PySem.W.keepIn K (.ref f10) = true)
    (a11 : PySem.W.nsIn K mainGlobals "count_of" = some (some (.ref f11))) (l11 : K.lookup f11 = some ⟨oc11, od11, .func (PySem.W.fnOf "count_of" "count_of" (defArgs s11) (defBody s11) (defScope s11) .none kV11 dc11 pm11 an11 cd11 ct11), sl11⟩) (c11 : PySem.W.codeIn K cd11 "count_of" = true) (k11 : PySem.W.keepIn K (.ref f11) = true)
    (a12 : PySem.W.nsIn K mainGlobals "is_script" = some (some (.ref f12))) (l12 : K.lookup f12 = some ⟨oc12, od12, .func (PySem.W.fnOf "is_script" "is_script" (defArgs s12) (defBody s12) (defScope s12) .none kV12 dc12 pm12 an12 cd12 ct12), sl12⟩) (c12 : PySem.W.codeIn K cd12 "is_script" = true) (k12 : PySem.W.keepIn K (.ref f12) = true)
    (a13 : PySem.W.nsIn K mainGlobals "show_worth" = some (some (.ref f13))) (l13 : K.lookup f13 = some ⟨oc13, od13, .func (PySem.W.fnOf "show_worth" "show_worth" (defArgs s13) (defBody s13) (defScope s13) .none kV13 dc13 pm13 an13 cd13 ct13), sl13⟩) (c13 : PySem.W.codeIn K cd13 "show_worth" = true) (k13 : PySem.W.keepIn K (.ref f13) = true)
    (a14 : PySem.W.nsIn K mainGlobals "show_part" = some (some (.ref f14))) (l14 : K.lookup f14 = some ⟨oc14, od14, .func (PySem.W.fnOf "show_part" "show_part" (defArgs s14) (defBody s14) (defScope s14) .none kV14 dc14 pm14 an14 cd14 ct14), sl14⟩) (c14 : PySem.W.codeIn K cd14 "show_part" = true) (k14 : PySem.W.keepIn K (.ref f14) = true)
    (a15 : PySem.W.nsIn K mainGlobals "show_deed" = some (some (.ref f15))) (l15 : K.lookup f15 = some ⟨oc15, od15, .func (PySem.W.fnOf "show_deed" "show_deed" (defArgs s15) (defBody s15) (defScope s15) .none kV15 dc15 pm15 an15 cd15 ct15), sl15⟩) (c15 : PySem.W.codeIn K cd15 "show_deed" = true) (k15 : PySem.W.keepIn K (.ref f15) = true)
    (a16 : PySem.W.nsIn K mainGlobals "show_script" = some (some (.ref f16))) (l16 : K.lookup f16 = some ⟨oc16, od16, .func (PySem.W.fnOf "show_script" "show_script" (defArgs s16) (defBody s16) (defScope s16) .none kV16 dc16 pm16 an16 cd16 ct16), sl16⟩) (c16 : PySem.W.codeIn K cd16 "show_script" = true) (k16 : PySem.W.keepIn K (.ref f16) = true)
    (a17 : PySem.W.nsIn K mainGlobals "atom_in" = some (some (.ref f17))) (l17 : K.lookup f17 = some ⟨oc17, od17, .func (PySem.W.fnOf "atom_in" "atom_in" (defArgs s17) (defBody s17) (defScope s17) .none kV17 dc17 pm17 an17 cd17 ct17), sl17⟩) (c17 : PySem.W.codeIn K cd17 "atom_in" = true) (k17 : PySem.W.keepIn K (.ref f17) = true)
    (a18 : PySem.W.findIn K (.ref C0) "__init__" = some (some (.ref f18))) (i18 : PySem.W.isFn K (.ref f18) = true) (l18 : K.lookup f18 = some ⟨oc18, od18, .func (PySem.W.fnOf "__init__" "Words.__init__" (defArgs s18) (defBody s18) (defScope s18) .none kV18 dc18 pm18 an18 cd18 ct18), sl18⟩) (c18 : PySem.W.codeIn K cd18 "Words.__init__" = true) (k18 : PySem.W.keepIn K (.ref f18) = true)
    (a19 : PySem.W.findIn K (.ref C0) "is_over" = some (some (.ref f19))) (i19 : PySem.W.isFn K (.ref f19) = true) (l19 : K.lookup f19 = some ⟨oc19, od19, .func (PySem.W.fnOf "is_over" "Words.is_over" (defArgs s19) (defBody s19) (defScope s19) .none kV19 dc19 pm19 an19 cd19 ct19), sl19⟩) (c19 : PySem.W.codeIn K cd19 "Words.is_over" = true) (k19 : PySem.W.keepIn K (.ref f19) = true)
    (a20 : PySem.W.findIn K (.ref C0) "next_word" = some (some (.ref f20))) (i20 : PySem.W.isFn K (.ref f20) = true) (l20 : K.lookup f20 = some ⟨oc20, od20, .func (PySem.W.fnOf "next_word" "Words.next_word" (defArgs s20) (defBody s20) (defScope s20) .none kV20 dc20 pm20 an20 cd20 ct20), sl20⟩) (c20 : PySem.W.codeIn K cd20 "Words.next_word" = true) (k20 : PySem.W.keepIn K (.ref f20) = true)
    (a21 : PySem.W.findIn K (.ref C0) "bracketed" = some (some (.ref f21))) (i21 : PySem.W.isFn K (.ref f21) = true) (l21 : K.lookup f21 = some ⟨oc21, od21, .func (PySem.W.fnOf "bracketed" "Words.bracketed" (defArgs s21) (defBody s21) (defScope s21) .none kV21 dc21 pm21 an21 cd21 ct21), sl21⟩) (c21 : PySem.W.codeIn K cd21 "Words.bracketed" = true) (k21 : PySem.W.keepIn K (.ref f21) = true)
    (a22 : PySem.W.nsIn K mainGlobals "read_script" = some (some (.ref f22))) (l22 : K.lookup f22 = some ⟨oc22, od22, .func (PySem.W.fnOf "read_script" "read_script" (defArgs s22) (defBody s22) (defScope s22) .none kV22 dc22 pm22 an22 cd22 ct22), sl22⟩) (c22 : PySem.W.codeIn K cd22 "read_script" = true) (k22 : PySem.W.keepIn K (.ref f22) = true)
    (a23 : PySem.W.nsIn K mainGlobals "_law_pen" = some (some (.ref f23))) (l23 : K.lookup f23 = some ⟨oc23, od23, .func (PySem.W.fnOf "_law_pen" "_law_pen" (defArgs s23) (defBody s23) (defScope s23) .none kV23 dc23 pm23 an23 cd23 ct23), sl23⟩) (c23 : PySem.W.codeIn K cd23 "_law_pen" = true) (k23 : PySem.W.keepIn K (.ref f23) = true)
    (a24 : PySem.W.nsIn K mainGlobals "_law_draw" = some (some (.ref f24))) (l24 : K.lookup f24 = some ⟨oc24, od24, .func (PySem.W.fnOf "_law_draw" "_law_draw" (defArgs s24) (defBody s24) (defScope s24) .none kV24 dc24 pm24 an24 cd24 ct24), sl24⟩) (c24 : PySem.W.codeIn K cd24 "_law_draw" = true) (k24 : PySem.W.keepIn K (.ref f24) = true)
    (a25 : PySem.W.nsIn K mainGlobals "_law_pick" = some (some (.ref f25))) (l25 : K.lookup f25 = some ⟨oc25, od25, .func (PySem.W.fnOf "_law_pick" "_law_pick" (defArgs s25) (defBody s25) (defScope s25) .none kV25 dc25 pm25 an25 cd25 ct25), sl25⟩) (c25 : PySem.W.codeIn K cd25 "_law_pick" = true) (k25 : PySem.W.keepIn K (.ref f25) = true)
    (a26 : PySem.W.nsIn K mainGlobals "_law_word" = some (some (.ref f26))) (l26 : K.lookup f26 = some ⟨oc26, od26, .func (PySem.W.fnOf "_law_word" "_law_word" (defArgs s26) (defBody s26) (defScope s26) .none kV26 dc26 pm26 an26 cd26 ct26), sl26⟩) (c26 : PySem.W.codeIn K cd26 "_law_word" = true) (k26 : PySem.W.keepIn K (.ref f26) = true)
    (a27 : PySem.W.nsIn K mainGlobals "_law_worth" = some (some (.ref f27))) (l27 : K.lookup f27 = some ⟨oc27, od27, .func (PySem.W.fnOf "_law_worth" "_law_worth" (defArgs s27) (defBody s27) (defScope s27) .none kV27 dc27 pm27 an27 cd27 ct27), sl27⟩) (c27 : PySem.W.codeIn K cd27 "_law_worth" = true) (k27 : PySem.W.keepIn K (.ref f27) = true)
    (a28 : PySem.W.nsIn K mainGlobals "_law_forms" = some (some (.ref f28))) (l28 : K.lookup f28 = some ⟨oc28, od28, .func (PySem.W.fnOf "_law_forms" "_law_forms" (defArgs s28) (defBody s28) (defScope s28) .none kV28 dc28 pm28 an28 cd28 ct28), sl28⟩) (c28 : PySem.W.codeIn K cd28 "_law_forms" = true) (k28 : PySem.W.keepIn K (.ref f28) = true)
    (a29 : PySem.W.nsIn K mainGlobals "_law_part" = some (some (.ref f29))) (l29 : K.lookup f29 = some ⟨oc29, od29, .func (PySem.W.fnOf "_law_part" "_law_part" (defArgs s29) (defBody s29) (defScope s29) .none kV29 dc29 pm29 an29 cd29 ct29), sl29⟩) (c29 : PySem.W.codeIn K cd29 "_law_part" = true) (k29 : PySem.W.keepIn K (.ref f29) = true)
    (a30 : PySem.W.nsIn K mainGlobals "_law_script" = some (some (.ref f30))) (l30 : K.lookup f30 = some ⟨oc30, od30, .func (PySem.W.fnOf "_law_script" "_law_script" (defArgs s30) (defBody s30) (defScope s30) .none kV30 dc30 pm30 an30 cd30 ct30), sl30⟩) (c30 : PySem.W.codeIn K cd30 "_law_script" = true) (k30 : PySem.W.keepIn K (.ref f30) = true)
    (a31 : PySem.W.nsIn K mainGlobals "_law_shown" = some (some (.ref f31))) (l31 : K.lookup f31 = some ⟨oc31, od31, .func (PySem.W.fnOf "_law_shown" "_law_shown" (defArgs s31) (defBody s31) (defScope s31) .none kV31 dc31 pm31 an31 cd31 ct31), sl31⟩) (c31 : PySem.W.codeIn K cd31 "_law_shown" = true) (k31 : PySem.W.keepIn K (.ref f31) = true)
    (a32 : PySem.W.nsIn K mainGlobals "_law_text" = some (some (.ref f32))) (l32 : K.lookup f32 = some ⟨oc32, od32, .func (PySem.W.fnOf "_law_text" "_law_text" (defArgs s32) (defBody s32) (defScope s32) .none kV32 dc32 pm32 an32 cd32 ct32), sl32⟩) (c32 : PySem.W.codeIn K cd32 "_law_text" = true) (k32 : PySem.W.keepIn K (.ref f32) = true)
    (a33 : PySem.W.nsIn K mainGlobals "_law_is_from" = some (some (.ref f33))) (l33 : K.lookup f33 = some ⟨oc33, od33, .func (PySem.W.fnOf "_law_is_from" "_law_is_from" (defArgs s33) (defBody s33) (defScope s33) .none kV33 dc33 pm33 an33 cd33 ct33), sl33⟩) (c33 : PySem.W.codeIn K cd33 "_law_is_from" = true) (k33 : PySem.W.keepIn K (.ref f33) = true)
    (a34 : PySem.W.nsIn K mainGlobals "_law_is_word" = some (some (.ref f34))) (l34 : K.lookup f34 = some ⟨oc34, od34, .func (PySem.W.fnOf "_law_is_word" "_law_is_word" (defArgs s34) (defBody s34) (defScope s34) .none kV34 dc34 pm34 an34 cd34 ct34), sl34⟩) (c34 : PySem.W.codeIn K cd34 "_law_is_word" = true) (k34 : PySem.W.keepIn K (.ref f34) = true)
    (a35 : PySem.W.nsIn K mainGlobals "_law_is_worth" = some (some (.ref f35))) (l35 : K.lookup f35 = some ⟨oc35, od35, .func (PySem.W.fnOf "_law_is_worth" "_law_is_worth" (defArgs s35) (defBody s35) (defScope s35) .none kV35 dc35 pm35 an35 cd35 ct35), sl35⟩) (c35 : PySem.W.codeIn K cd35 "_law_is_worth" = true) (k35 : PySem.W.keepIn K (.ref f35) = true)
    (a36 : PySem.W.nsIn K mainGlobals "_law_is_part" = some (some (.ref f36))) (l36 : K.lookup f36 = some ⟨oc36, od36, .func (PySem.W.fnOf "_law_is_part" "_law_is_part" (defArgs s36) (defBody s36) (defScope s36) .none kV36 dc36 pm36 an36 cd36 ct36), sl36⟩) (c36 : PySem.W.codeIn K cd36 "_law_is_part" = true) (k36 : PySem.W.keepIn K (.ref f36) = true)
    (a37 : PySem.W.nsIn K mainGlobals "_law_many" = some (some (.ref f37))) (l37 : K.lookup f37 = some ⟨oc37, od37, .func (PySem.W.fnOf "_law_many" "_law_many" (defArgs s37) (defBody s37) (defScope s37) .none kV37 dc37 pm37 an37 cd37 ct37), sl37⟩) (c37 : PySem.W.codeIn K cd37 "_law_many" = true) (k37 : PySem.W.keepIn K (.ref f37) = true)
    (a38 : PySem.W.nsIn K mainGlobals "_law_is_script" = some (some (.ref f38))) (l38 : K.lookup f38 = some ⟨oc38, od38, .func (PySem.W.fnOf "_law_is_script" "_law_is_script" (defArgs s38) (defBody s38) (defScope s38) .none kV38 dc38 pm38 an38 cd38 ct38), sl38⟩) (c38 : PySem.W.codeIn K cd38 "_law_is_script" = true) (k38 : PySem.W.keepIn K (.ref f38) = true)
    (a39 : PySem.W.nsIn K mainGlobals "_law_odd" = some (some (.ref f39))) (l39 : K.lookup f39 = some ⟨oc39, od39, .func (PySem.W.fnOf "_law_odd" "_law_odd" (defArgs s39) (defBody s39) (defScope s39) .none kV39 dc39 pm39 an39 cd39 ct39), sl39⟩) (c39 : PySem.W.codeIn K cd39 "_law_odd" = true) (k39 : PySem.W.keepIn K (.ref f39) = true)
    (a40 : PySem.W.nsIn K mainGlobals "_law_bent" = some (some (.ref f40))) (l40 : K.lookup f40 = some ⟨oc40, od40, .func (PySem.W.fnOf "_law_bent" "_law_bent" (defArgs s40) (defBody s40) (defScope s40) .none kV40 dc40 pm40 an40 cd40 ct40), sl40⟩) (c40 : PySem.W.codeIn K cd40 "_law_bent" = true) (k40 : PySem.W.keepIn K (.ref f40) = true)
    (a41 : PySem.W.nsIn K mainGlobals "law" = some (some (.ref f41))) (l41 : K.lookup f41 = some ⟨oc41, od41, .func (PySem.W.fnOf "law" "law" (defArgs s41) (defBody s41) (defScope s41) .none kV41 dc41 pm41 an41 cd41 ct41), sl41⟩) (c41 : PySem.W.codeIn K cd41 "law" = true) (k41 : PySem.W.keepIn K (.ref f41) = true)
    (e_ENDS : PySem.W.nsIn K mainGlobals "ENDS" = some (some (.ref a_ENDS))) (l_ENDS : K.lookup a_ENDS = some ⟨.type "dict", none, .dict es_ENDS n_ENDS, #[]⟩) (m_ENDS : (a_ENDS == sysModules) = false) (x_ENDS : EntsAre w.params es_ENDS.toList [(.inr "(", .str ")"), (.inr "[", .str "]"), (.inr "<", .str ">")])
    (e_FIGURES : PySem.W.nsIn K mainGlobals "FIGURES" = some (some (.str "0123456789" t_FIGURES)))
    (e_FORMS : PySem.W.nsIn K mainGlobals "FORMS" = some (some (.ref a_FORMS))) (l_FORMS : K.lookup a_FORMS = some ⟨.type "dict", none, .dict es_FORMS n_FORMS, #[]⟩) (m_FORMS : (a_FORMS == sysModules) = false) (x_FORMS : EntsAre w.params es_FORMS.toList [(.inr "say", .str "w"), (.inr "echo", .str ""), (.inr "spend", .str "k"), (.inr "post", .str "rwS"), (.inr "micro", .str "S"), (.inr "after", .str "krwS"), (.inr "every", .str "erwS"), (.inr "idle", .str "iwS"), (.inr "stop", .str "w"), (.inr "rerank", .str "wr"), (.inr "make", .str "w"), (.inr "keep", .str "wv"), (.inr "pass", .str "w"), (.inr "break", .str "ww"), (.inr "follow", .str "ww"), (.inr "then", .str "wwss"), (.inr "all", .str "wn"), (.inr "any", .str "wn"), (.inr "first", .str "wn"), (.inr "each", .str "wn"), (.inr "give", .str "v"), (.inr "fail", .str "w"), (.inr "guard", .str "SsS"), (.inr "if", .str "wSS"), (.inr "wait", .str "w"), (.inr "run", .str "w"), (.inr "story", .str "wS"), (.inr "cancel", .str "w"), (.inr "yield", .str "r"), (.inr "call", .str "w")])
    (e_GREATEST : PySem.W.nsIn K mainGlobals "GREATEST" = some (some (.int 1000000000 t_GREATEST)))
    (e_LAST_RANK : PySem.W.nsIn K mainGlobals "LAST_RANK" = some (some (.int 5 t_LAST_RANK)))
    (e_LETTERS : PySem.W.nsIn K mainGlobals "LETTERS" = some (some (.str "abcdefghijklmnopqrstuvwxyz" t_LETTERS)))
    (e_LONGEST_WORD : PySem.W.nsIn K mainGlobals "LONGEST_WORD" = some (some (.int 8 t_LONGEST_WORD)))
    (e_LOOKS : PySem.W.nsIn K mainGlobals "LOOKS" = some (some (.ref a_LOOKS))) (l_LOOKS : K.lookup a_LOOKS = some ⟨.type "dict", none, .dict es_LOOKS n_LOOKS, #[]⟩) (m_LOOKS : (a_LOOKS == sysModules) = false) (x_LOOKS : EntsAre w.params es_LOOKS.toList [(.inr "w", .ref f1), (.inr "n", .ref f4), (.inr "v", .ref f3), (.inr "r", .ref f5), (.inr "k", .ref f6), (.inr "e", .ref f7), (.inr "i", .ref f8)])
    (e_MOST_BRACKETS : PySem.W.nsIn K mainGlobals "MOST_BRACKETS" = some (some (.int 13 t_MOST_BRACKETS)))
    (e_MOST_DEEDS : PySem.W.nsIn K mainGlobals "MOST_DEEDS" = some (some (.int 200 t_MOST_DEEDS)))
    (e_MOST_DEEP : PySem.W.nsIn K mainGlobals "MOST_DEEP" = some (some (.int 5 t_MOST_DEEP)))
    (e_MOST_DELAY : PySem.W.nsIn K mainGlobals "MOST_DELAY" = some (some (.int 1000 t_MOST_DELAY)))
    (e_MOST_FIGURES : PySem.W.nsIn K mainGlobals "MOST_FIGURES" = some (some (.int 10 t_MOST_FIGURES)))
    (e_MOST_IN_TUPLE : PySem.W.nsIn K mainGlobals "MOST_IN_TUPLE" = some (some (.int 20 t_MOST_IN_TUPLE)))
    (e_MOST_NAMES : PySem.W.nsIn K mainGlobals "MOST_NAMES" = some (some (.int 8 t_MOST_NAMES)))
    (e_MOST_NESTED : PySem.W.nsIn K mainGlobals "MOST_NESTED" = some (some (.int 4 t_MOST_NESTED)))
    (e_NOTHING : PySem.W.nsIn K mainGlobals "NOTHING" = some (some (.str "-" t_NOTHING)))
    (e_SCRIPTS : PySem.W.nsIn K mainGlobals "SCRIPTS" = some (some (.str "Ss" t_SCRIPTS)))
    (z_all : PySem.W.nsIn K mainGlobals "all" = some none)
    (z_bool : PySem.W.nsIn K mainGlobals "bool" = some none)
    (z_int : PySem.W.nsIn K mainGlobals "int" = some none)
    (z_isinstance : PySem.W.nsIn K mainGlobals "isinstance" = some none)
    (z_len : PySem.W.nsIn K mainGlobals "len" = some none)
    (z_list : PySem.W.nsIn K mainGlobals "list" = some none)
    (z_max : PySem.W.nsIn K mainGlobals "max" = some none)
    (z_range : PySem.W.nsIn K mainGlobals "range" = some none)
    (z_repr : PySem.W.nsIn K mainGlobals "repr" = some none)
    (z_str : PySem.W.nsIn K mainGlobals "str" = some none)
    (z_tuple : PySem.W.nsIn K mainGlobals "tuple" = some none)
    (z_zip : PySem.W.nsIn K mainGlobals "zip" = some none)
    (n0_at : PySem.W.findIn K (.ref C0) "at" = some none)
    (n0_row : PySem.W.findIn K (.ref C0) "row" = some none)
    : ∃ (K2 : PySem.W.Frag) (cs : List (Addr × Addr)) (fd : FuncData), K2.In h ∧ (∀ p ∈ cs, h.get? p.2 = some tab0) ∧ (∀ p ∈ cs, K2.lookup p.2 = none) ∧ (∀ p ∈ cs, PySem.W.CodeHd h p.1 p.2) ∧ (∀ (s : Shared) (u : Value), BindsTo s fd ⟨[u], []⟩ [("_law_cells", u)]) ∧
      ∃ Γ : Gm, Γ.K = K2 ∧ (∀ p ∈ Γ.T, p.1 ∈ cs.map (·.2)) ∧ ∀ base : Heap, (∀ p ∈ cs, LamX.TabB base mg p.1 p.2) → FnG P w K2 mg base CX0 (2 * k + 2) fl fd ["_law_cells"] (spF Γ 1 (evC tab k 41)) := by
  obtain rfl : f41 = fl := by
    have e := hfa.symm.trans (PySem.W.mg_of X G a41)
    cases e
    rfl
  have F0 := fun_mk (x := "is_from") (qual := "is_from") (st := s0) l0 c0 k0
  have F1 := fun_mk (x := "is_word") (qual := "is_word") (st := s1) l1 c1 k1
  have F2 := fun_mk (x := "is_worth_in") (qual := "is_worth_in") (st := s2) l2 c2 k2
  have F3 := fun_mk (x := "is_worth") (qual := "is_worth") (st := s3) l3 c3 k3
  have F4 := fun_mk (x := "are_names") (qual := "are_names") (st := s4) l4 c4 k4
  have F5 := fun_mk (x := "is_rank") (qual := "is_rank") (st := s5) l5 c5 k5
  have F6 := fun_mk (x := "is_delay") (qual := "is_delay") (st := s6) l6 c6 k6
  have F7 := fun_mk (x := "is_round") (qual := "is_round") (st := s7) l7 c7 k7
  have F8 := fun_mk (x := "is_latest") (qual := "is_latest") (st := s8) l8 c8 k8
  have F9 := fun_mk (x := "count_by") (qual := "count_by") (st := s9) l9 c9 k9
  have F10 := fun_mk (x := "count_in") (qual := "count_in") (st := s10) l10 c10 k10
  have F11 := fun_mk (x := "count_of") (qual := "count_of") (st := s11) l11 c11 k11
  have F12 := fun_mk (x := "is_script") (qual := "is_script") (st := s12) l12 c12 k12
  have F13 := fun_mk (x := "show_worth") (qual := "show_worth") (st := s13) l13 c13 k13
  have F14 := fun_mk (x := "show_part") (qual := "show_part") (st := s14) l14 c14 k14
  have F15 := fun_mk (x := "show_deed") (qual := "show_deed") (st := s15) l15 c15 k15
  have F16 := fun_mk (x := "show_script") (qual := "show_script") (st := s16) l16 c16 k16
  have F17 := fun_mk (x := "atom_in") (qual := "atom_in") (st := s17) l17 c17 k17
  have F18 := fun_mk (x := "__init__") (qual := "Words.__init__") (st := s18) l18 c18 k18
  have F19 := fun_mk (x := "is_over") (qual := "Words.is_over") (st := s19) l19 c19 k19
  have F20 := fun_mk (x := "next_word") (qual := "Words.next_word") (st := s20) l20 c20 k20
  have F21 := fun_mk (x := "bracketed") (qual := "Words.bracketed") (st := s21) l21 c21 k21
  have F22 := fun_mk (x := "read_script") (qual := "read_script") (st := s22) l22 c22 k22
  have F23 := fun_mk (x := "_law_pen") (qual := "_law_pen") (st := s23) l23 c23 k23
  have F24 := fun_mk (x := "_law_draw") (qual := "_law_draw") (st := s24) l24 c24 k24
  have F25 := fun_mk (x := "_law_pick") (qual := "_law_pick") (st := s25) l25 c25 k25
  have F26 := fun_mk (x := "_law_word") (qual := "_law_word") (st := s26) l26 c26 k26
  have F27 := fun_mk (x := "_law_worth") (qual := "_law_worth") (st := s27) l27 c27 k27
  have F28 := fun_mk (x := "_law_forms") (qual := "_law_forms") (st := s28) l28 c28 k28
  have F29 := fun_mk (x := "_law_part") (qual := "_law_part") (st := s29) l29 c29 k29
  have F30 := fun_mk (x := "_law_script") (qual := "_law_script") (st := s30) l30 c30 k30
  have F31 := fun_mk (x := "_law_shown") (qual := "_law_shown") (st := s31) l31 c31 k31
  have F32 := fun_mk (x := "_law_text") (qual := "_law_text") (st := s32) l32 c32 k32
  have F33 := fun_mk (x := "_law_is_from") (qual := "_law_is_from") (st := s33) l33 c33 k33
  have F34 := fun_mk (x := "_law_is_word") (qual := "_law_is_word") (st := s34) l34 c34 k34
  have F35 := fun_mk (x := "_law_is_worth") (qual := "_law_is_worth") (st := s35) l35 c35 k35
  have F36 := fun_mk (x := "_law_is_part") (qual := "_law_is_part") (st := s36) l36 c36 k36
  have F37 := fun_mk (x := "_law_many") (qual := "_law_many") (st := s37) l37 c37 k37
  have F38 := fun_mk (x := "_law_is_script") (qual := "_law_is_script") (st := s38) l38 c38 k38
  have F39 := fun_mk (x := "_law_odd") (qual := "_law_odd") (st := s39) l39 c39 k39
  have F40 := fun_mk (x := "_law_bent") (qual := "_law_bent") (st := s40) l40 c40 k40
  have F41 := fun_mk (x := "law") (qual := "law") (st := s41) l41 c41 k41
  let lc : Nat → Addr := fun i => match i with | _ => 0
  let lp : Nat → Addr := fun i => match i with | _ => 0
  let ca : Nat → Addr := fun i => [C0].getD i 0
  let fa : Nat → Addr := fun i => [f0, f1, f2, f3, f4, f5, f6, f7, f8, f9, f10, f11, f12, f13, f14, f15, f16, f17, f18, f19, f20, f21, f22, f23, f24, f25, f26, f27, f28, f29, f30, f31, f32, f33, f34, f35, f36, f37, f38, f39, f40, f41].getD i 0
  let fd : Nat → FuncData := fun i => [PySem.W.fnOf "is_from" "is_from" (defArgs s0) (defBody s0) (defScope s0) .none kV0 dc0 pm0 an0 cd0 ct0, PySem.W.fnOf "is_word" "is_word" (defArgs s1) (defBody s1) (defScope s1) .none kV1 dc1 pm1 an1 cd1 ct1, PySem.W.fnOf "is_worth_in" "is_worth_in" (defArgs s2) (defBody s2) (defScope s2) .none kV2 dc2 pm2 an2 cd2 ct2, PySem.W.fnOf "is_worth" "is_worth" (defArgs s3) (defBody s3) (defScope s3) .none kV3 dc3 pm3 an3 cd3 ct3, PySem.W.fnOf "are_names" "are_names" (defArgs s4) (defBody s4) (defScope s4) .none kV4 dc4 pm4 an4 cd4 ct4, PySem.W.fnOf "is_rank" "is_rank" (defArgs s5) (defBody s5) (defScope s5) .none kV5 dc5 pm5 an5 cd5 ct5, PySem.W.fnOf "is_delay" "is_delay" (defArgs s6) (defBody s6) (defScope s6) .none kV6 dc6 pm6 an6 cd6 ct6, PySem.W.fnOf "is_round" "is_round" (defArgs s7) (defBody s7) (defScope s7) .none kV7 dc7 pm7 an7 cd7 ct7, PySem.W.fnOf "is_latest" "is_latest" (defArgs s8) (defBody s8) (defScope s8) .none kV8 dc8 pm8 an8 cd8 ct8, PySem.W.fnOf "count_by" "count_by" (defArgs s9) (defBody s9) (defScope s9) .none kV9 dc9 pm9 an9 cd9 ct9, PySem.W.fnOf "count_in" "count_in" (defArgs s10) (defBody s10) (defScope s10) .none kV10 dc10 pm10 an10 cd10 ct10, PySem.W.fnOf "count_of" "count_of" (defArgs s11) (defBody s11) (defScope s11) .none kV11 dc11 pm11 an11 cd11 ct11, PySem.W.fnOf "is_script" "is_script" (defArgs s12) (defBody s12) (defScope s12) .none kV12 dc12 pm12 an12 cd12 ct12, PySem.W.fnOf "show_worth" "show_worth" (defArgs s13) (defBody s13) (defScope s13) .none kV13 dc13 pm13 an13 cd13 ct13, PySem.W.fnOf "show_part" "show_part" (defArgs s14) (defBody s14) (defScope s14) .none kV14 dc14 pm14 an14 cd14 ct14, PySem.W.fnOf "show_deed" "show_deed" (defArgs s15) (defBody s15) (defScope s15) .none kV15 dc15 pm15 an15 cd15 ct15, PySem.W.fnOf "show_script" "show_script" (defArgs s16) (defBody s16) (defScope s16) .none kV16 dc16 pm16 an16 cd16 ct16, PySem.W.fnOf "atom_in" "atom_in" (defArgs s17) (defBody s17) (defScope s17) .none kV17 dc17 pm17 an17 cd17 ct17, PySem.W.fnOf "__init__" "Words.__init__" (defArgs s18) (defBody s18) (defScope s18) .none kV18 dc18 pm18 an18 cd18 ct18, PySem.W.fnOf "is_over" "Words.is_over" (defArgs s19) (defBody s19) (defScope s19) .none kV19 dc19 pm19 an19 cd19 ct19, PySem.W.fnOf "next_word" "Words.next_word" (defArgs s20) (defBody s20) (defScope s20) .none kV20 dc20 pm20 an20 cd20 ct20, PySem.W.fnOf "bracketed" "Words.bracketed" (defArgs s21) (defBody s21) (defScope s21) .none kV21 dc21 pm21 an21 cd21 ct21, PySem.W.fnOf "read_script" "read_script" (defArgs s22) (defBody s22) (defScope s22) .none kV22 dc22 pm22 an22 cd22 ct22, PySem.W.fnOf "_law_pen" "_law_pen" (defArgs s23) (defBody s23) (defScope s23) .none kV23 dc23 pm23 an23 cd23 ct23, PySem.W.fnOf "_law_draw" "_law_draw" (defArgs s24) (defBody s24) (defScope s24) .none kV24 dc24 pm24 an24 cd24 ct24, PySem.W.fnOf "_law_pick" "_law_pick" (defArgs s25) (defBody s25) (defScope s25) .none kV25 dc25 pm25 an25 cd25 ct25, PySem.W.fnOf "_law_word" "_law_word" (defArgs s26) (defBody s26) (defScope s26) .none kV26 dc26 pm26 an26 cd26 ct26, PySem.W.fnOf "_law_worth" "_law_worth" (defArgs s27) (defBody s27) (defScope s27) .none kV27 dc27 pm27 an27 cd27 ct27, PySem.W.fnOf "_law_forms" "_law_forms" (defArgs s28) (defBody s28) (defScope s28) .none kV28 dc28 pm28 an28 cd28 ct28, PySem.W.fnOf "_law_part" "_law_part" (defArgs s29) (defBody s29) (defScope s29) .none kV29 dc29 pm29 an29 cd29 ct29, PySem.W.fnOf "_law_script" "_law_script" (defArgs s30) (defBody s30) (defScope s30) .none kV30 dc30 pm30 an30 cd30 ct30, PySem.W.fnOf "_law_shown" "_law_shown" (defArgs s31) (defBody s31) (defScope s31) .none kV31 dc31 pm31 an31 cd31 ct31, PySem.W.fnOf "_law_text" "_law_text" (defArgs s32) (defBody s32) (defScope s32) .none kV32 dc32 pm32 an32 cd32 ct32, PySem.W.fnOf "_law_is_from" "_law_is_from" (defArgs s33) (defBody s33) (defScope s33) .none kV33 dc33 pm33 an33 cd33 ct33, PySem.W.fnOf "_law_is_word" "_law_is_word" (defArgs s34) (defBody s34) (defScope s34) .none kV34 dc34 pm34 an34 cd34 ct34, PySem.W.fnOf "_law_is_worth" "_law_is_worth" (defArgs s35) (defBody s35) (defScope s35) .none kV35 dc35 pm35 an35 cd35 ct35, PySem.W.fnOf "_law_is_part" "_law_is_part" (defArgs s36) (defBody s36) (defScope s36) .none kV36 dc36 pm36 an36 cd36 ct36, PySem.W.fnOf "_law_many" "_law_many" (defArgs s37) (defBody s37) (defScope s37) .none kV37 dc37 pm37 an37 cd37 ct37, PySem.W.fnOf "_law_is_script" "_law_is_script" (defArgs s38) (defBody s38) (defScope s38) .none kV38 dc38 pm38 an38 cd38 ct38, PySem.W.fnOf "_law_odd" "_law_odd" (defArgs s39) (defBody s39) (defScope s39) .none kV39 dc39 pm39 an39 cd39 ct39, PySem.W.fnOf "_law_bent" "_law_bent" (defArgs s40) (defBody s40) (defScope s40) .none kV40 dc40 pm40 an40 cd40 ct40, PySem.W.fnOf "law" "law" (defArgs s41) (defBody s41) (defScope s41) .none kV41 dc41 pm41 an41 cd41 ct41].getD i (PySem.W.fnOf "is_from" "is_from" (defArgs s0) (defBody s0) (defScope s0) .none kV0 dc0 pm0 an0 cd0 ct0)
  have T : Tx w.params (K) mg fa lc lp ca fd := ⟨F0,
    PySem.W.mg_of X G a0,
    F0.binds fun _ _ _ _ _ _ us hl => match us, hl with | [_, _, _], _ => rfl,
    F1,
    PySem.W.mg_of X G a1,
    F1.binds fun _ _ _ _ _ _ us hl => match us, hl with | [_], _ => rfl,
    F2,
    PySem.W.mg_of X G a2,
    F2.binds fun _ _ _ _ _ _ us hl => match us, hl with | [_, _], _ => rfl,
    F3,
    PySem.W.mg_of X G a3,
    F3.binds fun _ _ _ _ _ _ us hl => match us, hl with | [_], _ => rfl,
    F4,
    PySem.W.mg_of X G a4,
    F4.binds fun _ _ _ _ _ _ us hl => match us, hl with | [_], _ => rfl,
    F5,
    PySem.W.mg_of X G a5,
    F5.binds fun _ _ _ _ _ _ us hl => match us, hl with | [_], _ => rfl,
    F6,
    PySem.W.mg_of X G a6,
    F6.binds fun _ _ _ _ _ _ us hl => match us, hl with | [_], _ => rfl,
    F7,
    PySem.W.mg_of X G a7,
    F7.binds fun _ _ _ _ _ _ us hl => match us, hl with | [_], _ => rfl,
    F8,
    PySem.W.mg_of X G a8,
    F8.binds fun _ _ _ _ _ _ us hl => match us, hl with | [_], _ => rfl,
    F9,
    PySem.W.mg_of X G a9,
    F9.binds fun _ _ _ _ _ _ us hl => match us, hl with | [_, _, _], _ => rfl,
    F10,
    PySem.W.mg_of X G a10,
    F10.binds fun _ _ _ _ _ _ us hl => match us, hl with | [_, _], _ => rfl,
    F11,
    PySem.W.mg_of X G a11,
    F11.binds fun _ _ _ _ _ _ us hl => match us, hl with | [_, _], _ => rfl,
    F12,
    PySem.W.mg_of X G a12,
    F12.binds fun _ _ _ _ _ _ us hl => match us, hl with | [_], _ => rfl,
    F13,
    PySem.W.mg_of X G a13,
    F13.binds fun _ _ _ _ _ _ us hl => match us, hl with | [_], _ => rfl,
    F14,
    PySem.W.mg_of X G a14,
    F14.binds fun _ _ _ _ _ _ us hl => match us, hl with | [_, _], _ => rfl,
    F15,
    PySem.W.mg_of X G a15,
    F15.binds fun _ _ _ _ _ _ us hl => match us, hl with | [_], _ => rfl,
    F16,
    PySem.W.mg_of X G a16,
    F16.binds fun _ _ _ _ _ _ us hl => match us, hl with | [_], _ => rfl,
    F17,
    PySem.W.mg_of X G a17,
    F17.binds fun _ _ _ _ _ _ us hl => match us, hl with | [_], _ => rfl,
    F18,
    ⟨mC0, a18, i18, kC0⟩,
    F18.binds fun _ _ _ _ _ _ us hl => match us, hl with | [_, _], _ => rfl,
    F19,
    ⟨a19, i19, k19⟩,
    F19.binds fun _ _ _ _ _ _ us hl => match us, hl with | [_], _ => rfl,
    F20,
    ⟨a20, i20, k20⟩,
    F20.binds fun _ _ _ _ _ _ us hl => match us, hl with | [_], _ => rfl,
    F21,
    ⟨a21, i21, k21⟩,
    F21.binds fun _ _ _ _ _ _ us hl => match us, hl with | [_, _], _ => rfl,
    F22,
    PySem.W.mg_of X G a22,
    F22.binds fun _ _ _ _ _ _ us hl => match us, hl with | [_], _ => rfl,
    F23,
    PySem.W.mg_of X G a23,
    F23.binds fun _ _ _ _ _ _ us hl => match us, hl with | [_], _ => rfl,
    F24,
    PySem.W.mg_of X G a24,
    F24.binds fun _ _ _ _ _ _ us hl => match us, hl with | [_, _], _ => rfl,
    F25,
    PySem.W.mg_of X G a25,
    F25.binds fun _ _ _ _ _ _ us hl => match us, hl with | [_, _], _ => rfl,
    F26,
    PySem.W.mg_of X G a26,
    F26.binds fun _ _ _ _ _ _ us hl => match us, hl with | [_], _ => rfl,
    F27,
    PySem.W.mg_of X G a27,
    F27.binds fun _ _ _ _ _ _ us hl => match us, hl with | [_, _], _ => rfl,
    F28,
    PySem.W.mg_of X G a28,
    F28.binds fun _ _ _ _ _ _ us hl => match us, hl with | [], _ => rfl,
    F29,
    PySem.W.mg_of X G a29,
    F29.binds fun _ _ _ _ _ _ us hl => match us, hl with | [_, _, _, _], _ => rfl,
    F30,
    PySem.W.mg_of X G a30,
    F30.binds fun _ _ _ _ _ _ us hl => match us, hl with | [_, _, _], _ => rfl,
    F31,
    PySem.W.mg_of X G a31,
    F31.binds fun _ _ _ _ _ _ us hl => match us, hl with | [_], _ => rfl,
    F32,
    PySem.W.mg_of X G a32,
    F32.binds fun _ _ _ _ _ _ us hl => match us, hl with | [_], _ => rfl,
    F33,
    PySem.W.mg_of X G a33,
    F33.binds fun _ _ _ _ _ _ us hl => match us, hl with | [_, _, _], _ => rfl,
    F34,
    PySem.W.mg_of X G a34,
    F34.binds fun _ _ _ _ _ _ us hl => match us, hl with | [_], _ => rfl,
    F35,
    PySem.W.mg_of X G a35,
    F35.binds fun _ _ _ _ _ _ us hl => match us, hl with | [_, _], _ => rfl,
    F36,
    PySem.W.mg_of X G a36,
    F36.binds fun _ _ _ _ _ _ us hl => match us, hl with | [_, _], _ => rfl,
    F37,
    PySem.W.mg_of X G a37,
    F37.binds fun _ _ _ _ _ _ us hl => match us, hl with | [_, _], _ => rfl,
    F38,
    PySem.W.mg_of X G a38,
    F38.binds fun _ _ _ _ _ _ us hl => match us, hl with | [_], _ => rfl,
    F39,
    PySem.W.mg_of X G a39,
    F39.binds fun _ _ _ _ _ _ us hl => match us, hl with | [_], _ => rfl,
    F40,
    PySem.W.mg_of X G a40,
    F40.binds fun _ _ _ _ _ _ us hl => match us, hl with | [_, _], _ => rfl,
    F41,
    PySem.W.mg_of X G a41,
    F41.binds fun _ _ _ _ _ _ us hl => match us, hl with | [_], _ => rfl,
    ⟨pg0, dC0, po0, sa0⟩,
    PySem.W.mg_of X G cC0,
    n0_at,
    n0_row,
    kb_mk F16 (fun _ _ _ _ _ _ us ws hl => match us, ws, (by simpa [q16_0] using hl : (us ++ ws).length = 1) with | [_], [], _ => rfl | [], [_], _ => rfl) (fun r q => r.append q),
    kb_mk F22 (fun _ _ _ _ _ _ us ws hl => match us, ws, (by simpa [q22_0] using hl : (us ++ ws).length = 1) with | [_], [], _ => rfl | [], [_], _ => rfl) (fun r q => r.append q),
    ⟨_, _, PySem.W.mg_of X G e_ENDS, ⟨_, _, l_ENDS, m_ENDS, x_ENDS⟩, fun β H => (.cons (.str _) (.cons (.str _) (.cons (.str _) .nil)))⟩,
    ⟨_, PySem.W.mg_of X G e_FIGURES, ⟨_, rfl⟩⟩,
    ⟨_, _, PySem.W.mg_of X G e_FORMS, ⟨_, _, l_FORMS, m_FORMS, x_FORMS⟩, fun β H => (.cons (.str _) (.cons (.str _) (.cons (.str _) (.cons (.str _) (.cons (.str _) (.cons (.str _) (.cons (.str _) (.cons (.str _) (.cons (.str _) (.cons (.str _) (.cons (.str _) (.cons (.str _) (.cons (.str _) (.cons (.str _) (.cons (.str _) (.cons (.str _) (.cons (.str _) (.cons (.str _) (.cons (.str _) (.cons (.str _) (.cons (.str _) (.cons (.str _) (.cons (.str _) (.cons (.str _) (.cons (.str _) (.cons (.str _) (.cons (.str _) (.cons (.str _) (.cons (.str _) (.cons (.str _) .nil))))))))))))))))))))))))))))))⟩,
    ⟨_, PySem.W.mg_of X G e_GREATEST, ⟨_, rfl⟩⟩,
    ⟨_, PySem.W.mg_of X G e_LAST_RANK, ⟨_, rfl⟩⟩,
    ⟨_, PySem.W.mg_of X G e_LETTERS, ⟨_, rfl⟩⟩,
    ⟨_, PySem.W.mg_of X G e_LONGEST_WORD, ⟨_, rfl⟩⟩,
    ⟨_, _, PySem.W.mg_of X G e_LOOKS, ⟨_, _, l_LOOKS, m_LOOKS, x_LOOKS⟩, fun β H => (.cons (.fn 1) (.cons (.fn 4) (.cons (.fn 3) (.cons (.fn 5) (.cons (.fn 6) (.cons (.fn 7) (.cons (.fn 8) .nil)))))))⟩,
    ⟨_, PySem.W.mg_of X G e_MOST_BRACKETS, ⟨_, rfl⟩⟩,
    ⟨_, PySem.W.mg_of X G e_MOST_DEEDS, ⟨_, rfl⟩⟩,
    ⟨_, PySem.W.mg_of X G e_MOST_DEEP, ⟨_, rfl⟩⟩,
    ⟨_, PySem.W.mg_of X G e_MOST_DELAY, ⟨_, rfl⟩⟩,
    ⟨_, PySem.W.mg_of X G e_MOST_FIGURES, ⟨_, rfl⟩⟩,
    ⟨_, PySem.W.mg_of X G e_MOST_IN_TUPLE, ⟨_, rfl⟩⟩,
    ⟨_, PySem.W.mg_of X G e_MOST_NAMES, ⟨_, rfl⟩⟩,
    ⟨_, PySem.W.mg_of X G e_MOST_NESTED, ⟨_, rfl⟩⟩,
    ⟨_, PySem.W.mg_of X G e_NOTHING, ⟨_, rfl⟩⟩,
    ⟨_, PySem.W.mg_of X G e_SCRIPTS, ⟨_, rfl⟩⟩,
    PySem.W.mg_none_of X G z_all,
    PySem.W.mg_none_of X G z_bool,
    PySem.W.mg_none_of X G z_int,
    PySem.W.mg_none_of X G z_isinstance,
    PySem.W.mg_none_of X G z_len,
    PySem.W.mg_none_of X G z_list,
    PySem.W.mg_none_of X G z_max,
    PySem.W.mg_none_of X G z_range,
    PySem.W.mg_none_of X G z_repr,
    PySem.W.mg_none_of X G z_str,
    PySem.W.mg_none_of X G z_tuple,
    PySem.W.mg_none_of X G z_zip⟩
  exact ⟨K, tabC lc lp, PySem.W.fnOf "law" "law" (defArgs s41) (defBody s41) (defScope s41) .none kV41 dc41 pm41 an41 cd41 ct41, X, fun p hp => (by cases hp), fun p hp => (by cases hp), fun p hp => (by cases hp), fun s v => .of_eq rfl, ⟨K, fa, w.params, tabT lp, ca⟩, rfl, fun p hp => (by cases hp), fun base TBs => (all_k T TBs k).f41⟩
end K64

namespace K64
open PySem L2 TL Rk

theorem hdr (j : Nat) : DrawOK (evC tab (j + 1) 24) := draw_ok (tab := tab) (g := 24) rfl
theorem hpk (j : Nat) : PickOK (evC tab (j + 2) 25) := pick_ok (tab := tab) (g := 25) rfl rfl (hdr j)
theorem hwd (j : Nat) : WordOK (evC tab (j + 3) 26) := word_ok (tab := tab) (g := 26) rfl rfl (hdr (j + 1)) (hpk j)
theorem hwo (k j : Nat) : WorthOK k (evC tab (j + k + 4) 27) := worth_ok (tab := tab) (g := 27) (gd := 24) (gw := 26) rfl (fun _ => rfl) hdr hwd k j
theorem hfr (j : Nat) : FromOK (evC tab (j + 1) 0) := from_ok (tab := tab) (g := 0) rfl rfl
theorem hfr2 (j : Nat) : FromOK (evC tab (j + 1) 33) := from_ok (tab := tab) (g := 33) rfl rfl
theorem hiw (j : Nat) : IsWordOK (evC tab (j + 1) 1) := isWord_ok (tab := tab) (g := 1) rfl (.inl rfl)
theorem hiw2 (j : Nat) : IsWordOK (evC tab (j + 1) 34) := isWord_ok (tab := tab) (g := 34) rfl (.inr rfl)
theorem hiv (k j : Nat) : IsVOK k (evC tab (j + k + 2) 2) := isV_ok (tab := tab) (g := 2) (gw := 1) (gf := 0) rfl (.inl fun _ => rfl) hiw hfr k j
theorem hiv2 (k j : Nat) : IsVOK k (evC tab (j + k + 2) 35) := isV_ok (tab := tab) (g := 35) (gw := 34) (gf := 33) rfl (.inr fun _ => rfl) hiw2 hfr2 k j
theorem hod (j : Nat) : OddOK (evC tab (j + 2) 39) := odd_ok (tab := tab) (g := 39) rfl rfl (hdr j)
theorem hbe {n : Nat} (hn : 3 ≤ n) (hn2 : n ≤ 1000) (k j : Nat) : BentOK n k (evC tab (j + k + 3) 40) := bent_ok (tab := tab) (g := 40) (gd := 24) (go := 39) rfl (fun _ => rfl) hdr hod hn hn2 k j
theorem hdl (j : Nat) : LookOK (evC tab (j + 2) 6) 107 := range_ok (tab := tab) (g := 6) (a := 0) (b := 1000) rfl rfl (hfr j) fun _ => rfl
theorem hlk (j : Nat) : Looks (evC tab (j + 7)) 1 4 3 5 6 7 8 :=
  ⟨look_w (hiw (j + 6)), names_ok (tab := tab) (g := 4) rfl rfl (hiw (j + 5)), look_v (tab := tab) (g := 3) rfl rfl (hiv 4 j), range_ok (tab := tab) (g := 5) (a := 0) (b := 5) rfl rfl (hfr (j + 5)) fun _ => rfl, hdl (j + 5),
    range_ok (tab := tab) (g := 7) (a := 1) (b := 1000) rfl rfl (hfr (j + 5)) fun _ => rfl, look_i (tab := tab) (g := 8) rfl rfl (hdl (j + 4))⟩
theorem hco (k j : Nat) : CountOK k (evC tab (j + 7 + 3 * k + 1) 11) :=
  count_ok (tab := tab) (gc := 11) (gi := 10) (gb := 9) (gw := 1) (gn := 4) (gv := 3) (gr := 5) (gk := 6) (ge := 7) (gl := 8) (FO := .kd FORMS) rfl rfl rfl (fun _ => rfl) (fun _ => rfl) (fun _ => rfl) (fun _ _ => notIn_kd) (fun _ _ _ h => ix_kd h) hlk k j
theorem hfo (j : Nat) : FormsOK (evC tab (j + 1) 28) := forms_ok (tab := tab) (g := 28) rfl rfl
theorem hpa (j : Nat) : PartOK (evC tab (j + 7) 36) := part_ok (tab := tab) (g := 36) (wd := evC tab (j + 6) 34) (wo := evC tab (j + 6) 35) (fr := evC tab (j + 6) 33) rfl rfl (.inl rfl) (hiw2 (j + 5)) (hiv2 4 j) (hfr2 (j + 5))
theorem hmn (k j : Nat) : ManyOK k (evC tab (j + k + 7 + 1) 37) := many_ok (tab := tab) (g := 37) (gf := 28) (gp := 36) rfl (fun _ => rfl) (fun j => hfo (j + 6)) hpa k j
theorem hsc (k j : Nat) : ScD k (evC tab (j + 2 * k + 8) 30) :=
  (scr_ok (tab := tab) (gs := 30) (gp := 29) (gd := 24) (gk := 25) (gw := 26) (go := 27) (gf := 28) rfl rfl (fun _ => rfl) (fun _ => rfl) hdr hpk hwd (fun j => hwo 2 j) hfo k j).2
theorem his (j : Nat) (d : D) (S : Store) (h : Tg d) : evC tab (j + 24) 12 [d] S = .ok (.bl (scn 5 d).isSome) S := by
  rw [ev_call (m := 1) (n := 1) (b := b12) rfl rfl]
  have := hco 5 j d S h
  rw [show ((5 : Nat) : Int) = 5 from rfl] at this
  simp [b12, this]
theorem his2 (j : Nat) (d : D) (S : Store) (h : Tg d) : evC tab (j + 14) 38 [d] S = .ok (.bl (scn 5 d).isSome) S := by
  rw [ev_call (m := 1) (n := 1) (b := b38) rfl rfl]
  have := hmn 5 j d S h
  rw [show ((5 : Nat) : Int) = 5 from rfl] at this
  have e := script_iff 5 d
  have e2 : decide (((mny 5 d : Nat) : Int) ≤ 200) = decide (mny 5 d ≤ 200) := by
    rw [decide_eq_decide]; omega
  simp [b38, this, -decide_eq_decide]
  rw [e2, e]
theorem hsw (j : Nat) : ShowOK 4 (evC tab (j + 5) 13) := show_ok (tab := tab) (g := 13) rfl (.inl fun _ => rfl) 4 j (Nat.le_refl _)
theorem hsl (j : Nat) : ShowOK 4 (evC tab (j + 5) 31) := show_ok (tab := tab) (g := 31) rfl (.inr fun _ => rfl) 4 j (Nat.le_refl _)
theorem hss (j : Nat) : SScrOK 5 (evC tab (j + 16) 16) :=
  showS_ok (tab := tab) (gs := 16) (gd := 15) rfl (fun _ => rfl) (shows_ok (tab := tab) (gp := 14) (gd := 15) (gw := 13) (FO := .kd FORMS) rfl rfl (fun _ => rfl) (fun _ => rfl) (fun _ _ _ h => ix_kd h) hsw 4 j).2
theorem hlt (j : Nat) : SScrOK 5 (evC tab (j + 10) 32) := lt_ok (tab := tab) (g := 32) (gf := 28) (gw := 31) (n := 5) rfl (fun _ => rfl) (fun j => hfo (j + 4)) hsl 5 j
theorem hov (j : Nat) : OverOK 0 (evC tab (j + 1) 19) := over_ok (tab := tab) (g := 19) rfl rfl
theorem hnx (j : Nat) : NextOK 0 (evC tab (j + 2) 20) := next_ok (tab := tab) (g := 20) (rz := sBad) rfl rfl (hov j)
theorem hat (j : Nat) : AtomOK (evC tab (j + 1) 17) := atom_ok (tab := tab) (g := 17) rfl rfl
theorem hbr (k j : Nat) : BrOK 0 k (evC tab (j + 2 + k + 1) 21) := br_ok (tab := tab) (g := 21) (go := 19) (gx := 20) (ga := 17) (EN := .kd ENDS) (rz := sBad) (nw := 1000000) rfl (fun _ => rfl) (by omega) (fun _ _ => notIn_ends) (fun _ _ _ h => ix_ends h) (fun j => hov (j + 1)) hnx (fun j => hat (j + 1)) k j
theorem hrd (j : Nat) : ReadOK (evC tab (j + 25) 22) :=
  read_ok (tab := tab) (g := 22) (k := j + 24) (ci := 0) (nw := 1000000) (rz := sBad) (ini := evC tab (j + 24) 18) (ov := evC tab (j + 24) 19) (me := evC tab (j + 24) 21) (iss := evC tab (j + 24) 12) (shs := evC tab (j + 24) 16) rfl rfl (by omega)
    (init_ok (tab := tab) (g := 18) rfl rfl) (hov (j + 23)) (hbr 13 (j + 8)) (fun d S n h t => by rw [his j d S t, h]; rfl) (hss (j + 8))
theorem scN_le {k : Nat} (h : k ≤ 4) : ScN k ≤ 50686249807 := by
  have : k = 0 ∨ k = 1 ∨ k = 2 ∨ k = 3 ∨ k = 4 := by omega
  rcases this with rfl | rfl | rfl | rfl | rfl <;> decide
/-- a script that isn't too long -/
structure Gd (d : D) : Prop where
  sc : (scn 5 d).isSome = true
  le : wt d ≤ 100000
  tg : Tg d
theorem Gd.pu {d : D} (h : Gd d) : Pu d := by
  obtain ⟨n, hn⟩ := Option.isSome_iff_exists.mp h.sc
  obtain ⟨⟨l, _, hl2, hl3⟩, _⟩ := rd_scn 5 n d hn
  obtain ⟨j, xs, _, rfl, _⟩ := scn_tup hn
  have hl2 : xs = l.map (·.2) := hl2
  rw [hl2]
  exact pu_tup.mpr fun d hd => by
    obtain ⟨q, hq, rfl⟩ := List.mem_map.mp hd
    exact (hl3 q hq).pu
/-- what is asked of a script -/
theorem asked {d : D} (h : Gd d) (T : Store) : ∃ z r1 r2, evC tab 59 32 [d] T = .ok (.str z) T ∧ evC tab 59 16 [d] T = .ok (.str z) T ∧ evC tab 59 22 [.str z] T = .ok d T ∧ reprC [.str z] T = .ok (.str r1) T ∧ reprC [d] T = .ok (.str r2) T ∧ neD d d T = .ok (.bl false) T := by
  obtain ⟨n, hn⟩ := Option.isSome_iff_exists.mp h.sc
  have hl := h.le
  have hy := scn_Yk hn
  exact ⟨txt (tkS 5 d), _, _, hlt 49 d T n hn (by omega), hss 43 d T n hn (by omega), hrd 34 d T n hn (by omega) h.tg, repr_txt hn (by omega), repr_Y (by omega) hy (by omega), neD_Y (by omega) hy⟩
/-- texts are alike just where the scripts are -/
theorem alike {d e : D} (h : Gd d) (h' : Gd e) (T : Store) : ∃ z y b, evC tab 59 16 [d] T = .ok (.str z) T ∧ evC tab 59 16 [e] T = .ok (.str y) T ∧ eqD d e T = .ok (.bl b) T ∧ decide (z = y) = b := by
  obtain ⟨n, hn⟩ := Option.isSome_iff_exists.mp h.sc
  obtain ⟨m, hm⟩ := Option.isSome_iff_exists.mp h'.sc
  have hl := h.le
  have hl' := h'.le
  obtain ⟨b, eb, hb⟩ := eqD_Y (k := 14) (by omega) (S := T) (scn_Yk hn) (scn_Yk hm)
  refine ⟨_, _, b, hss 43 d T n hn (by omega), hss 43 e T m hm (by omega), eb, ?_⟩
  rw [Bool.eq_iff_iff, hb, decide_eq_true_iff]
  constructor
  · intro q
    have r1 := hrd 34 d T n hn (by omega) h.tg
    have r2 := hrd 34 e T m hm (by omega) h'.tg
    rw [q, r2] at r1
    cases r1
    rfl
  · intro q
    rw [q]
/-- ahead of a round -/
def Io (ns : List Int) (xs : List D) (ds : Rk.Env) (S : Store) : Prop := ∃ c rest e2 e3 e4 e5 e6 e7, ds = [some (.rol (ns.map D.int)), some (.ref 0), e2, e3, e4, e5, e6, e7] ∧ S = c :: rest ∧ PnC c (xs.length * 60000000000)
theorem ans (ns : List Int) (hl : ns.length ≤ 63) (hb : ∀ z ∈ ns, PySem.Builtin.Int.intBits z ≤ 1048576) : ∃ S, evC tab 60 41 [.rol (ns.map D.int)] [] = .ok (.bl true) S := by
  suffices h : W (evC tab 60 41 [.rol (ns.map D.int)] []) (fun d _ => d = .bl true) by
    obtain ⟨d, S, e, rfl⟩ := W_ex h
    exact ⟨S, e⟩
  refine W_call (tab := tab) (g := 41) (k := 59) (m := 8) (n := 1) (keep := false) (b := b41) rfl rfl ?_
  have last : ∀ S : Store, W (fin false [] (.bl true) S) (fun d _ => d = .bl true) := fun S => by
    rw [fin_cut ⟨Nat.zero_le _, fun n hn => absurd hn (by simp)⟩ rfl]
    rfl
  unfold b41
  simp [pen_ok (tab := tab) (g := 23) (k := 58) rfl rfl]
  refine W_range1 (by omega) (by omega) ?_
  simp only [k_g, k_goT, k_for, WS_then]
  refine forL_inv (Io ns) _ ⟨_, [], _, _, _, _, _, _, rfl, rfl, pen_new (by rw [range_len]; decide)⟩ (fun x xs ds S' h => ?_) (fun ds S' h => ?_)
  · obtain ⟨c, rest, e2, e3, e4, e5, e6, e7, rfl, rfl, hc⟩ := h
    rw [List.length_cons] at hc
    refine ⟨trivial, _, rfl, ?_⟩
    simp
    refine W_draw (hdr 58) (m := xs.length * 60000000000 + 59000000000) ⟨c, rfl, hc.le (by omega)⟩ (by omega) (by omega) fun r0 c0 a1 a2 hc0 => ?_
    refine W_ixL a1 (by simpa using a2) fun L hL => ?_
    have hL' : ∃ l : Nat, L = .int l ∧ l ≤ 60 := by
      simp only [List.mem_cons, List.not_mem_nil, or_false] at hL
      rcases hL with rfl | rfl | rfl
      · exact ⟨3, rfl, by omega⟩
      · exact ⟨20, rfl, by omega⟩
      · exact ⟨60, rfl, by omega⟩
    obtain ⟨l, rfl, hl60⟩ := hL'
    have dk : dispK (c :: rest) [(Sum.inr (Str.ofString "left"), D.int l)] (c0 :: (rest ++ [C.dct []])) = .ok (.ref (rest.length + 1)) (c0 :: (rest ++ [planC l])) := by
      unfold dispK
      rw [if_pos (by simp)]
      simp [mergeD, putD, planC]
    simp [dk]
    refine W_draw (hdr 58) (m := xs.length * 60000000000 + 58000000000) ⟨c0, rfl, hc0.le (by omega)⟩ (by omega) (by omega) fun r1 c1 a3 a4 hc1 => ?_
    obtain ⟨k, rfl⟩ : ∃ k : Nat, r1 = k := ⟨r1.toNat, by omega⟩
    have hk4 : k ≤ 4 := by omega
    have hsn := scN_le hk4
    have hk1 : (1 : Int) + (k : Int) = ((k + 1 : Nat) : Int) := by omega
    simp [-Int.natCast_add, hk1]
    have hscr := hsc k (51 - 2 * k) (c1 :: (rest ++ [planC l])) 0 (rest.length + 1) (xs.length * 60000000000 + 100000) l ⟨c1, rfl, hc1.le (by omega)⟩ (by simp) (by omega) (by omega)
    rw [show 51 - 2 * k + 2 * k + 8 = 59 from by omega] at hscr
    refine W_dr2 hscr fun todo c2 L' hc2 hL2 hG => ?_
    obtain ⟨hG1, hG2, hGw⟩ := hG
    have hT : Th 20 12 todo = true := Th.mono (by omega) (by omega) hG2
    have hs5 := (hG1 5 (by omega)).1
    have tgt : Tg todo := ⟨12, Th.mono (by omega) (by omega) hT⟩
    have hw : wt todo ≤ 4802 := by omega
    have g1 : Gd todo := ⟨by rw [hs5]; rfl, by omega, tgt⟩
    generalize hrest : rest ++ [planC L'] = rest2
    have e1 : ((c1 :: (rest ++ [planC (l : Int)])).set 0 c2).set (rest.length + 1) (planC L') = c2 :: rest2 := by
      rw [← hrest]
      simp
    rw [e1]
    simp
    have hbb := hbe (n := 20) (by omega) (by omega) 12 44 (c2 :: rest2) 0 (xs.length * 60000000000 + 1000) 4802 todo hT hw ⟨c2, rfl, hc2.le (by omega)⟩
    refine W_dr hbb fun other c3 hc3 hO => ?_
    obtain ⟨hO1, hO2⟩ := hO
    have tgo : Tg other := ⟨_, Th.mono (by omega) (Nat.le_refl _) hO1⟩
    have j2 := his2 45 other (c3 :: rest2) tgo
    simp at j2
    -- the scripts that are asked
    have hsome : ∃ some_, mulD (.lst [other]) (.int (if (scn 5 other).isSome = true then 1 else 0)) (c3 :: rest2) = .ok (.lst some_) (c3 :: rest2) ∧ some_.length ≤ 1 ∧ (∀ d ∈ some_, Gd d) := by
      cases hso : (scn 5 other).isSome with
      | true =>
        refine ⟨[other], mul1, by simp, fun d hd => ?_⟩
        rw [List.mem_singleton.mp hd]
        exact ⟨hso, by omega, tgo⟩
      | false => exact ⟨[], mul0, by simp, fun d hd => by cases hd⟩
    obtain ⟨sm, m1, m2, m3⟩ := hsome
    have hsl : 1 + sm.length ≤ 16777216 := by omega
    simp [j2, m1, hsl]
    generalize hTT : c3 :: rest2 = T
    have hall : ∀ d ∈ todo :: sm, Gd d := fun d hd => by
      rcases List.mem_cons.mp hd with rfl | hd
      · exact g1
      · exact m3 d hd
    refine forL_inv (fun ys ds S' => S' = T ∧ ∃ e6 e7, ds = [some (.rol (ns.map D.int)), some (.ref 0), some x, some todo, some other, some (.lst (todo :: sm)), e6, e7] ∧ ∀ y ∈ ys, Gd y) _ ⟨rfl, e6, e7, rfl, hall⟩ (fun y ys ds S' h => ?_) (fun ds S' h => ?_)
    · obtain ⟨rfl, e6, e7, rfl, hy⟩ := h
      refine ⟨trivial, _, rfl, ?_⟩
      obtain ⟨z, r1, r2, i1, i2, i3, i4, i5, i6⟩ := asked (hy y List.mem_cons_self) S'
      simp [i1, i2, i3, i4, i5, i6, q16_0, q22_0]
      exact fun d hd => hy d (List.mem_cons_of_mem _ hd)
    · obtain ⟨rfl, e6, e7, rfl, hy⟩ := h
      refine ⟨trivial, ?_⟩
      have hend : ∃ d, ixD (.lst (todo :: sm)) (.int (-1)) S' = .ok d S' ∧ Gd d := by
        cases sm with
        | nil => exact ⟨todo, ix_lst rfl, g1⟩
        | cons a r =>
          cases r with
          | nil => exact ⟨a, ix_lst rfl, m3 a (by simp)⟩
          | cons b r => simp at m2
      obtain ⟨d, hd1, hd2⟩ := hend
      have h0 : ixD (.lst (todo :: sm)) (.int 0) S' = .ok todo S' := ix_lst (by simp [atI, ixN])
      obtain ⟨z, y, b, k1, k2, k3, k4⟩ := alike g1 hd2 S'
      have hneg : negD (.int 1) S' = .ok (.int (-1)) S' := rfl
      simp [h0, hneg, hd1, k1, k2, k3, k4]
      subst hTT
      exact ⟨c3, _, _, _, _, _, _, _, rfl, rfl, hc3.le (by omega)⟩
  · obtain ⟨c, rest, e2, e3, e4, e5, e6, e7, rfl, rfl, hc⟩ := h
    refine ⟨trivial, ?_⟩
    have g0 : Gd (.tup []) := ⟨rfl, by decide, ⟨1, rfl⟩⟩
    obtain ⟨z, r1, r2, i1, i2, i3, i4, i5, i6⟩ := asked g0 (c :: rest)
    have hz : z = Str.ofString "" := by
      have := hss 43 (.tup []) (c :: rest) 0 rfl (by decide)
      rw [i2] at this
      cases this
      rfl
    subst hz
    simp [i2, i3]
    exact last _
end K64

open PySem PySem.W PyProof.Rows
set_option maxRecDepth 100000 in
set_option maxHeartbeats 0 in
theorem PySem.Challenge.cw_rankloop_k64_scripts_written_and_read_holds : PySem.Challenge.rw_rankloop_k64_scripts_written_and_read.Holds := by
  w_on; o_law; k_head; (case hw => w_witness2)
  k_fill
  refine Rk.walk_rkJ (l := PySem.Challenge.rw_rankloop_k64_scripts_written_and_read) (n := 63) (tab := K64.tab) (k := 60) (j := 122) (g := 41) (x := "_law_cells") rfl (by decide) rfl ⟨rfl, by decide, by decide⟩ (ts := []) (fun w h Y => ⟨PySem.W.kIn_of Y, fun P hP => by cases hP⟩) ?F K64.ans
  case F =>
    intro w mg fa h KX TX G hmg
    refine' K64.tx_mk 60 KX G hmg ?cC0 ?pg0 ?dC0 ?po0 ?sa0 ?mC0 ?kC0 ?a0 ?l0 ?c0 ?k0 ?a1 ?l1 ?c1 ?k1 ?a2 ?l2 ?c2 ?k2 ?a3 ?l3 ?c3 ?k3 ?a4 ?l4 ?c4 ?k4 ?a5 ?l5 ?c5 ?k5 ?a6 ?l6 ?c6 ?k6 ?a7 ?l7 ?c7 ?k7 ?a8 ?l8 ?c8 ?k8 ?a9 ?l9 ?c9 ?k9 ?a10 ?l10 ?c10 ?k10 ?a11 ?l11 ?c11 ?k11 ?a12 ?l12 ?c12 ?k12 ?a13 ?l13 ?c13 ?k13 ?a14 ?l14 ?c14 ?k14 ?a15 ?l15 ?c15 ?k15 ?a16 ?l16 ?c16 ?k16 ?a17 ?l17 ?c17 ?k17 ?i18 ?a18 ?l18 ?c18 ?k18 ?i19 ?a19 ?l19 ?c19 ?k19 ?i20 ?a20 ?l20 ?c20 ?k20 ?i21 ?a21 ?l21 ?c21 ?k21 ?a22 ?l22 ?c22 ?k22 ?a23 ?l23 ?c23 ?k23 ?a24 ?l24 ?c24 ?k24 ?a25 ?l25 ?c25 ?k25 ?a26 ?l26 ?c26 ?k26 ?a27 ?l27 ?c27 ?k27 ?a28 ?l28 ?c28 ?k28 ?a29 ?l29 ?c29 ?k29 ?a30 ?l30 ?c30 ?k30 ?a31 ?l31 ?c31 ?k31 ?a32 ?l32 ?c32 ?k32 ?a33 ?l33 ?c33 ?k33 ?a34 ?l34 ?c34 ?k34 ?a35 ?l35 ?c35 ?k35 ?a36 ?l36 ?c36 ?k36 ?a37 ?l37 ?c37 ?k37 ?a38 ?l38 ?c38 ?k38 ?a39 ?l39 ?c39 ?k39 ?a40 ?l40 ?c40 ?k40 ?a41 ?l41 ?c41 ?k41 ?e_ENDS ?l_ENDS ?m_ENDS ?x_ENDS ?e_FIGURES ?e_FORMS ?l_FORMS ?m_FORMS ?x_FORMS ?e_GREATEST ?e_LAST_RANK ?e_LETTERS ?e_LONGEST_WORD ?e_LOOKS ?l_LOOKS ?m_LOOKS ?x_LOOKS ?e_MOST_BRACKETS ?e_MOST_DEEDS ?e_MOST_DEEP ?e_MOST_DELAY ?e_MOST_FIGURES ?e_MOST_IN_TUPLE ?e_MOST_NAMES ?e_MOST_NESTED ?e_NOTHING ?e_SCRIPTS ?z_all ?z_bool ?z_int ?z_isinstance ?z_len ?z_list ?z_max ?z_range ?z_repr ?z_str ?z_tuple ?z_zip ?n0_at ?n0_row
    case cC0 => k_is
    case pg0 => k_is
    case dC0 => k_is
    case po0 => k_is
    case sa0 => k_is
    case mC0 => k_is
    case kC0 => k_is
    case a0 => k_is
    case l0 => k_is
    case c0 => k_is
    case k0 => k_is
    case a1 => k_is
    case l1 => k_is
    case c1 => k_is
    case k1 => k_is
    case a2 => k_is
    case l2 => k_is
    case c2 => k_is
    case k2 => k_is
    case a3 => k_is
    case l3 => k_is
    case c3 => k_is
    case k3 => k_is
    case a4 => k_is
    case l4 => k_is
    case c4 => k_is
    case k4 => k_is
    case a5 => k_is
    case l5 => k_is
    case c5 => k_is
    case k5 => k_is
    case a6 => k_is
    case l6 => k_is
    case c6 => k_is
    case k6 => k_is
    case a7 => k_is
    case l7 => k_is
    case c7 => k_is
    case k7 => k_is
    case a8 => k_is
    case l8 => k_is
    case c8 => k_is
    case k8 => k_is
    case a9 => k_is
    case l9 => k_is
    case c9 => k_is
    case k9 => k_is
    case a10 => k_is
    case l10 => k_is
    case c10 => k_is
    case k10 => k_is
    case a11 => k_is
    case l11 => k_is
    case c11 => k_is
    case k11 => k_is
    case a12 => k_is
    case l12 => k_is
    case c12 => k_is
    case k12 => k_is
    case a13 => k_is
    case l13 => k_is
    case c13 => k_is
    case k13 => k_is
    case a14 => k_is
    case l14 => k_is
    case c14 => k_is
    case k14 => k_is
    case a15 => k_is
    case l15 => k_is
    case c15 => k_is
    case k15 => k_is
    case a16 => k_is
    case l16 => k_is
    case c16 => k_is
    case k16 => k_is
    case a17 => k_is
    case l17 => k_is
    case c17 => k_is
    case k17 => k_is
    case i18 => k_is
    case a18 => k_is
    case l18 => k_is
    case c18 => k_is
    case k18 => k_is
    case i19 => k_is
    case a19 => k_is
    case l19 => k_is
    case c19 => k_is
    case k19 => k_is
    case i20 => k_is
    case a20 => k_is
    case l20 => k_is
    case c20 => k_is
    case k20 => k_is
    case i21 => k_is
    case a21 => k_is
    case l21 => k_is
    case c21 => k_is
    case k21 => k_is
    case a22 => k_is
    case l22 => k_is
    case c22 => k_is
    case k22 => k_is
    case a23 => k_is
    case l23 => k_is
    case c23 => k_is
    case k23 => k_is
    case a24 => k_is
    case l24 => k_is
    case c24 => k_is
    case k24 => k_is
    case a25 => k_is
    case l25 => k_is
    case c25 => k_is
    case k25 => k_is
    case a26 => k_is
    case l26 => k_is
    case c26 => k_is
    case k26 => k_is
    case a27 => k_is
    case l27 => k_is
    case c27 => k_is
    case k27 => k_is
    case a28 => k_is
    case l28 => k_is
    case c28 => k_is
    case k28 => k_is
    case a29 => k_is
    case l29 => k_is
    case c29 => k_is
    case k29 => k_is
    case a30 => k_is
    case l30 => k_is
    case c30 => k_is
    case k30 => k_is
    case a31 => k_is
    case l31 => k_is
    case c31 => k_is
    case k31 => k_is
    case a32 => k_is
    case l32 => k_is
    case c32 => k_is
    case k32 => k_is
    case a33 => k_is
    case l33 => k_is
    case c33 => k_is
    case k33 => k_is
    case a34 => k_is
    case l34 => k_is
    case c34 => k_is
    case k34 => k_is
    case a35 => k_is
    case l35 => k_is
    case c35 => k_is
    case k35 => k_is
    case a36 => k_is
    case l36 => k_is
    case c36 => k_is
    case k36 => k_is
    case a37 => k_is
    case l37 => k_is
    case c37 => k_is
    case k37 => k_is
    case a38 => k_is
    case l38 => k_is
    case c38 => k_is
    case k38 => k_is
    case a39 => k_is
    case l39 => k_is
    case c39 => k_is
    case k39 => k_is
    case a40 => k_is
    case l40 => k_is
    case c40 => k_is
    case k40 => k_is
    case a41 => k_is
    case l41 => k_is
    case c41 => k_is
    case k41 => k_is
    case e_ENDS => k_is
    case l_ENDS => k_is
    case m_ENDS => decide
    case x_ENDS => exact ⟨⟨_, _, rfl, rfl, rfl, ⟨_, rfl⟩⟩, ⟨_, _, rfl, rfl, rfl, ⟨_, rfl⟩⟩, ⟨_, _, rfl, rfl, rfl, ⟨_, rfl⟩⟩, trivial⟩
    case e_FIGURES => k_is
    case e_FORMS => k_is
    case l_FORMS => k_is
    case m_FORMS => decide
    case x_FORMS => exact ⟨⟨_, _, rfl, rfl, rfl, ⟨_, rfl⟩⟩, ⟨_, _, rfl, rfl, rfl, ⟨_, rfl⟩⟩, ⟨_, _, rfl, rfl, rfl, ⟨_, rfl⟩⟩, ⟨_, _, rfl, rfl, rfl, ⟨_, rfl⟩⟩, ⟨_, _, rfl, rfl, rfl, ⟨_, rfl⟩⟩, ⟨_, _, rfl, rfl, rfl, ⟨_, rfl⟩⟩, ⟨_, _, rfl, rfl, rfl, ⟨_, rfl⟩⟩, ⟨_, _, rfl, rfl, rfl, ⟨_, rfl⟩⟩, ⟨_, _, rfl, rfl, rfl, ⟨_, rfl⟩⟩, ⟨_, _, rfl, rfl, rfl, ⟨_, rfl⟩⟩, ⟨_, _, rfl, rfl, rfl, ⟨_, rfl⟩⟩, ⟨_, _, rfl, rfl, rfl, ⟨_, rfl⟩⟩, ⟨_, _, rfl, rfl, rfl, ⟨_, rfl⟩⟩, ⟨_, _, rfl, rfl, rfl, ⟨_, rfl⟩⟩, ⟨_, _, rfl, rfl, rfl, ⟨_, rfl⟩⟩, ⟨_, _, rfl, rfl, rfl, ⟨_, rfl⟩⟩, ⟨_, _, rfl, rfl, rfl, ⟨_, rfl⟩⟩, ⟨_, _, rfl, rfl, rfl, ⟨_, rfl⟩⟩, ⟨_, _, rfl, rfl, rfl, ⟨_, rfl⟩⟩, ⟨_, _, rfl, rfl, rfl, ⟨_, rfl⟩⟩, ⟨_, _, rfl, rfl, rfl, ⟨_, rfl⟩⟩, ⟨_, _, rfl, rfl, rfl, ⟨_, rfl⟩⟩, ⟨_, _, rfl, rfl, rfl, ⟨_, rfl⟩⟩, ⟨_, _, rfl, rfl, rfl, ⟨_, rfl⟩⟩, ⟨_, _, rfl, rfl, rfl, ⟨_, rfl⟩⟩, ⟨_, _, rfl, rfl, rfl, ⟨_, rfl⟩⟩, ⟨_, _, rfl, rfl, rfl, ⟨_, rfl⟩⟩, ⟨_, _, rfl, rfl, rfl, ⟨_, rfl⟩⟩, ⟨_, _, rfl, rfl, rfl, ⟨_, rfl⟩⟩, ⟨_, _, rfl, rfl, rfl, ⟨_, rfl⟩⟩, trivial⟩
    case e_GREATEST => k_is
    case e_LAST_RANK => k_is
    case e_LETTERS => k_is
    case e_LONGEST_WORD => k_is
    case e_LOOKS => k_is
    case l_LOOKS => k_is
    case m_LOOKS => decide
    case x_LOOKS => exact ⟨⟨_, _, rfl, rfl, rfl, rfl⟩, ⟨_, _, rfl, rfl, rfl, rfl⟩, ⟨_, _, rfl, rfl, rfl, rfl⟩, ⟨_, _, rfl, rfl, rfl, rfl⟩, ⟨_, _, rfl, rfl, rfl, rfl⟩, ⟨_, _, rfl, rfl, rfl, rfl⟩, ⟨_, _, rfl, rfl, rfl, rfl⟩, trivial⟩
    case e_MOST_BRACKETS => k_is
    case e_MOST_DEEDS => k_is
    case e_MOST_DEEP => k_is
    case e_MOST_DELAY => k_is
    case e_MOST_FIGURES => k_is
    case e_MOST_IN_TUPLE => k_is
    case e_MOST_NAMES => k_is
    case e_MOST_NESTED => k_is
    case e_NOTHING => k_is
    case e_SCRIPTS => k_is
    case z_all => k_is
    case z_bool => k_is
    case z_int => k_is
    case z_isinstance => k_is
    case z_len => k_is
    case z_list => k_is
    case z_max => k_is
    case z_range => k_is
    case z_repr => k_is
    case z_str => k_is
    case z_tuple => k_is
    case z_zip => k_is
    case n0_at => k_is
    case n0_row => k_is

