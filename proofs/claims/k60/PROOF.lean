import PyProof.Rows.All
import Wide.All
import OpenK.AllK
import Wide.FinOn
import HandS.ForMost
import HandS.ForExc
import HandS.Defaults
import KE.KEqNest
import HandS.TupAny
import HandS.Style
import HandS.IsInst
import HandS.Codes
import HandS.Text
import HandS.WordsDict
import HandS.WordsList
import HandS.RaiseMore
import HandS.Small
import HandS.DictTup
import HandS.More
import HandS.Exc
import HandS.ExcOwn
import HandS.DictComp
import HandS.HeadEnd
import HandS.Iter
import KE.GoesEnum
import KE.GoesEnumKw
import HandS.SortKw
import HandS.Comp
import HandS.Ends
import HandS.HeadHook2
import HandS.HeadHook3
import KE.DataMinMax
import PySem.Challenge.RW_scopeeffect_k60_observations_explained
import HandS.Head0
import HandS.Head1
import HandS.Head2
section
set_option Elab.async false
set_option linter.all false
set_option maxRecDepth 100000
set_option maxHeartbeats 4000000
/-! Za: tree values, what they stand for, outcomes. -/
namespace Z
open PySem PySem.Spec PyProof.Rows L2

/-- a tree value; cel i: the i-th mutable cell; ob x: the module's object of this name; fz: a list that is only read (the script) -/
inductive T where
  | non
  | bl (b : Bool)
  | int (i : Int)
  | str (x : Str)
  | ty (n : String)
  | ob (x : Str)
  | tup (xs : List T)
  | lst (xs : List T)
  | dct (kvs : List (Str × T))
  | ins (c : Str) (fs : List (Str × T))
  | cel (i : Nat)
  | fz (xs : List T)

/-- a mutable cell: gone, standing, or locked while a loop walks it -/
inductive Cell where
  | dead
  | live (t : T)
  | lock (t : T)

abbrev Mem := List Cell
abbrev Sg := List (Option T)
abbrev Mu := List (Option Addr)

/-- K: the module behind the top; ga: its names' objects; hid: the cells of those who called -/
structure Cfg where
  K : PySem.W.Frag
  ga : Str → Addr
  hid : Addr → Prop
/-- nobody's cell -/
def Av (C : Cfg) (mu : Mu) (a : Addr) : Prop := some a ∉ mu ∧ ¬ C.hid a

/-- what stands at a is read as u: tracked and nobody's cell, or an object of the module -/
def FL (C : Cfg) (mu : Mu) (H : Hp) (a : Addr) (vs : List V) : Prop := H a = some (.lst vs) ∧ Av C mu a
def FT (C : Cfg) (mu : Mu) (H : Hp) (a : Addr) (vs : List V) : Prop :=
  (H a = some (.tup vs) ∧ Av C mu a) ∨
    ∃ (o : Obj) (its : Array Value) (n : Nat), C.K.lookup a = some o ∧ o.cls = .type "tuple" ∧ o.data = .seq its n ∧ its.size ≤ sizeLine ∧ Vals vs its.toList
def FO (C : Cfg) (mu : Mu) (H : Hp) (a : Addr) (u : HO) : Prop := Rd H a u ∧ Av C mu a

theorem FL.sq {C : Cfg} {mu : Mu} {H : Hp} {a : Addr} {vs : List V} (h : FL C mu H a vs) : SqL C.K H a vs := .inl (.inl h.1)
theorem FT.sq {C : Cfg} {mu : Mu} {H : Hp} {a : Addr} {vs : List V} (h : FT C mu H a vs) : SqT C.K H a vs := by
  rcases h with h | h
  · exact .inl (.inl h.1)
  · exact .inr h

mutual
inductive Rep (C : Cfg) (mu : Mu) (H : Hp) : T → V → Prop
  | non : Rep C mu H .non .non
  | bl (b : Bool) : Rep C mu H (.bl b) (.bl b)
  | int (i : Int) : Rep C mu H (.int i) (.int i)
  | str (x : Str) : Rep C mu H (.str x) (.str x)
  | ty (n : String) : Rep C mu H (.ty n) (.ty n)
  | ob (x : Str) : Rep C mu H (.ob x) (.ref (C.ga x))
  | tup {xs : List T} {a : Addr} {vs : List V} : FT C mu H a vs → RepL C mu H xs vs → Rep C mu H (.tup xs) (.ref a)
  | lst {xs : List T} {a : Addr} {vs : List V} : FL C mu H a vs → RepL C mu H xs vs → Rep C mu H (.lst xs) (.ref a)
  | dct {kvs : List (Str × T)} {a : Addr} {ws : List (Key × V)} : FO C mu H a (.dK ws) → RepD C mu H kvs ws → Rep C mu H (.dct kvs) (.ref a)
  | ins {c : Str} {fs : List (Str × T)} {a dx : Addr} {ws : List (Str × V)} : FO C mu H a (.ins (C.ga c) dx ws) → RepF C mu H fs ws → Rep C mu H (.ins c fs) (.ref a)
  | fz {xs : List T} {a : Addr} {o : Obj} {vs : List V} : H a = some (.frz o (.lst vs)) ∧ Av C mu a → RepL C mu H xs vs → Rep C mu H (.fz xs) (.ref a)
  | cel {i : Nat} {v : V} : i < mu.length → (∀ a, mu[i]? = some (some a) → v = .ref a) → Rep C mu H (.cel i) v
inductive RepL (C : Cfg) (mu : Mu) (H : Hp) : List T → List V → Prop
  | nil : RepL C mu H [] []
  | cons {t : T} {v : V} {ts : List T} {vs : List V} : Rep C mu H t v → RepL C mu H ts vs → RepL C mu H (t :: ts) (v :: vs)
inductive RepD (C : Cfg) (mu : Mu) (H : Hp) : List (Str × T) → List (Key × V) → Prop
  | nil : RepD C mu H [] []
  | cons {k : Str} {t : T} {v : V} {ts : List (Str × T)} {vs : List (Key × V)} : Rep C mu H t v → RepD C mu H ts vs → RepD C mu H ((k, t) :: ts) ((.inr k, v) :: vs)
inductive RepF (C : Cfg) (mu : Mu) (H : Hp) : List (Str × T) → List (Str × V) → Prop
  | nil : RepF C mu H [] []
  | cons {k : Str} {t : T} {v : V} {ts : List (Str × T)} {vs : List (Str × V)} : Rep C mu H t v → RepF C mu H ts vs → RepF C mu H ((k, t) :: ts) ((k, v) :: vs)
end

/-- what no reading turns into something else -/
def noD : HO → Bool
  | .dK _ => false
  | _ => true
/-! ### from one state to a later one: nothing that is read goes away (a dict may be locked) -/
structure Ext (C : Cfg) (mu : Mu) (H : Hp) (mu' : Mu) (H' : Hp) : Prop where
  len : mu.length ≤ mu'.length
  keep : ∀ (i : Nat) (a : Addr), i < mu.length → mu'[i]? = some (some a) → mu[i]? = some (some a)
  rd : ∀ (a : Addr) (u : HO), Rd H a u → some a ∉ mu → Rd H' a u
  obj : ∀ (a : Addr) (o : HO), H a = some o → some a ∉ mu → noD o = true → H' a = some o
  hid : ∀ (a : Addr) (o : HO), H a = some o → some a ∉ mu → C.hid a → H' a = some o
  own : ∀ (a : Addr) (o : HO), H a = some o → some a ∉ mu → some a ∉ mu'
theorem Rd.some_ {H : Hp} {a : Addr} {u : HO} (h : Rd H a u) : ∃ o, H a = some o := by
  rcases h with h | ⟨o, h⟩
  · exact ⟨_, h⟩
  · exact ⟨_, h⟩
section
variable {C : Cfg} {mu mu1 mu2 mu' : Mu} {H H1 H2 H' : Hp} {a p : Addr} {o u : HO}
theorem Ext.refl : Ext C mu H mu H := ⟨Nat.le_refl _, fun _ _ _ h => h, fun _ _ h _ => h, fun _ _ h _ _ => h, fun _ _ h _ _ => h, fun _ _ _ h => h⟩
theorem Ext.trans (x : Ext C mu H mu1 H1) (y : Ext C mu1 H1 mu2 H2) : Ext C mu H mu2 H2 where
  len := Nat.le_trans x.len y.len
  keep := fun i a h q => x.keep i a h (y.keep i a (Nat.lt_of_lt_of_le h x.len) q)
  rd := fun a u h n => let ⟨o, e⟩ := Rd.some_ h; y.rd a u (x.rd a u h n) (x.own a o e n)
  obj := fun a o h n d => y.obj a o (x.obj a o h n d) (x.own a o h n) d
  hid := fun a o h n d => y.hid a o (x.hid a o h n d) (x.own a o h n) d
  own := fun a o h n => let ⟨o', e⟩ := Rd.some_ (x.rd a o (.inl h) n); y.own a o' e (x.own a o h n)
theorem Ext.rx (x : Ext C mu H mu1 H1) : Ext C mu H mu1 H1 := x
theorem Ext.av (x : Ext C mu H mu1 H1) (h : H a = some o) (n : Av C mu a) : Av C mu1 a := ⟨x.own a o h n.1, n.2⟩
theorem Ext.avR (x : Ext C mu H mu1 H1) (h : Rd H a u) (n : Av C mu a) : Av C mu1 a := let ⟨_, e⟩ := Rd.some_ h; x.av e n
theorem Ext.new (h : H p = none) : Ext C mu H mu (upd H p o) := by
  have k : ∀ a q, H a = some q → upd H p o a = some q := fun a q e => by rw [upd_ne (ne_of_none e h)]; exact e
  refine ⟨Nat.le_refl _, fun _ _ _ h => h, fun a u r _ => ?_, fun a q e _ _ => k a q e, fun a q e _ _ => k a q e, fun _ _ _ n => n⟩
  rcases r with r | ⟨o', r⟩
  · exact .inl (k _ _ r)
  · exact .inr ⟨o', k _ _ r⟩
theorem Ext.cell (h : H p = none) : Ext C mu H (mu ++ [some p]) (upd H p o) := by
  have k : ∀ a q, H a = some q → upd H p o a = some q := fun a q e => by rw [upd_ne (ne_of_none e h)]; exact e
  refine ⟨by simp, fun i a hi q => by rw [List.getElem?_append_left hi] at q; exact q, fun a u r _ => ?_, fun a q e _ _ => k a q e, fun a q e _ _ => k a q e, fun a q e n z => ?_⟩
  · rcases r with r | ⟨o', r⟩
    · exact .inl (k _ _ r)
    · exact .inr ⟨o', k _ _ r⟩
  · rcases List.mem_append.mp z with z | z
    · exact n z
    · have e2 : a = p := by simpa using z
      rw [e2, h] at e; cases e
theorem Ext.write (hm : some a ∈ mu) : Ext C mu H mu (upd H a o) := by
  have k : ∀ b q, H b = some q → some b ∉ mu → upd H a o b = some q := fun b q e n => by rw [upd_ne (fun z => by subst z; exact n hm)]; exact e
  refine ⟨Nat.le_refl _, fun _ _ _ h => h, fun b u r n => ?_, fun b q e n _ => k b q e n, fun b q e n _ => k b q e n, fun _ _ _ n => n⟩
  rcases r with r | ⟨o', r⟩
  · exact .inl (k _ _ r n)
  · exact .inr ⟨o', k _ _ r n⟩
/-- a dict that is nobody's cell is locked -/
theorem Ext.lock {od : Obj} {ws : List (Key × V)} (h : H a = some (.dK ws)) (n : ¬ C.hid a) : Ext C mu H mu (upd H a (.frz od (.dK ws))) := by
  have k : ∀ b q, H b = some q → b ≠ a → upd H a (.frz od (.dK ws)) b = some q := fun b q e z => by rw [upd_ne z]; exact e
  refine ⟨Nat.le_refl _, fun _ _ _ h => h, fun b u r _ => ?_, fun b q e _ d => ?_, fun b q e _ d => ?_, fun _ _ _ n => n⟩
  · by_cases z : b = a
    · subst z
      rcases r with r | ⟨o', r⟩
      · rw [h] at r; cases r; exact .inr ⟨od, upd_same⟩
      · rw [h] at r; cases r
    · rcases r with r | ⟨o', r⟩
      · exact .inl (k _ _ r z)
      · exact .inr ⟨o', k _ _ r z⟩
  · refine k b q e fun z => ?_
    subst z; rw [h] at e; cases e; cases d
  · exact k b q e fun z => by subst z; exact n d
mutual
theorem Rep.mono (e : Ext C mu H mu' H') : ∀ {t : T} {v : V}, Rep C mu H t v → Rep C mu' H' t v
  | _, _, .non => .non
  | _, _, .bl b => .bl b
  | _, _, .int i => .int i
  | _, _, .str x => .str x
  | _, _, .ty n => .ty n
  | _, _, .ob x => .ob x
  | _, _, .tup h r => .tup (h.elim (fun q => .inl ⟨e.obj _ _ q.1 q.2.1 rfl, e.av q.1 q.2⟩) .inr) (RepL.mono e r)
  | _, _, .lst h r => .lst ⟨e.obj _ _ h.1 h.2.1 rfl, e.av h.1 h.2⟩ (RepL.mono e r)
  | _, _, .fz h r => .fz ⟨e.obj _ _ h.1 h.2.1 rfl, e.av h.1 h.2⟩ (RepL.mono e r)
  | _, _, .dct h r => .dct ⟨e.rd _ _ h.1 h.2.1, e.avR h.1 h.2⟩ (RepD.mono e r)
  | _, _, .ins h r => .ins ⟨e.rd _ _ h.1 h.2.1, e.avR h.1 h.2⟩ (RepF.mono e r)
  | _, _, .cel h q => .cel (Nat.lt_of_lt_of_le h e.len) fun a k => q a (e.keep _ a h k)
theorem RepL.mono (e : Ext C mu H mu' H') : ∀ {t : List T} {v : List V}, RepL C mu H t v → RepL C mu' H' t v
  | _, _, .nil => .nil
  | _, _, .cons h r => .cons (Rep.mono e h) (RepL.mono e r)
theorem RepD.mono (e : Ext C mu H mu' H') : ∀ {t : List (Str × T)} {v : List (Key × V)}, RepD C mu H t v → RepD C mu' H' t v
  | _, _, .nil => .nil
  | _, _, .cons h r => .cons (Rep.mono e h) (RepD.mono e r)
theorem RepF.mono (e : Ext C mu H mu' H') : ∀ {t : List (Str × T)} {v : List (Str × V)}, RepF C mu H t v → RepF C mu' H' t v
  | _, _, .nil => .nil
  | _, _, .cons h r => .cons (Rep.mono e h) (RepF.mono e r)
end
end

/-- a cell's content -/
def CU (C : Cfg) (mu : Mu) (H : Hp) : T → HO → Prop
  | .lst xs, .lst vs => RepL C mu H xs vs
  | .dct kvs, .dK ws => RepD C mu H kvs ws
  | .ins c fs, .ins A _ ws => A = C.ga c ∧ RepF C mu H fs ws
  | _, _ => False
theorem CU.mono {C : Cfg} {mu mu' : Mu} {H H' : Hp} (e : Ext C mu H mu' H') : ∀ {t : T} {u : HO}, CU C mu H t u → CU C mu' H' t u := fun {t u} h => by
  unfold CU at h ⊢
  split at h
  · exact RepL.mono e h
  · exact RepD.mono e h
  · exact ⟨h.1, RepF.mono e h.2⟩
  · exact h.elim
theorem CU.nofrz {C : Cfg} {mu : Mu} {H : Hp} {t : T} {u : HO} (h : CU C mu H t u) : ∀ ob q, u ≠ .frz ob q := fun ob q e => by
  subst e
  unfold CU at h
  split at h <;> first | exact h.elim | (rename_i e; cases e)
theorem CU.mut {C : Cfg} {mu : Mu} {H : Hp} {t : T} {u : HO} (h : CU C mu H t u) : Mut (some u) := by
  unfold CU at h
  split at h <;> first | exact h.elim | trivial

structure RM (C : Cfg) (mu : Mu) (M : Mem) (H : Hp) : Prop where
  len : mu.length = M.length
  cell : ∀ (i : Nat) (t : T), M[i]? = some (.live t) → ∃ a u, mu[i]? = some (some a) ∧ H a = some u ∧ CU C mu H t u
  lock : ∀ (i : Nat) (t : T), M[i]? = some (.lock t) → ∃ a od u, mu[i]? = some (some a) ∧ H a = some (.frz od u) ∧ CU C mu H t u
  dead : ∀ i : Nat, M[i]? = some .dead → mu[i]? = some none
  inj : ∀ (i j : Nat) (a : Addr), mu[i]? = some (some a) → mu[j]? = some (some a) → i = j
  hid : ∀ a : Addr, C.hid a → ∃ o, H a = some o
  nh : ∀ a : Addr, some a ∈ mu → ¬ C.hid a
section
variable {C : Cfg} {mu mu' : Mu} {M : Mem} {H H' : Hp} {p a : Addr} {u : HO} {o : HO} {t t' : T} {i : Nat}
theorem RM.nil (h : ∀ a : Addr, C.hid a → ∃ o, H a = some o) : RM C [] [] H := ⟨rfl, fun _ _ h => by simp at h, fun _ _ h => by simp at h, fun _ h => by simp at h, fun _ _ _ h => by simp at h, h, fun _ h => by simp at h⟩
/-- every address of a cell is tracked -/
theorem RM.there (R : RM C mu M H) (h : mu[i]? = some (some a)) : ∃ o, H a = some o := by
  have hi : i < M.length := by rw [← R.len]; exact (List.getElem?_eq_some_iff.mp h).1
  cases e : M[i]? with
  | none => rw [List.getElem?_eq_none_iff] at e; omega
  | some c =>
    cases c with
    | dead => rw [R.dead i e] at h; cases h
    | live t => obtain ⟨b, u, h1, h2, _⟩ := R.cell i t e; rw [h] at h1; cases h1; exact ⟨_, h2⟩
    | lock t => obtain ⟨b, od, u, h1, h2, _⟩ := R.lock i t e; rw [h] at h1; cases h1; exact ⟨_, h2⟩
theorem RM.mem (R : RM C mu M H) (h : some a ∈ mu) : ∃ o, H a = some o := by
  obtain ⟨i, hi⟩ := List.getElem?_of_mem h
  exact R.there hi
/-- .. so a new address is no cell's -/
theorem RM.fresh (R : RM C mu M H) (h : H p = none) : some p ∉ mu := fun z => by
  obtain ⟨o, e⟩ := R.mem z
  rw [h] at e; cases e
theorem RM.freshAv (R : RM C mu M H) (h : H p = none) : Av C mu p := ⟨R.fresh h, fun z => by
  obtain ⟨o, e⟩ := R.hid p z
  rw [h] at e; cases e⟩
/-- nothing that the cells lean on has changed -/
theorem RM.keep (R : RM C mu M H) (e : Ext C mu H mu H') (k : ∀ a o, some a ∈ mu → H a = some o → H' a = some o) : RM C mu M H' :=
  ⟨R.len, fun i t h => let ⟨a, u, h1, h2, h3⟩ := R.cell i t h; ⟨a, u, h1, k a u (List.mem_of_getElem? h1) h2, h3.mono e⟩,
    fun i t h => let ⟨a, od, u, h1, h2, h3⟩ := R.lock i t h; ⟨a, od, u, h1, k a _ (List.mem_of_getElem? h1) h2, h3.mono e⟩, R.dead, R.inj,
    fun a h => let ⟨o, q⟩ := R.hid a h; ⟨o, e.hid a o q (fun z => R.nh a z h) h⟩, R.nh⟩
theorem RM.new (R : RM C mu M H) (h : H p = none) : RM C mu M (upd H p o) :=
  R.keep (Ext.new h) fun a q _ e => by rw [upd_ne (ne_of_none e h)]; exact e
theorem RM.lockD {od : Obj} {ws : List (Key × V)} (R : RM C mu M H) (h : H a = some (.dK ws)) (n : Av C mu a) : RM C mu M (upd H a (.frz od (.dK ws))) :=
  R.keep (Ext.lock h n.2) fun b q hb e => by rw [upd_ne (fun z => by subst z; exact n.1 hb)]; exact e
theorem RM.alloc (R : RM C mu M H) (h : H p = none) (c : CU C mu H t u) : RM C (mu ++ [some p]) (M ++ [.live t]) (upd H p u) := by
  have e : Ext C mu H (mu ++ [some p]) (upd H p u) := Ext.cell h
  have nf : some p ∉ mu := R.fresh h
  have lem : ∀ (i : Nat) (x : Cell), (M ++ [Cell.live t])[i]? = some x → (M[i]? = some x) ∨ (i = M.length ∧ x = .live t) := fun i x q => by
    by_cases hi : i < M.length
    · rw [List.getElem?_append_left hi] at q; exact .inl q
    · rw [List.getElem?_append_right (Nat.le_of_not_lt hi)] at q
      by_cases h0 : i - M.length = 0
      · rw [h0] at q
        have q' : Cell.live t = x := by simpa using q
        exact .inr ⟨by omega, q'.symm⟩
      · have : ([Cell.live t] : List Cell)[i - M.length]? = none := by rw [List.getElem?_eq_none_iff]; simp; omega
        rw [this] at q; cases q
  have old : ∀ (i : Nat) (a : Option Addr), mu[i]? = some a → (mu ++ [some p])[i]? = some a := fun i a q => by
    rw [List.getElem?_append_left (List.getElem?_eq_some_iff.mp q).1]; exact q
  have ne : ∀ b q, H b = some q → upd H p u b = some q := fun b q e => by rw [upd_ne (ne_of_none e h)]; exact e
  refine ⟨by simp [R.len], fun i t' q => ?_, fun i t' q => ?_, fun i q => ?_, fun i j b h1 h2 => ?_, fun a ha => ?_, fun a ha hh => ?_⟩
  · rcases lem i _ q with q | ⟨ei, q⟩
    · obtain ⟨b, w', h1, h2, h3⟩ := R.cell i t' q
      exact ⟨b, w', old _ _ h1, ne _ _ h2, h3.mono e⟩
    · injection q with q
      subst q
      exact ⟨p, u, by rw [ei, ← R.len]; simp, upd_same, c.mono e⟩
  · rcases lem i _ q with q | ⟨_, q⟩
    · obtain ⟨b, od, w', h1, h2, h3⟩ := R.lock i t' q
      exact ⟨b, od, w', old _ _ h1, ne _ _ h2, h3.mono e⟩
    · cases q
  · rcases lem i _ q with q | ⟨_, q⟩
    · exact old _ _ (R.dead i q)
    · cases q
  · have cas : ∀ (i : Nat), (mu ++ [some p])[i]? = some (some b) → mu[i]? = some (some b) ∨ (i = mu.length ∧ b = p) := fun i q => by
      by_cases hi : i < mu.length
      · rw [List.getElem?_append_left hi] at q; exact .inl q
      · rw [List.getElem?_append_right (Nat.le_of_not_lt hi)] at q
        by_cases h0 : i - mu.length = 0
        · rw [h0] at q
          have q' : p = b := by simpa using q
          exact .inr ⟨by omega, q'.symm⟩
        · have : ([some p] : List (Option Addr))[i - mu.length]? = none := by rw [List.getElem?_eq_none_iff]; simp; omega
          rw [this] at q; cases q
    rcases cas i h1 with h1 | ⟨h1, e1⟩
    · rcases cas j h2 with h2 | ⟨h2, e2⟩
      · exact R.inj i j b h1 h2
      · rw [e2] at h1; exact absurd (List.mem_of_getElem? h1) nf
    · rcases cas j h2 with h2 | ⟨h2, e2⟩
      · rw [e1] at h2; exact absurd (List.mem_of_getElem? h2) nf
      · omega
  · obtain ⟨o, q⟩ := R.hid a ha
    exact ⟨o, ne _ _ q⟩
  · rcases List.mem_append.mp ha with z | z
    · exact R.nh a z hh
    · have e2 : a = p := by simpa using z
      subst e2
      exact (R.freshAv h).2 hh
/-- a cell is written -/
theorem RM.write (R : RM C mu M H) (hi : M[i]? = some (.live t)) (ha : mu[i]? = some (some a)) (c : CU C mu H t' u) : RM C mu (M.set i (.live t')) (upd H a u) ∧ Ext C mu H mu (upd H a u) := by
  obtain ⟨b, w0, h1, h2, h3⟩ := R.cell i t hi
  rw [ha] at h1; cases h1
  have E : Ext C mu H mu (upd H a u) := Ext.write (List.mem_of_getElem? ha)
  have ne : ∀ j b, j ≠ i → mu[j]? = some (some b) → b ≠ a := fun j b hj q z => hj (R.inj j i a (z ▸ q) ha)
  refine ⟨⟨by simpa using R.len, fun j t2 q => ?_, fun j t2 q => ?_, fun j q => ?_, R.inj, fun b hb => ?_, R.nh⟩, E⟩
  · by_cases hj : j = i
    · subst hj
      rw [List.getElem?_set_self (List.getElem?_eq_some_iff.mp hi).1] at q
      cases q
      exact ⟨a, u, ha, upd_same, c.mono E.rx⟩
    · rw [List.getElem?_set_ne (Ne.symm hj)] at q
      obtain ⟨b, w', h1, h2, h3⟩ := R.cell j t2 q
      exact ⟨b, w', h1, by rw [upd_ne (ne j b hj h1)]; exact h2, h3.mono E.rx⟩
  · by_cases hj : j = i
    · subst hj
      rw [List.getElem?_set_self (List.getElem?_eq_some_iff.mp hi).1] at q
      cases q
    · rw [List.getElem?_set_ne (Ne.symm hj)] at q
      obtain ⟨b, od, w', h1, h2, h3⟩ := R.lock j t2 q
      exact ⟨b, od, w', h1, by rw [upd_ne (ne j b hj h1)]; exact h2, h3.mono E.rx⟩
  · by_cases hj : j = i
    · subst hj
      rw [List.getElem?_set_self (List.getElem?_eq_some_iff.mp hi).1] at q
      cases q
    · rw [List.getElem?_set_ne (Ne.symm hj)] at q
      exact R.dead j q
  · obtain ⟨o, q⟩ := R.hid b hb
    exact ⟨o, E.hid b o q (fun z => R.nh b z hb) hb⟩
end

/-! ### the slots -/
structure RS (C : Cfg) (mu : Mu) (H : Hp) (s : Sg) (σ : L2.St) : Prop where
  len : s.length = σ.length
  at_ : ∀ (i : Nat) (t : T), s[i]? = some (some t) → ∃ v, σ[i]? = some (some v) ∧ Rep C mu H t v
theorem RS.mono {C : Cfg} {mu mu' : Mu} {H H' : Hp} {s : Sg} {σ : L2.St} (R : RS C mu H s σ) (e : Ext C mu H mu' H') : RS C mu' H' s σ :=
  ⟨R.len, fun i t h => let ⟨v, a, b⟩ := R.at_ i t h; ⟨v, a, b.mono e⟩⟩
theorem RS.set {C : Cfg} {mu : Mu} {H : Hp} {s : Sg} {σ : L2.St} {t : T} {v : V} (R : RS C mu H s σ) (i : Nat) (r : Rep C mu H t v) : RS C mu H (s.set i (some t)) (σ.set i (some v)) := by
  refine ⟨by simpa using R.len, fun j t2 h => ?_⟩
  by_cases hj : j = i
  · subst hj
    have hl : j < s.length := by
      have := (List.getElem?_eq_some_iff.mp h).1
      simpa using this
    rw [List.getElem?_set_self hl] at h
    cases h
    exact ⟨v, by rw [List.getElem?_set_self (by rw [← R.len]; exact hl)], r⟩
  · rw [List.getElem?_set_ne (Ne.symm hj)] at h ⊢
    exact R.at_ j t2 h
theorem RS.wipe {C : Cfg} {mu : Mu} {H : Hp} {s : Sg} {σ : L2.St} (R : RS C mu H s σ) (i : Nat) : RS C mu H (s.set i none) (σ.set i none) := by
  refine ⟨by simpa using R.len, fun j t2 h => ?_⟩
  by_cases hj : j = i
  · subst hj
    have hl : j < s.length := by
      have := (List.getElem?_eq_some_iff.mp h).1
      simpa using this
    rw [List.getElem?_set_self hl] at h
    cases h
  · rw [List.getElem?_set_ne (Ne.symm hj)] at h ⊢
    exact R.at_ j t2 h
/-- knowing less -/
theorem RS.less {C : Cfg} {mu : Mu} {H : Hp} {s s' : Sg} {σ : L2.St} (R : RS C mu H s σ) (hl : s'.length = s.length) (h : ∀ (i : Nat) (t : T), s'[i]? = some (some t) → s[i]? = some (some t)) : RS C mu H s' σ :=
  ⟨hl.trans R.len, fun i t q => R.at_ i t (h i t q)⟩

/-! ### outcomes -/
/-- an exception: its class, its attributes -/
structure Er where
  cls : Str
  fs : List (Str × T)
inductive Out (α : Type) where
  | ok (a : α) (M : Mem)
  | er (e : Er) (M : Mem)
  | no
def Out.bind {α β : Type} (o : Out α) (f : α → Mem → Out β) : Out β := match o with
  | .ok a M => f a M
  | .er e M => .er e M
  | .no => .no
@[simp] theorem bind_ok {α β : Type} (a : α) (M : Mem) (f : α → Mem → Out β) : (Out.ok a M).bind f = f a M := rfl
@[simp] theorem bind_er {α β : Type} (e : Er) (M : Mem) (f : α → Mem → Out β) : (Out.er e M).bind f = .er e M := rfl
@[simp] theorem bind_no {α β : Type} (f : α → Mem → Out β) : (Out.no : Out α).bind f = .no := rfl
inductive OutS where
  | nx (s : Sg) (M : Mem)
  | rt (t : T) (M : Mem)
  | bk (s : Sg) (M : Mem)
  | ct (s : Sg) (M : Mem)
  | er (e : Er) (s : Sg) (M : Mem)
  | no
def RepE (C : Cfg) (mu : Mu) (H : Hp) (e : Er) (c : Value) (d : Option Addr) : Prop :=
  c = .ref (C.ga e.cls) ∧ ∃ a ws, d = some a ∧ H a = some (.xd ws) ∧ Av C mu a ∧ RepF C mu H e.fs ws
theorem RepE.mono {C : Cfg} {mu mu' : Mu} {H H' : Hp} {e : Er} {c : Value} {d : Option Addr} (h : RepE C mu H e c d) (x : Ext C mu H mu' H') : RepE C mu' H' e c d := by
  obtain ⟨h1, a, ws, h2, h3, h4, h5⟩ := h
  exact ⟨h1, a, ws, h2, x.obj _ _ h3 h4.1 rfl, x.av h3 h4, h5.mono x.rx⟩

/-- what an outcome leaves: kO of the value and the heap, kE of the exception and the heap -/
def Post {α β : Type} (C : Cfg) (mu : Mu) (H : Hp) (o : Out α) (Rel : Mu → Hp → α → β → Prop) (kO : β → Hp → Prop) (kE : XK) : Prop := match o with
  | .ok a M' => ∀ mu' b H', RM C mu' M' H' → Ext C mu H mu' H' → Rel mu' H' a b → kO b H'
  | .er e M' => ∀ mu' c d H', RM C mu' M' H' → Ext C mu H mu' H' → RepE C mu' H' e c d → kE c d H'
  | .no => False
section
variable {α β γ δ : Type} {C : Cfg} {mu mu1 : Mu} {H H1 : Hp} {o : Out α} {Rel : Mu → Hp → α → β → Prop} {kO : β → Hp → Prop} {kE : XK}
theorem Post.ext (h : Post C mu H o Rel kO kE) (x : Ext C mu H mu1 H1) : Post C mu1 H1 o Rel kO kE := by
  cases o with
  | ok a M => exact fun mu' b H' r e q => h mu' b H' r (x.trans e) q
  | er e M => exact fun mu' c d H' r e q => h mu' c d H' r (x.trans e) q
  | no => exact h
theorem Post.bind {f : α → Mem → Out γ} {Rel2 : Mu → Hp → γ → δ → Prop} {kO2 : δ → Hp → Prop} (h : Post C mu H (o.bind f) Rel2 kO2 kE)
    (step : ∀ a M1 mu1 b H1, RM C mu1 M1 H1 → Ext C mu H mu1 H1 → Rel mu1 H1 a b → Post C mu1 H1 (f a M1) Rel2 kO2 kE → kO b H1) : Post C mu H o Rel kO kE := by
  cases o with
  | ok a M => exact fun mu' b H' r e q => step a M mu' b H' r e q (Post.ext h e)
  | er e M => exact h
  | no => exact h
theorem Post.imp {kO' : β → Hp → Prop} {kE' : XK} (h : Post C mu H o Rel kO kE) (h1 : ∀ b H', kO b H' → kO' b H') (h2 : ∀ c d H', kE c d H' → kE' c d H') : Post C mu H o Rel kO' kE' := by
  cases o with
  | ok a M => exact fun mu' b H' r e q => h1 _ _ (h mu' b H' r e q)
  | er e M => exact fun mu' c d H' r e q => h2 _ _ _ (h mu' c d H' r e q)
  | no => exact h
end
/-- the relation of a value -/
abbrev RV (C : Cfg) : Mu → Hp → T → V → Prop := fun mu H t v => Rep C mu H t v
abbrev RVs (C : Cfg) : Mu → Hp → List T → List V → Prop := fun mu H t v => RepL C mu H t v

def PostS (C : Cfg) (mu : Mu) (H : Hp) (o : OutS) (D : Ends) (W : WX) : Prop := match o with
  | .nx s M => ∀ mu' σ' H', RM C mu' M H' → Ext C mu H mu' H' → RS C mu' H' s σ' → D.nx σ' H'
  | .rt t M => ∀ mu' v H', RM C mu' M H' → Ext C mu H mu' H' → Rep C mu' H' t v → D.rt v H'
  | .bk s M => ∀ mu' σ' H', RM C mu' M H' → Ext C mu H mu' H' → RS C mu' H' s σ' → D.bk σ' H'
  | .ct s M => ∀ mu' σ' H', RM C mu' M H' → Ext C mu H mu' H' → RS C mu' H' s σ' → D.ct σ' H'
  | .er e s M => ∀ mu' σ' c d H', RM C mu' M H' → Ext C mu H mu' H' → RS C mu' H' s σ' → RepE C mu' H' e c d → W c d σ' H'
  | .no => False
theorem PostS.ext {C : Cfg} {mu mu1 : Mu} {H H1 : Hp} {o : OutS} {D : Ends} {W : WX} (h : PostS C mu H o D W) (x : Ext C mu H mu1 H1) : PostS C mu1 H1 o D W := by
  cases o with
  | nx s M => exact fun mu' σ' H' r e q => h mu' σ' H' r (x.trans e) q
  | rt t M => exact fun mu' v H' r e q => h mu' v H' r (x.trans e) q
  | bk s M => exact fun mu' σ' H' r e q => h mu' σ' H' r (x.trans e) q
  | ct s M => exact fun mu' σ' H' r e q => h mu' σ' H' r (x.trans e) q
  | er e s M => exact fun mu' σ' c d H' r e q z => h mu' σ' c d H' r (x.trans e) q z
  | no => exact h

/-! ### readings -/
abbrev DE := Sg → Mem → Out T
abbrev DA := Sg → Mem → Out (List T)
abbrev DT := Sg → Mem → Out Bool
abbrev DS := Sg → Mem → OutS
def TEz (C : Cfg) (W : WX) (d : DE) : TE := fun σ H Q => ∃ mu s M, RM C mu M H ∧ RS C mu H s σ ∧ Post C mu H (d s M) (RV C) Q fun c dd H' => W c dd σ H'
def TAz (C : Cfg) (W : WX) (d : DA) : TA := fun σ H Q => ∃ mu s M, RM C mu M H ∧ RS C mu H s σ ∧ Post C mu H (d s M) (RVs C) Q fun c dd H' => W c dd σ H'
def TTz (C : Cfg) (W : WX) (d : DT) : TT := fun σ H Q => ∃ mu s M, RM C mu M H ∧ RS C mu H s σ ∧ Post C mu H (d s M) (fun _ _ a b => a = b) Q fun c dd H' => W c dd σ H'
def TSz (C : Cfg) (W : WX) (d : DS) : TS := fun D σ H => ∃ mu s M, RM C mu M H ∧ RS C mu H s σ ∧ PostS C mu H (d s M) D W
theorem pe_weak {X : Cx} {e : Expr} {t t' : TE} (h : PE X e t) (w : ∀ σ H Q, t' σ H Q → t σ H Q) : PE X e t' := ⟨fun pins s σ H Q I q => h.run pins s σ H Q I (w σ H Q q)⟩
theorem pa_weak {X : Cx} {e : List Expr} {t t' : TA} (h : PA X e t) (w : ∀ σ H Q, t' σ H Q → t σ H Q) : PA X e t' := ⟨fun pos pins s σ H Q I q => h.run pos pins s σ H Q I (w σ H Q q)⟩
theorem pt_weak {X : Cx} {e : Expr} {t t' : TT} (h : PT X e t) (w : ∀ σ H Q, t' σ H Q → t σ H Q) : PT X e t' := ⟨fun pins s σ H Q I q => h.run pins s σ H Q I (w σ H Q q)⟩
theorem ps_weak {X : Cx} {e : Stmt} {t t' : TS} (h : PS X e t) (w : ∀ D σ H, t' D σ H → t D σ H) : PS X e t' := ⟨fun pins s σ H D I q => h.run pins s σ H D I (w D σ H q)⟩
theorem pss_weak {X : Cx} {e : List Stmt} {t t' : TS} (h : PSs X e t) (w : ∀ D σ H, t' D σ H → t D σ H) : PSs X e t' := ⟨fun pins s σ H D I q => h.run pins s σ H D I (w D σ H q)⟩
end Z
end
section
set_option Elab.async false
set_option linter.all false
set_option maxRecDepth 100000
set_option maxHeartbeats 4000000
/-! Zb: expressions: names, constants, operators, comparisons, tests. -/
namespace Z
open PySem PySem.Spec PyProof.Rows L2

/-- a list, a tuple, a dict, an instance by the abstract heap: of a frozen value or of a cell -/
def der (M : Mem) (t : T) : T := match t with
  | .cel i => (match M[i]? with
    | some (.live u) => u
    | some (.lock u) => u
    | _ => .cel i)
  | .fz xs => .lst xs
  | t => t
/-- .. where it may be handed to what wants the very object -/
def derL (M : Mem) (t : T) : T := match t with
  | .cel i => (match M[i]? with
    | some (.live u) => u
    | _ => .cel i)
  | t => t
/-- who stands behind a value -/
def Bk (C : Cfg) (mu : Mu) (H : Hp) (t : T) (v : V) : Prop :=
  match t with
  | .lst xs => ∃ a vs, v = .ref a ∧ Rd H a (.lst vs) ∧ RepL C mu H xs vs
  | .dct kvs => ∃ a ws, v = .ref a ∧ Rd H a (.dK ws) ∧ RepD C mu H kvs ws
  | .ins c fs => ∃ a dx ws, v = .ref a ∧ Rd H a (.ins (C.ga c) dx ws) ∧ RepF C mu H fs ws
  | .cel _ => True
  | t => Rep C mu H t v
section
variable {C : Cfg} {mu : Mu} {M : Mem} {H : Hp} {t : T} {v : V}
theorem der_bk (R : RM C mu M H) (r : Rep C mu H t v) : Bk C mu H (der M t) v := by
  cases r with
  | cel hi hv =>
    rename_i i
    unfold der
    simp only
    cases e : M[i]? with
    | none => trivial
    | some c =>
      cases c with
      | dead => trivial
      | live u =>
        obtain ⟨a, o, h1, h2, h3⟩ := R.cell i u e
        have ev := hv a h1
        simp only
        unfold CU at h3
        split at h3
        · exact ⟨a, _, ev, .inl h2, h3⟩
        · exact ⟨a, _, ev, .inl h2, h3⟩
        · obtain ⟨q, h3⟩ := h3
          subst q
          exact ⟨a, _, _, ev, .inl h2, h3⟩
        · exact h3.elim
      | lock u =>
        obtain ⟨a, od, o, h1, h2, h3⟩ := R.lock i u e
        have ev := hv a h1
        simp only
        unfold CU at h3
        split at h3
        · exact ⟨a, _, ev, .inr ⟨_, h2⟩, h3⟩
        · exact ⟨a, _, ev, .inr ⟨_, h2⟩, h3⟩
        · obtain ⟨q, h3⟩ := h3
          subst q
          exact ⟨a, _, _, ev, .inr ⟨_, h2⟩, h3⟩
        · exact h3.elim
  | lst h r => exact ⟨_, _, rfl, .inl h.1, r⟩
  | fz h r => exact ⟨_, _, rfl, .inr ⟨_, h.1⟩, r⟩
  | dct h r => exact ⟨_, _, rfl, h.1, r⟩
  | ins h r => exact ⟨_, _, _, rfl, h.1, r⟩
  | tup h r => exact .tup h r
  | non => exact .non
  | bl b => exact .bl b
  | int i => exact .int i
  | str x => exact .str x
  | ty n => exact .ty n
  | ob x => exact .ob x
end

theorem RepL.length {C : Cfg} {mu : Mu} {H : Hp} : ∀ {xs : List T} {vs : List V}, RepL C mu H xs vs → xs.length = vs.length
  | _, _, .nil => rfl
  | _, _, .cons _ r => congrArg Nat.succ r.length
theorem RepD.length {C : Cfg} {mu : Mu} {H : Hp} : ∀ {xs : List (Str × T)} {vs : List (Key × V)}, RepD C mu H xs vs → xs.length = vs.length
  | _, _, .nil => rfl
  | _, _, .cons _ r => congrArg Nat.succ r.length
theorem RepL.append {C : Cfg} {mu : Mu} {H : Hp} : ∀ {xs ys : List T} {vs ws : List V}, RepL C mu H xs vs → RepL C mu H ys ws → RepL C mu H (xs ++ ys) (vs ++ ws)
  | _, _, _, _, .nil, s => s
  | _, _, _, _, .cons h r, s => .cons h (r.append s)
theorem RepL.get {C : Cfg} {mu : Mu} {H : Hp} : ∀ {xs : List T} {vs : List V} {i : Nat} {t : T}, RepL C mu H xs vs → xs[i]? = some t → ∃ v, vs[i]? = some v ∧ Rep C mu H t v
  | _, _, _, _, .nil, e => by simp at e
  | _, _, 0, _, .cons h _, e => by simp at e; subst e; exact ⟨_, rfl, h⟩
  | _, _, i + 1, _, .cons _ r, e => by
    obtain ⟨v, h1, h2⟩ := RepL.get (i := i) r (by simpa using e)
    exact ⟨v, by simpa using h1, h2⟩
theorem RepL.take {C : Cfg} {mu : Mu} {H : Hp} : ∀ {xs : List T} {vs : List V} (n : Nat), RepL C mu H xs vs → RepL C mu H (xs.take n) (vs.take n)
  | _, _, 0, _ => .nil
  | _, _, _ + 1, .nil => .nil
  | _, _, n + 1, .cons h r => .cons h (r.take n)
theorem RepL.drop {C : Cfg} {mu : Mu} {H : Hp} : ∀ {xs : List T} {vs : List V} (n : Nat), RepL C mu H xs vs → RepL C mu H (xs.drop n) (vs.drop n)
  | _, _, 0, r => r
  | _, _, _ + 1, .nil => .nil
  | _, _, n + 1, .cons _ r => r.drop n
theorem RepL.set {C : Cfg} {mu : Mu} {H : Hp} {t : T} {v : V} (h : Rep C mu H t v) : ∀ {xs : List T} {vs : List V} (i : Nat), RepL C mu H xs vs → RepL C mu H (xs.set i t) (vs.set i v)
  | _, _, _, .nil => .nil
  | _, _, 0, .cons _ r => .cons h r
  | _, _, i + 1, .cons q r => .cons q (RepL.set h i r)
theorem RepL.reverse {C : Cfg} {mu : Mu} {H : Hp} : ∀ {xs : List T} {vs : List V}, RepL C mu H xs vs → RepL C mu H xs.reverse vs.reverse
  | _, _, .nil => .nil
  | _, _, .cons h r => by
    rw [List.reverse_cons, List.reverse_cons]
    exact r.reverse.append (.cons h .nil)
theorem RepL.eraseIdx {C : Cfg} {mu : Mu} {H : Hp} : ∀ {xs : List T} {vs : List V} (n : Nat), RepL C mu H xs vs → RepL C mu H (xs.eraseIdx n) (vs.eraseIdx n)
  | _, _, _, .nil => .nil
  | _, _, 0, .cons _ r => r
  | _, _, n + 1, .cons h r => .cons h (r.eraseIdx n)
theorem RepL.rep {C : Cfg} {mu : Mu} {H : Hp} {xs : List T} {vs : List V} (h : RepL C mu H xs vs) : ∀ k : Nat, RepL C mu H (List.replicate k xs).flatten (List.replicate k vs).flatten
  | 0 => .nil
  | k + 1 => by
    rw [List.replicate_succ, List.replicate_succ, List.flatten_cons, List.flatten_cons]
    exact h.append (RepL.rep h k)

/-! ### names, constants -/
def dVar (i : Nat) : DE := fun s M => match s[i]? with
  | some (some t) => .ok t M
  | _ => .no
def dC (t : T) : DE := fun _ M => .ok t M
section
variable {C : Cfg} {X : Cx} {W : WX}
theorem s_var {i : Nat} {x : Str} {pos : Pos} (hN : X.N[i]? = some x) (hv : Vis X.env.scope x) (hd : (x == ("__debug__" : Str)) = false) (hcd : (x == ("__classdict__" : Str)) = false) : PE X (.Name x pos) (TEz C W (dVar i)) :=
  pe_weak (pe_var hN hv hd hcd) fun σ H Q ⟨mu, s, M, R, S, P⟩ => by
    unfold dVar at P
    split at P
    · rename_i t e
      obtain ⟨v, h1, h2⟩ := S.at_ i t e
      exact ⟨v, h1, P mu v H R Ext.refl h2⟩
    · exact P.elim
theorem s_c {e : Expr} {t : T} {v : V} (h : PE X e (tC v)) (r : ∀ mu H, Rep C mu H t v) : PE X e (TEz C W (dC t)) :=
  pe_weak h fun σ H Q ⟨mu, s, M, R, S, P⟩ => P mu v H R Ext.refl (r mu H)

/-! ### operators of two values -/
abbrev Op2 := T → T → Mem → Option (T × Mem)
def lift {α : Type} (o : Option (α × Mem)) : Out α := match o with
  | some (a, M) => .ok a M
  | none => .no
def rZ (C : Cfg) (g : Op2) : R2 := fun x y H Q => ∃ mu M t u t' M', RM C mu M H ∧ Rep C mu H t x ∧ Rep C mu H u y ∧ g t u M = some (t', M') ∧
  ∀ mu' v H', RM C mu' M' H' → Ext C mu H mu' H' → Rep C mu' H' t' v → Q v H'
def dBin (g : Op2) (da db : DE) : DE := fun s M => (da s M).bind fun t M1 => (db s M1).bind fun u M2 => lift (g t u M2)
theorem opR_weak {f : Value → Value → Sem Value} {r r' : R2} (h : OpR X f r) (w : ∀ x y H Q, r' x y H Q → r x y H Q) : OpR X f r' := fun pins s σ H x y v u Q I rx ry q => h pins s σ H x y v u Q I rx ry (w x y H Q q)
/-- the reading of two operands, one after the other -/
theorem bin_read {g : Op2} {da db : DE} {σ : L2.St} {H : Hp} {Q : VK} (h : TEz C W (dBin g da db) σ H Q) : tOp (rZ C g) (TEz C W da) (TEz C W db) σ H Q := by
  obtain ⟨mu, s, M, R, S, P⟩ := h
  refine ⟨mu, s, M, R, S, P.bind fun t M1 mu1 x H1 R1 E1 r1 P1 => ?_⟩
  refine ⟨mu1, s, M1, R1, S.mono E1.rx, P1.bind fun u M2 mu2 y H2 R2 E2 r2 P2 => ?_⟩
  cases e : g t u M2 with
  | none => rw [e] at P2; exact P2.elim
  | some p =>
    obtain ⟨t', M'⟩ := p
    rw [e] at P2
    exact ⟨mu2, M2, t, u, t', M', R2, r1.mono E2.rx, r2, e, P2⟩
theorem s_bin {op : Operator} {g : Op2} {a b : Expr} {da db : DE} {pos : Pos} (ho : OpR X (binaryOp op) (rZ C g)) (ha : PE X a (TEz C W da)) (hb : PE X b (TEz C W db)) : PE X (.BinOp a op b pos) (TEz C W (dBin g da db)) :=
  pe_weak (pe_op ho ha hb) fun _ _ _ h => bin_read h
theorem s_cmp {op : CmpOp} {g : Op2} {a b : Expr} {da db : DE} {pos : Pos} (ho : OpR X (compareOp op) (rZ C g)) (ha : PE X a (TEz C W da)) (hb : PE X b (TEz C W db)) (hm : behindInMarks op b = false) : PE X (.Compare a [op] [b] pos) (TEz C W (dBin g da db)) :=
  pe_weak (pe_cmpR ho ha hb hm) fun _ _ _ h => bin_read h
end
end Z
end
section
set_option Elab.async false
set_option linter.all false
set_option maxRecDepth 100000
set_option maxHeartbeats 4000000
/-! Zc: == of tree values. -/
namespace Z
open PySem PySem.Spec PyProof.Rows L2

def allZ (f : T → T → Option Bool) : List T → List T → Option Bool
  | x :: xs, y :: ys => match f x y, allZ f xs ys with
    | some a, some b => some (a && b)
    | _, _ => none
  | _, _ => some true
def eqD (f : T → T → Option Bool) (ls : List (Str × T)) : List (Str × T) → Option Bool
  | [] => some true
  | (k, t) :: r => match ls.lookup k with
    | some u => (match f t u, eqD f ls r with
      | some a, some b => some (a && b)
      | _, _ => none)
    | none => (match eqD f ls r with
      | some _ => some false
      | none => none)
def flatT : T → Bool
  | .non | .bl _ | .int _ | .str _ => true
  | _ => false
def seqT : T → Bool
  | .lst _ | .tup _ => true
  | _ => false
/-- x == y (none: not told), at most n deep; dd: dicts too -/
def eqF (dd : Bool) : Nat → T → T → Option Bool
  | 0, _, _ => none
  | n + 1, t, u => match t, u with
    | .non, .non => some true
    | .bl a, .bl b => some (a == b)
    | .int a, .int b => some (a == b)
    | .str a, .str b => some (a == b)
    | .bl a, .int b => some ((if a then 1 else 0) == b)
    | .int a, .bl b => some (a == (if b then 1 else 0))
    | .lst xs, .lst ys => if xs.length = ys.length then allZ (eqF dd n) xs ys else some false
    | .tup xs, .tup ys => (match allZ (eqF dd n) xs ys with
      | some b => some (b && xs.length == ys.length)
      | none => none)
    | .dct ks, .dct ls => if dd then (match eqD (eqF dd n) ls ks with
      | some b => some (ks.length == ls.length && b)
      | none => none) else none
    | t, u => if (flatT t && (flatT u || seqT u)) || (seqT t && (flatT u || seqT u)) then some false else none

theorem allZ_at {f : T → T → Option Bool} : ∀ {xs ys : List T} {b : Bool}, allZ f xs ys = some b →
    (∀ (j : Nat) (x y : T), xs[j]? = some x → ys[j]? = some y → ∃ c, f x y = some c) ∧
    ∀ e : Nat → Bool, (∀ (j : Nat) (x y : T), xs[j]? = some x → ys[j]? = some y → f x y = some (e j)) → b = (List.range (min xs.length ys.length)).all e
  | [], ys, b, h => by
    have hb : b = true := by cases h; rfl
    refine ⟨fun j x y e => by simp at e, fun e _ => by simp [hb]⟩
  | x :: xs, [], b, h => by
    have hb : b = true := by cases h; rfl
    refine ⟨fun j x y _ e => by simp at e, fun e _ => by simp [hb]⟩
  | x :: xs, y :: ys, b, h => by
    unfold allZ at h
    cases e1 : f x y with
    | none => rw [e1] at h; simp at h
    | some a =>
      cases e2 : allZ f xs ys with
      | none => rw [e1, e2] at h; simp at h
      | some c =>
        rw [e1, e2] at h
        have hb : (a && c) = b := by simpa using h
        obtain ⟨i1, i2⟩ := allZ_at e2
        refine ⟨fun j x' y' h1 h2 => ?_, fun e he => ?_⟩
        · cases j with
          | zero => simp at h1 h2; subst h1 h2; exact ⟨a, e1⟩
          | succ j => exact i1 j x' y' (by simpa using h1) (by simpa using h2)
        · have h0 := he 0 x y (by simp) (by simp)
          rw [e1] at h0
          have h0' : a = e 0 := by simpa using h0
          have := i2 (fun j => e (j + 1)) fun j x' y' h1 h2 => he (j + 1) x' y' (by simpa using h1) (by simpa using h2)
          rw [← hb, this, h0']
          have hm : min (x :: xs).length (y :: ys).length = min xs.length ys.length + 1 := by simp
          rw [hm, List.range_succ_eq_map, List.all_cons, List.all_map]
          rfl
theorem eqD_at {f : T → T → Option Bool} {ls : List (Str × T)} : ∀ {ks : List (Str × T)} {b : Bool}, eqD f ls ks = some b →
    (∀ p ∈ ks, ∀ u, ls.lookup p.1 = some u → ∃ c, f p.2 u = some c) ∧ b = ks.all fun p => match ls.lookup p.1 with
      | some u => (f p.2 u).getD false
      | none => false
  | [], b, h => by
    have hb : b = true := by cases h; rfl
    exact ⟨fun p hp => by simp at hp, by simp [hb]⟩
  | (k, t) :: r, b, h => by
    unfold eqD at h
    cases e1 : ls.lookup k with
    | none =>
      rw [e1] at h
      simp only at h
      cases e2 : eqD f ls r with
      | none => rw [e2] at h; simp at h
      | some c =>
        rw [e2] at h
        have hb : b = false := by simpa using h.symm
        obtain ⟨i1, i2⟩ := eqD_at e2
        refine ⟨fun p hp u hu => ?_, by simp [hb, e1]⟩
        rcases List.mem_cons.mp hp with rfl | hp
        · rw [e1] at hu; cases hu
        · exact i1 p hp u hu
    | some u0 =>
      rw [e1] at h
      simp only at h
      cases e3 : f t u0 with
      | none => rw [e3] at h; simp at h
      | some a =>
        cases e2 : eqD f ls r with
        | none => rw [e3, e2] at h; simp at h
        | some c =>
          rw [e3, e2] at h
          have hb : (a && c) = b := by simpa using h
          obtain ⟨i1, i2⟩ := eqD_at e2
          refine ⟨fun p hp u hu => ?_, ?_⟩
          · rcases List.mem_cons.mp hp with rfl | hp
            · rw [e1] at hu; cases hu; exact ⟨a, e3⟩
            · exact i1 p hp u hu
          · rw [List.all_cons, ← hb, ← i2]
            simp [e1, e3]

/-- a dict's entries in the machine -/
inductive RDV (C : Cfg) (mu : Mu) (H : Hp) : List (Str × T) → List (Key × Value) → Prop
  | nil : RDV C mu H [] []
  | cons {k : Str} {t : T} {x : V} {v : Value} {ks : List (Str × T)} {vs : List (Key × Value)} : Rep C mu H t x → RelV x v → RDV C mu H ks vs → RDV C mu H ((k, t) :: ks) ((.inr k, v) :: vs)
section
variable {C : Cfg} {mu : Mu} {H : Hp}
theorem rdv_of : ∀ {ks : List (Str × T)} {ws : List (Key × V)} {vs : List (Key × Value)}, RepD C mu H ks ws → KV ws vs → RDV C mu H ks vs
  | _, _, _, .nil, .nil => .nil
  | _, _, _, .cons h r, @Paired.cons _ _ _ _ (k', v) _ _ q t => by
    obtain ⟨q1, q2⟩ := q
    have e : k' = _ := q1.symm
    subst e
    exact .cons h q2 (rdv_of r t)
theorem RDV.length : ∀ {ks : List (Str × T)} {vs : List (Key × Value)}, RDV C mu H ks vs → ks.length = vs.length
  | _, _, .nil => rfl
  | _, _, .cons _ _ r => congrArg Nat.succ r.length
theorem RDV.look (k : Str) : ∀ {ks : List (Str × T)} {vs : List (Key × Value)}, RDV C mu H ks vs → match ks.lookup k with
    | some t => ∃ x v, valueAt vs (.inr k : Key) = some v ∧ Rep C mu H t x ∧ RelV x v
    | none => valueAt vs (.inr k : Key) = none
  | _, _, .nil => rfl
  | _, _, @RDV.cons _ _ _ k' t x v ks vs h q r => by
    have ih := r.look k
    by_cases e : k = k'
    · subst e
      simp only [List.lookup_cons, beq_self_eq_true]
      exact ⟨x, v, by simp [valueAt], h, q⟩
    · have e1 : (k == k') = false := by simpa using e
      have e2 : ¬ ((.inr k' : Key) = .inr k) := fun z => e (Sum.inr.inj z).symm
      have e3 : valueAt ((.inr k', v) :: vs) (.inr k : Key) = valueAt vs (.inr k) := by simp [valueAt, List.find?_cons, e2]
      simp only [List.lookup_cons, e1, e3]
      exact ih
theorem RDV.keys : ∀ {ks : List (Str × T)} {vs : List (Key × Value)}, RDV C mu H ks vs → vs.map (·.1) = ks.map fun p => (.inr p.1 : Key)
  | _, _, .nil => rfl
  | _, _, .cons _ _ r => by rw [List.map_cons, List.map_cons, r.keys]
theorem RDV.nodup {ks : List (Str × T)} {vs : List (Key × Value)} (r : RDV C mu H ks vs) (nd : (vs.map (·.1)).Nodup) : (ks.map (·.1)).Nodup := by
  rw [r.keys] at nd
  refine List.Pairwise.of_map (S := fun a b : Key => a ≠ b) (fun x : Str => (.inr x : Key)) (fun a b h z => h (congrArg _ z)) ?_
  rw [List.map_map]
  exact nd
theorem RDV.mem {p : Key × Value} : ∀ {ks : List (Str × T)} {vs : List (Key × Value)}, RDV C mu H ks vs → p ∈ vs → ∃ k t x, (k, t) ∈ ks ∧ p.1 = .inr k ∧ Rep C mu H t x ∧ RelV x p.2
  | _, _, .nil, h => by simp at h
  | _, _, @RDV.cons _ _ _ k' t x v ks vs q1 q2 r, h => by
    rcases List.mem_cons.mp h with rfl | h
    · exact ⟨k', t, x, by simp, rfl, q1, q2⟩
    · obtain ⟨k, t, x, a, b⟩ := r.mem h
      exact ⟨k, t, x, List.mem_cons_of_mem _ a, b⟩
theorem lookup_of_mem {α : Type} {k : Str} {t : α} : ∀ {ks : List (Str × α)}, (ks.map (·.1)).Nodup → (k, t) ∈ ks → ks.lookup k = some t
  | [], _, h => by simp at h
  | (k', t') :: r, nd, h => by
    rw [List.map_cons, List.nodup_cons] at nd
    rcases List.mem_cons.mp h with e | hm
    · cases e; simp [List.lookup_cons]
    · have ne : (k == k') = false := by
        simp only [beq_eq_false_iff_ne, ne_eq]
        intro z
        subst z
        exact nd.1 (List.mem_map_of_mem (f := (·.1)) hm)
      rw [List.lookup_cons, ne]
      exact lookup_of_mem nd.2 hm
theorem all_rdv {g : Str × T → Bool} {g' : Key × Value → Bool} : ∀ {ks : List (Str × T)} {vs : List (Key × Value)}, RDV C mu H ks vs → (∀ k t x v, (k, t) ∈ ks → RelV x v → g (k, t) = g' (.inr k, v)) → ks.all g = vs.all g'
  | _, _, .nil, _ => rfl
  | _, _, .cons h q r, hg => by
    rw [List.all_cons, List.all_cons, hg _ _ _ _ (List.mem_cons_self ..) q, all_rdv r fun k t x v hm => hg k t x v (List.mem_cons_of_mem _ hm)]
theorem RepL.vals {C : Cfg} {mu : Mu} {H : Hp} {xs : List T} {vs : List V} {us : List Value} {j : Nat} {u : Value} (r : RepL C mu H xs vs) (q : Vals vs us) (h : us[j]? = some u) : ∃ t v, xs[j]? = some t ∧ vs[j]? = some v ∧ Rep C mu H t v ∧ RelV v u := by
  have hj : j < xs.length := by rw [r.length, q.length]; exact (List.getElem?_eq_some_iff.mp h).1
  obtain ⟨v, hv, rv⟩ := r.get (List.getElem?_eq_getElem hj)
  obtain ⟨u', hu, ru⟩ := q.get hv
  rw [h] at hu; cases hu
  exact ⟨_, v, List.getElem?_eq_getElem hj, hv, rv, ru⟩
end

section
variable {X : Cx} {C : Cfg} {mu : Mu} {pins : List (Addr × Obj)} {σ : L2.St} {H : Hp} {s : Shared}
theorem FL.heap {a : Addr} {vs : List V} (I : Inv X pins σ H s) (h : FL C mu H a vs) : ∃ its : List Value, Vals vs its ∧ s.heap.IsList a its.toArray ∧ vs.length ≤ sizeLine := by
  obtain ⟨its, r, p, z⟩ := I.list (X := X) (.inl (.inl h.1))
  exact ⟨its, r, p.isList, z⟩
theorem FT.heap {a : Addr} {vs : List V} (hK : C.K = X.K) (I : Inv X pins σ H s) (h : FT C mu H a vs) : ∃ its : List Value, Vals vs its ∧ IsTup s.heap a its.toArray ∧ vs.length ≤ sizeLine := by
  have q := h.sq
  rw [hK] at q
  exact I.tuple q
theorem list_ne_tup {a b : Addr} {x y : Array Value} (hl : s.heap.IsList a x) (hb : IsTup s.heap b y) : a ≠ b := SeqAt.ne_of_list_tuple hl hb
theorem rd_inj {a : Addr} {u u' : HO} (h : Rd H a u) (h' : Rd H a u') (n : ∀ o q, u ≠ .frz o q) (n' : ∀ o q, u' ≠ .frz o q) : u = u' := by
  rcases h with h | ⟨o, h⟩
  · rcases h' with h' | ⟨o', h'⟩
    · rw [h] at h'; exact Option.some.inj h'
    · rw [h] at h'; exact absurd (Option.some.inj h') (n _ _)
  · rcases h' with h' | ⟨o', h'⟩
    · rw [h] at h'; exact absurd (Option.some.inj h').symm (n' _ _)
    · rw [h] at h'
      injection Option.some.inj h'
/-- two readings of one value are equal -/
theorem eq_same (dd : Bool) (hK : C.K = X.K) (I : Inv X pins σ H s) : ∀ (n : Nat) (t u : T) (x : V) (b : Bool), Rep C mu H t x → Rep C mu H u x → eqF dd n t u = some b → b = true
  | 0, _, _, _, _, _, _, h => by simp [eqF] at h
  | n + 1, t, u, x, b, rt, ru, h => by
    have ih := eq_same dd hK I n
    have lists : ∀ {xs ys : List T} {vs : List V} {b : Bool}, RepL C mu H xs vs → RepL C mu H ys vs → allZ (eqF dd n) xs ys = some b → b = true := fun {xs ys vs b} r1 r2 e => by
      obtain ⟨h1, h2⟩ := allZ_at e
      rw [h2 (fun _ => true) fun j x y e1 e2 => by
        obtain ⟨c, hc⟩ := h1 j x y e1 e2
        obtain ⟨v, ev, rv⟩ := r1.get e1
        obtain ⟨v', ev', rv'⟩ := r2.get e2
        rw [ev] at ev'; cases ev'
        rw [hc, ih x y v c rv rv' hc]]
      simp
    cases rt with
    | non =>
      cases ru with
      | non => cases h; rfl
      | cel => simp [eqF, flatT, seqT] at h
    | bl c =>
      cases ru with
      | bl => simp [eqF] at h; exact h
      | cel => simp [eqF, flatT, seqT] at h
    | int c =>
      cases ru with
      | int => simp [eqF] at h; exact h
      | cel => simp [eqF, flatT, seqT] at h
    | str c =>
      cases ru with
      | str => simp [eqF] at h; exact h
      | cel => simp [eqF, flatT, seqT] at h
    | ty c => cases u <;> simp [eqF, flatT, seqT] at h
    | ob c => cases u <;> simp [eqF, flatT, seqT] at h
    | cel => cases u <;> simp [eqF, flatT, seqT] at h
    | ins => cases u <;> simp [eqF, flatT, seqT] at h
    | fz => cases u <;> simp [eqF, flatT, seqT] at h
    | tup f r =>
      obtain ⟨its, q, p, _⟩ := f.heap hK I
      generalize hz : V.ref _ = z at ru
      cases ru with
      | tup f' r' =>
        cases hz
        have e := I.tuple_inj (hK ▸ f.sq) (hK ▸ f'.sq)
        subst e
        simp only [eqF] at h
        split at h
        · rename_i c hc
          have e1 := lists r r' hc
          subst e1
          rw [r.length, r'.length] at h
          simpa using h.symm
        · cases h
      | lst f' r' =>
        cases hz
        obtain ⟨its', q', p', _⟩ := f'.heap I
        exact absurd rfl (list_ne_tup p' p)
      | non => cases hz
      | bl => cases hz
      | int => cases hz
      | str => cases hz
      | ty => simp [eqF, flatT, seqT] at h
      | ob => simp [eqF, flatT, seqT] at h
      | cel => simp [eqF, flatT, seqT] at h
      | ins => simp [eqF, flatT, seqT] at h
      | fz => simp [eqF, flatT, seqT] at h
      | dct => simp [eqF, flatT, seqT] at h
    | lst f r =>
      obtain ⟨its, q, p, _⟩ := f.heap I
      generalize hz : V.ref _ = z at ru
      cases ru with
      | lst f' r' =>
        cases hz
        have e := rd_inj (.inl f.1) (.inl f'.1) (fun _ _ z => nomatch z) (fun _ _ z => nomatch z)
        injection e with e
        subst e
        simp only [eqF] at h
        rw [r.length, r'.length, if_pos rfl] at h
        exact lists r r' h
      | tup f' r' =>
        cases hz
        obtain ⟨its', q', p', _⟩ := f'.heap hK I
        exact absurd rfl (list_ne_tup p p')
      | non => cases hz
      | bl => cases hz
      | int => cases hz
      | str => cases hz
      | ty => simp [eqF, flatT, seqT] at h
      | ob => simp [eqF, flatT, seqT] at h
      | cel => simp [eqF, flatT, seqT] at h
      | ins => simp [eqF, flatT, seqT] at h
      | fz => simp [eqF, flatT, seqT] at h
      | dct => simp [eqF, flatT, seqT] at h
    | dct f r =>
      generalize hz : V.ref _ = z at ru
      cases ru with
      | dct f' r' =>
        cases hz
        have e := rd_inj f.1 f'.1 (fun _ _ z => nomatch z) (fun _ _ z => nomatch z)
        injection e with e
        subst e
        obtain ⟨z1, z2, vs, kv, d⟩ := dk_rd I.hok f.1
        have R1 := rdv_of r kv
        have R2 := rdv_of r' kv
        obtain ⟨_, _, _, _, _, _, _, _, nd⟩ := d
        simp only [eqF] at h
        cases dd with
        | false => simp at h
        | true =>
        simp only [if_true] at h
        split at h
        · rename_i c hc
          obtain ⟨h1, h2⟩ := eqD_at hc
          have e1 : c = true := by
            rw [h2, List.all_eq_true]
            rintro ⟨k, t⟩ hp
            have l1 := R2.look k
            have l2 := R1.look k
            rw [lookup_of_mem (R1.nodup nd) hp] at l2
            obtain ⟨x, v, e1, e2, e3⟩ := l2
            split at l1
            · rename_i u hu
              obtain ⟨x', v', e1', e2', e3'⟩ := l1
              rw [e1] at e1'; cases e1'
              have : x = x' := e3.inj e3'
              subst this
              simp only [hu]
              obtain ⟨c, hc⟩ := h1 (k, t) hp u hu
              simp only at hc
              rw [hc, ih t u x c e2 e2' hc]
              rfl
            · rw [e1] at l1; cases l1
          subst e1
          rw [R1.length, R2.length] at h
          simpa using h.symm
        · cases h
      | lst f' r' => simp [eqF, flatT, seqT] at h
      | tup f' r' => simp [eqF, flatT, seqT] at h
      | non => cases hz
      | bl => cases hz
      | int => cases hz
      | str => cases hz
      | ty => simp [eqF, flatT, seqT] at h
      | ob => simp [eqF, flatT, seqT] at h
      | cel => simp [eqF, flatT, seqT] at h
      | ins => simp [eqF, flatT, seqT] at h
      | fz => simp [eqF, flatT, seqT] at h
end
end Z
end
section
set_option Elab.async false
set_option linter.all false
set_option maxRecDepth 100000
set_option maxHeartbeats 4000000
/-! Zd: != , in, count over items compared in this program and world. -/
namespace Z
open PySem PySem.SeqAt PySem.MeetsSeq PySem.MeetsSeq2 PySem.MeetsSeq3 PySem.SeqRoads2
open PySem.AutoSeq1 (wpAny_loadPart')
section
variable {P : Program} {w : World} {l b : Addr} {xs ys : Array Value} {n m : Nat} {d1 d2 : Option Addr} {s1 s2 : Array (Option Value)} {e : Nat → Bool}
abbrev LObj (xs : Array Value) (n : Nat) (d1 : Option Addr) (s1 : Array (Option Value)) : Obj := { cls := .type "list", dict := d1, data := .seq xs n, slots := s1 }
abbrev TObj (xs : Array Value) (n : Nat) (d1 : Option Addr) (s1 : Array (Option Value)) : Obj := { cls := .type "tuple", dict := d1, data := .seq xs n, slots := s1 }
abbrev Each (P : Program) (w : World) (A : Around) (s : Shared) (xs ys : Array Value) (e : Nat → Bool) : Prop := ∀ j (h1 : j < xs.size) (h2 : j < ys.size), EqIn P w A s xs[j] ys[j] (e j)
theorem ne_loopI (hz : xs.size = ys.size) (k : Nat) : ∀ i : Nat, xs.size - i = k → MeetsIn P w (Builtin.«list.__eq__.loop» ⟨[.ref l, .ref b, rawInt i, rawInt 3], []⟩)
    (fun A R s => s.heap.get? l = some (LObj xs n d1 s1) ∧ s.heap.get? b = some (LObj ys m d2 s2) ∧ Each P w A.in1 s xs ys e ∧ R (.ok (.ret (.bool (!((List.range xs.size).drop i).all e)))) s) := by
  induction k with
  | zero =>
    intro i hk A R s q
    obtain ⟨hp, g, d, tk, os⟩ := s
    obtain ⟨q1, q2, q3, q4⟩ := q
    wp_walk using wpAny_loadPart' q1, wpAny_loadPart' q2
    have a1 : xs[((i : Nat) : Int).toNat]? = none := by simp; omega
    have a2 : ys[((i : Nat) : Int).toNat]? = none := by simp; omega
    have a3 : (List.range xs.size).drop i = [] := by simp; omega
    rw [a3] at q4
    rw [a1, a2]
    wp_walk using wpAny_loadPart' q1, wpAny_loadPart' q2
    show R (.ok (.ret (.bool (xs.size != ys.size)))) _
    rw [hz]
    simpa using q4
  | succ k ih =>
    intro i hk A R s q
    obtain ⟨hp, g, d, tk, os⟩ := s
    obtain ⟨q1, q2, q3, q4⟩ := q
    wp_walk using wpAny_loadPart' q1, wpAny_loadPart' q2
    have l1 : i < xs.size := by omega
    have l2 : i < ys.size := by omega
    have a1 : xs[((i : Nat) : Int).toNat]? = some xs[i] := by simp [l1]
    have a2 : ys[((i : Nat) : Int).toNat]? = some ys[i] := by simp [l2]
    have a3 : (List.range xs.size).drop i = i :: (List.range xs.size).drop (i + 1) := by simp [List.drop_eq_getElem_cons, l1]
    have a4 : ((i : Int) + 1) = ((i + 1 : Nat) : Int) := by push_cast; rfl
    rw [a3, List.all_cons] at q4
    rw [a1, a2]
    refine wpAny_bind (q3 i l1 l2 _ _ ?_)
    cases c : e i with
    | true =>
      rw [c] at q4
      wp_walk
      rw [a4]
      refine ⟨plainId_quiet plain_eq_loop _, codeAny_builtin entry_eq_loop ?_⟩
      rw [Around.under_plainId plain_eq_loop _]
      exact ih (i + 1) (by omega) A R _ ⟨q1, q2, q3, by simpa using q4⟩
    | false =>
      rw [c] at q4
      wp_walk using wpAny_loadPart' q1, wpAny_loadPart' q2
      rw [a1, a2]
      wp_walk
      simpa using q4
theorem list_neI (hz : xs.size = ys.size) : MeetsIn P w (Builtin.«list.__ne__» ⟨[.ref l, .ref b], []⟩)
    (fun A R s => s.heap.get? l = some (LObj xs n d1 s1) ∧ s.heap.get? b = some (LObj ys m d2 s2) ∧ Each P w A.in1 s xs ys e ∧ R (.ok (.ret (.bool (!(List.range xs.size).all e)))) s) := by
  intro A R s q
  obtain ⟨hp, g, d, tk, os⟩ := s
  obtain ⟨q1, q2, q3, q4⟩ := q
  have f3 := AutoSeq1.sub_list_list
  have hne : ¬ (xs.size != ys.size) = true := by simp [hz]
  wp_walk using wpAny_loadPart' q1, wpAny_loadPart' q2
  refine ⟨plainId_quiet plain_eq_loop _, codeAny_builtin entry_eq_loop ?_⟩
  rw [Around.under_plainId plain_eq_loop _]
  exact ne_loopI hz _ 0 rfl A R _ ⟨q1, q2, q3, by simpa using q4⟩
theorem tuple_neI : MeetsIn P w (Builtin.«tuple.__ne__» ⟨[.ref l, .ref b], []⟩)
    (fun A R s => s.heap.get? l = some (TObj xs n d1 s1) ∧ s.heap.get? b = some (TObj ys m d2 s2) ∧ Each P w A.in1 s xs ys e ∧
      R (.ok (.ret (.bool (!((List.range (min xs.size ys.size)).all e && xs.size == ys.size))))) s) :=
  .of_wp fun A R s q => by
    obtain ⟨hp, g, d, tk, os⟩ := s
    obtain ⟨q1, q2, q3, q4⟩ := q
    have f2 := AutoSeq1.sub_tuple_tuple
    have hZ : (xs.toList.zip ys.toList).length = min xs.size ys.size := by simp
    wp_walk using wpAny_loadPart' q1, wpAny_loadPart' q2, wpAny_forIn_list _ (fun rest c s' => c.1 = none ∧ s' = ⟨hp, g, d, tk, os⟩ ∧ ∃ i, rest = (xs.toList.zip ys.toList).drop i ∧
      R (.ok (.ret (.bool (!(((List.range (min xs.size ys.size)).drop i).all e && xs.size == ys.size))))) ⟨hp, g, d, tk, os⟩) _
    case turn =>
      rintro ⟨y, x⟩ rest c s' ⟨hc, rfl, i, hz, hR⟩
      have hlt : i < (xs.toList.zip ys.toList).length := by
        rcases Nat.lt_or_ge i (xs.toList.zip ys.toList).length with h' | h'
        · exact h'
        · rw [List.drop_of_length_le h'] at hz; cases hz
      have hm : i < min xs.size ys.size := hZ ▸ hlt
      have h1 : i < xs.size := Nat.lt_of_lt_of_le hm (Nat.min_le_left _ _)
      have h2 : i < ys.size := Nat.lt_of_lt_of_le hm (Nat.min_le_right _ _)
      rw [List.drop_eq_getElem_cons hlt] at hz
      injection hz with hyx hrest
      have hy : y = xs[i] := by have := congrArg Prod.fst hyx; simpa using this
      have hx : x = ys[i] := by have := congrArg Prod.snd hyx; simpa using this
      subst hy hx
      have hd : (List.range (min xs.size ys.size)).drop i = i :: (List.range (min xs.size ys.size)).drop (i + 1) := by simp [List.drop_eq_getElem_cons, hm]
      rw [hd, List.all_cons] at hR
      refine wpAny_bind (q3 i h1 h2 _ _ ?_)
      cases hy : e i with
      | true =>
        rw [hy] at hR
        wp_walk
        exact ⟨rfl, rfl, i + 1, hrest, by simpa using hR⟩
      | false =>
        rw [hy] at hR
        wp_walk
        exact ⟨_, rfl, by simpa using hR⟩
    case fin =>
      rintro ⟨b1, b2⟩ s' ⟨hb', rfl, i, hz, hR⟩
      simp only at hb'
      subst hb'
      have hge : min xs.size ys.size ≤ i := by
        rcases Nat.lt_or_ge i (xs.toList.zip ys.toList).length with h' | h'
        · rw [List.drop_eq_getElem_cons h'] at hz; cases hz
        · exact hZ ▸ h'
      rw [List.drop_of_length_le (by simpa using hge)] at hR
      wp_walk
      exact ⟨_, rfl, by simpa [Builtin.Tuple.tupleCompareSizes, bne] using hR⟩
    case h =>
      exact ⟨rfl, rfl, 0, rfl, by simpa using q4⟩
abbrev Each1 (P : Program) (w : World) (A : Around) (s : Shared) (xs : Array Value) (x : Value) (e : Nat → Bool) : Prop := ∀ j (h1 : j < xs.size), EqIn P w A s xs[j] x (e j)
theorem count_loopI {x : Value} (k : Nat) : ∀ (i : Nat) (found : Int), xs.size - i = k → MeetsIn P w (Builtin.«list.count.loop» ⟨[.ref l, x, rawInt i, rawInt found], []⟩)
    (fun A R s => s.heap.get? l = some (LObj xs n d1 s1) ∧ Each1 P w A.in1 s xs x e ∧ R (.ok (.ret (.int (found + (((List.range xs.size).drop i).countP e : Nat)) s.toks))) { s with toks := s.toks + 1 }) := by
  induction k with
  | zero =>
    intro i found hk A R s q
    obtain ⟨hp, gs, d, tk, os⟩ := s
    obtain ⟨q1, q2, q3⟩ := q
    wp_walk using wpAny_loadPart' q1
    have a1 : xs[((i : Nat) : Int).toNat]? = none := by simp; omega
    have a2 : (List.range xs.size).drop i = [] := by simp; omega
    rw [a2] at q3
    rw [a1]
    wp_walk
    simpa using q3
  | succ k ih =>
    intro i found hk A R s q
    obtain ⟨hp, gs, d, tk, os⟩ := s
    obtain ⟨q1, q2, q3⟩ := q
    wp_walk using wpAny_loadPart' q1
    have l1 : i < xs.size := by omega
    have a1 : xs[((i : Nat) : Int).toNat]? = some xs[i] := by simp [l1]
    have a2 : (List.range xs.size).drop i = i :: (List.range xs.size).drop (i + 1) := by simp [List.drop_eq_getElem_cons, l1]
    have a4 : ((i : Int) + 1) = ((i + 1 : Nat) : Int) := by push_cast; rfl
    rw [a2, List.countP_cons] at q3
    rw [a1]
    refine wpAny_bind (q2 i l1 _ _ ?_)
    wp_walk
    rw [a4]
    refine ⟨plainId_quiet plain_count_loop _, codeAny_builtin entry_count_loop ?_⟩
    rw [Around.under_plainId plain_count_loop _]
    refine ih (i + 1) _ (by omega) A R _ ⟨q1, q2, ?_⟩
    cases c : e i with
    | false =>
      simp only [c, Bool.false_eq_true, if_false, Nat.add_zero] at q3 ⊢
      exact q3
    | true =>
      simp only [c, if_true] at q3 ⊢
      have e1 : found + 1 + ((List.countP e (List.drop (i + 1) (List.range xs.size)) : Nat) : Int) = found + ((List.countP e (List.drop (i + 1) (List.range xs.size)) + 1 : Nat) : Int) := by push_cast; omega
      rw [e1]
      exact q3
theorem list_countI {x : Value} : MeetsIn P w (Builtin.«list.count» ⟨[.ref l, x], []⟩)
    (fun A R s => s.heap.get? l = some (LObj xs n d1 s1) ∧ Each1 P w A.in1 s xs x e ∧ R (.ok (.ret (.int ((List.range xs.size).countP e : Nat) s.toks))) { s with toks := s.toks + 1 }) := by
  intro A R s q
  obtain ⟨hp, gs, d, tk, os⟩ := s
  obtain ⟨q1, q2, q3⟩ := q
  wp_walk using wpAny_loadPart' q1
  refine ⟨plainId_quiet plain_count_loop _, codeAny_builtin entry_count_loop ?_⟩
  rw [Around.under_plainId plain_count_loop _]
  exact count_loopI _ 0 0 rfl A R _ ⟨q1, q2, by simpa using q3⟩
theorem contains_loopI {x : Value} (k : Nat) : ∀ i : Nat, xs.size - i = k → MeetsIn P w (Builtin.«list.__contains__.loop» ⟨[.ref l, x, rawInt i], []⟩)
    (fun A R s => s.heap.get? l = some (LObj xs n d1 s1) ∧ Each1 P w A.in1 s xs x e ∧ R (.ok (.ret (.bool (((List.range xs.size).drop i).any e)))) s) := by
  induction k with
  | zero =>
    intro i hk A R s q
    obtain ⟨hp, gs, d, tk, os⟩ := s
    obtain ⟨q1, q2, q3⟩ := q
    wp_walk using wpAny_loadPart' q1
    have a1 : xs[((i : Nat) : Int).toNat]? = none := by simp; omega
    have a2 : (List.range xs.size).drop i = [] := by simp; omega
    rw [a2] at q3
    rw [a1]
    wp_walk
    exact q3
  | succ k ih =>
    intro i hk A R s q
    obtain ⟨hp, gs, d, tk, os⟩ := s
    obtain ⟨q1, q2, q3⟩ := q
    wp_walk using wpAny_loadPart' q1
    have l1 : i < xs.size := by omega
    have a1 : xs[((i : Nat) : Int).toNat]? = some xs[i] := by simp [l1]
    have a2 : (List.range xs.size).drop i = i :: (List.range xs.size).drop (i + 1) := by simp [List.drop_eq_getElem_cons, l1]
    have a4 : ((i : Int) + 1) = ((i + 1 : Nat) : Int) := by push_cast; rfl
    rw [a2, List.any_cons] at q3
    rw [a1]
    refine wpAny_bind (q2 i l1 _ _ ?_)
    cases c : e i with
    | true =>
      rw [c] at q3
      wp_walk
      exact q3
    | false =>
      rw [c] at q3
      wp_walk
      rw [a4]
      refine ⟨plainId_quiet plain_contains_loop _, codeAny_builtin entry_contains_loop ?_⟩
      rw [Around.under_plainId plain_contains_loop _]
      exact ih (i + 1) (by omega) A R _ ⟨q1, q2, by simpa using q3⟩
theorem list_containsI {x : Value} : MeetsIn P w (Builtin.«list.__contains__» ⟨[.ref l, x], []⟩)
    (fun A R s => s.heap.get? l = some (LObj xs n d1 s1) ∧ Each1 P w A.in1 s xs x e ∧ R (.ok (.ret (.bool ((List.range xs.size).any e)))) s) := by
  intro A R s q
  obtain ⟨hp, gs, d, tk, os⟩ := s
  obtain ⟨q1, q2, q3⟩ := q
  wp_walk using wpAny_loadPart' q1
  refine ⟨plainId_quiet plain_contains_loop _, codeAny_builtin entry_contains_loop ?_⟩
  rw [Around.under_plainId plain_contains_loop _]
  exact contains_loopI _ 0 rfl A R _ ⟨q1, q2, by simpa using q3⟩
end
section
variable {P : Program} {w : World} {A : Around} {s : Shared} {l b : Addr} {xs ys : Array Value} {e : Nat → Bool} {E : Value → Shared → Prop} {Q : Value → Shared → Prop}
theorem rcI_ne_lists (hl : s.heap.IsList l xs) (hb : s.heap.IsList b ys) (hz : xs.size = ys.size) (hu : A.units < cLine) (he : Each P w A.in1 s xs ys e) (h : Q (.bool (!(List.range xs.size).all e)) s) :
    wpAny (model P w) A (richCompare .NotEq (.ref l) (.ref b)) Q E s := by
  obtain ⟨⟨c1, d1, o1, s1⟩, g1, rfl, n1, rfl⟩ := id hl
  obtain ⟨⟨c2, d2, o2, s2⟩, g2, rfl, n2, rfl⟩ := id hb
  exact wpAny_richCompare_same_room (T := "list") (op := .NotEq) ⟨_, g1, rfl⟩ ⟨_, g2, rfl⟩ F.slot_list_ne (call_meetsIn F.slot_list_ne ⟨_, g1, rfl⟩ F.entry_list_ne (F.args_list_ne_2 _ _) (list_neI (e := e) hz) ⟨g1, g2, he, show Value.bool _ ≠ Value.notImplemented ∧ Q _ s from ⟨(fun z => nomatch z), h⟩⟩) hu
theorem rcI_ne_tuples (hl : s.heap.IsTuple l xs) (hb : s.heap.IsTuple b ys) (hu : A.units < cLine) (he : Each P w A.in1 s xs ys e) (h : Q (.bool (!((List.range (min xs.size ys.size)).all e && xs.size == ys.size))) s) :
    wpAny (model P w) A (richCompare .NotEq (.ref l) (.ref b)) Q E s := by
  obtain ⟨⟨c1, d1, o1, s1⟩, g1, rfl, n1, rfl⟩ := id hl
  obtain ⟨⟨c2, d2, o2, s2⟩, g2, rfl, n2, rfl⟩ := id hb
  exact wpAny_richCompare_same_room (T := "tuple") (op := .NotEq) ⟨_, g1, rfl⟩ ⟨_, g2, rfl⟩ F.slot_tuple_ne (call_meetsIn F.slot_tuple_ne ⟨_, g1, rfl⟩ F.entry_tuple_ne (F.args_tuple_ne_2 _ _) (tuple_neI (e := e)) ⟨g1, g2, he, show Value.bool _ ≠ Value.notImplemented ∧ Q _ s from ⟨(fun z => nomatch z), h⟩⟩) hu
theorem count_listI {x : Value} (hl : s.heap.IsList l xs) (he : Each1 P w A.in1 s xs x e) (h : Q (.int ((List.range xs.size).countP e : Nat) s.toks) { s with toks := s.toks + 1 }) :
    wpAny (model P w) A (call (.builtin "list.count") [.ref l, x]) Q E s := by
  obtain ⟨⟨c1, d1, o1, s1⟩, g1, rfl, n1, rfl⟩ := id hl
  exact call_meetsIn F.slot_list_count ⟨_, g1, rfl⟩ F.entry_list_count (F.args_list_count_2 _ _) (list_countI (e := e)) ⟨g1, he, h⟩
theorem has_listI {x : Value} (neg : Bool) (hl : s.heap.IsList l xs) (he : Each1 P w A.in1 s xs x e) (h : Q (.bool (if neg then !(List.range xs.size).any e else (List.range xs.size).any e)) s) :
    wpAny (model P w) A (compareOp (if neg then .NotIn else .In) x (.ref l)) Q E s := by
  obtain ⟨⟨c1, d1, o1, s1⟩, g1, rfl, n1, rfl⟩ := id hl
  have main : ∀ R : Bool → Shared → Prop, R ((List.range xs.size).any e) s → wpAny (model P w) A (contains (.ref l) x) R E s := fun R r => by
    refine wpAny_contains_slot (T := "list") ⟨_, g1, rfl⟩ F.slot_list_contains (call_meetsIn F.slot_list_contains ⟨_, g1, rfl⟩ F.entry_list_contains (F.args_list_contains_2 _ _) (list_containsI (e := e)) ⟨g1, he, ?_⟩)
    exact wpAny_truthy_bool r
  cases neg with
  | true =>
    show wpAny _ A (do return .bool (!(← contains (.ref l) x))) Q E s
    exact wpAny_bind (main _ (wpAny_pure h))
  | false =>
    show wpAny _ A (do return .bool (← contains (.ref l) x)) Q E s
    exact wpAny_bind (main _ (wpAny_pure h))
end
end Z
end
section
set_option Elab.async false
set_option linter.all false
set_option maxRecDepth 100000
set_option maxHeartbeats 4000000
/-! Ze: the machine's comparison answers eqF. -/
namespace Z
open PySem PySem.Spec PyProof.Rows L2 PySem.SeqAt
open PySem.W (EqTree)

def EqC (dd : Bool) (P : Program) (w : World) (s : Shared) (n : Nat) (v y : Value) (b : Bool) : Prop := match dd with
  | true => EqTree P w s n v y b
  | false => ∀ A : Around, A.units + n < cLine → EqAt A s v y b
section
variable {dd : Bool} {P : Program} {w : World} {s : Shared} {n : Nat} {v y : Value} {b : Bool}
theorem EqC.leaf (h : ∀ A : Around, A.units + n < cLine → EqAt A s v y b) : EqC dd P w s n v y b := by
  cases dd with
  | true => exact .leaf h
  | false => exact h
theorem EqC.run (h : EqC dd P w s n v y b) {A : Around} (hu : A.units + n < cLine) : EqIn P w A s v y b := by
  cases dd with
  | true => exact EqTree.at h A hu
  | false => exact EqAt.inModel (h A hu) P w
theorem flat_list {x : V} {v : Value} {A : Around} {l : Addr} {its : Array Value} (rx : RelV x v) (f : flatV x = true) (hl : s.heap.IsList l its) (hu : A.units < cLine) : EqAt A s v (.ref l) false ∧ EqAt A s (.ref l) v false := by
  cases x with
  | non => cases rx; exact ⟨.none_list hl hu, .list_none hl hu⟩
  | bl b => cases rx; exact ⟨.bool_list b hl hu, .list_bool b hl hu⟩
  | int i => obtain ⟨t, rfl⟩ := rx; exact ⟨.int_list i t hl hu, .list_int i t hl hu⟩
  | str i => obtain ⟨t, rfl⟩ := rx; exact ⟨.str_list i t hl hu, .list_str i t hl hu⟩
  | _ => cases f
theorem flat_tup {x : V} {v : Value} {A : Around} {l : Addr} {its : Array Value} (rx : RelV x v) (f : flatV x = true) (hl : IsTup s.heap l its) (hu : A.units < cLine) : EqAt A s v (.ref l) false ∧ EqAt A s (.ref l) v false := by
  cases x with
  | non => cases rx; exact ⟨.none_tuple hl hu, .tuple_none hl hu⟩
  | bl b => cases rx; exact ⟨.bool_tuple b hl hu, .tuple_bool b hl hu⟩
  | int i => obtain ⟨t, rfl⟩ := rx; exact ⟨.int_tuple i t hl hu, .tuple_int i t hl hu⟩
  | str i => obtain ⟨t, rfl⟩ := rx; exact ⟨.str_tuple i t hl hu, .tuple_str i t hl hu⟩
  | _ => cases f
theorem EqC.lists {l l' : Addr} {vs vs' : Array Value} {e : Nat → Bool} (hne : l ≠ l') (h1 : s.heap.IsList l vs) (h2 : s.heap.IsList l' vs') (hz : vs.size = vs'.size)
    (he : ∀ j (a : j < vs.size) (c : j < vs'.size), EqC dd P w s n vs[j] vs'[j] (e j)) : EqC dd P w s (n + 1) (.ref l) (.ref l') ((List.range vs.size).all e) := by
  cases dd with
  | true => exact .lists hne h1 h2 hz he
  | false => exact fun A hu => .of_refs hne (RcAt.lists h1 h2 hz (by omega) fun j a c => he j a c _ (by show A.units + 1 + n < _; omega))
theorem EqC.tuples {l l' : Addr} {vs vs' : Array Value} {e : Nat → Bool} (hne : l ≠ l') (h1 : IsTup s.heap l vs) (h2 : IsTup s.heap l' vs')
    (he : ∀ j (a : j < vs.size) (c : j < vs'.size), EqC dd P w s n vs[j] vs'[j] (e j)) : EqC dd P w s (n + 1) (.ref l) (.ref l') ((List.range (min vs.size vs'.size)).all e && vs.size == vs'.size) := by
  cases dd with
  | true => exact .tuples hne h1 h2 he
  | false => exact fun A hu => .of_refs hne (RcAt.tuples h1 h2 (by omega) fun j a c => he j a c _ (by show A.units + 1 + n < _; omega))
theorem EqC.same : EqC dd P w s n v v true := by
  cases dd with
  | true => exact .same
  | false => exact fun A _ => .same v
end

section
variable {X : Cx} {C : Cfg} {mu : Mu} {pins : List (Addr × Obj)} {σ : L2.St} {H : Hp} {s : Shared}
theorem Rep.flat {t : T} {x : V} (r : Rep C mu H t x) (f : flatT t = true) : flatV x = true := by
  cases r <;> first | rfl | cases f
/-- the items of two lists -/
theorem items_c {dd : Bool} {n : Nat} {P : Program} {w : World} {xs ys : List T} {vs ws : List V} {us ts : List Value} {b : Bool} (r1 : RepL C mu H xs vs) (q1 : Vals vs us) (r2 : RepL C mu H ys ws) (q2 : Vals ws ts) (h : allZ (eqF dd n) xs ys = some b)
    (ih : ∀ t u x y v w' b, Rep C mu H t x → Rep C mu H u y → RelV x v → RelV y w' → eqF dd n t u = some b → EqC dd P w s n v w' b) :
    ∃ e : Nat → Bool, b = (List.range (min us.length ts.length)).all e ∧ ∀ j (a : j < us.toArray.size) (c : j < ts.toArray.size), EqC dd P w s n us.toArray[j] ts.toArray[j] (e j) := by
  obtain ⟨h1, h2⟩ := allZ_at h
  refine ⟨fun j => match xs[j]?, ys[j]? with
    | some x, some y => (eqF dd n x y).getD false
    | _, _ => false, ?_, fun j a c => ?_⟩
  · have e := h2 _ fun j x y e1 e2 => by
      obtain ⟨c, hc⟩ := h1 j x y e1 e2
      show _ = some (match xs[j]?, ys[j]? with
        | some x, some y => (eqF dd n x y).getD false
        | _, _ => false)
      rw [e1, e2, hc]
      simp only
      rw [hc]
      rfl
    rw [e, r1.length, r2.length, q1.length, q2.length]
  · have a' : j < us.length := by simpa using a
    have c' : j < ts.length := by simpa using c
    obtain ⟨t, x, e1, e2, rt, rx⟩ := r1.vals q1 (List.getElem?_eq_getElem a')
    obtain ⟨u, y, e3, e4, ru, ry⟩ := r2.vals q2 (List.getElem?_eq_getElem c')
    obtain ⟨b', hb⟩ := h1 j t u e1 e3
    simp only [e1, e3, hb, Option.getD_some]
    exact ih t u x y _ _ b' rt ru (by simpa using rx) (by simpa using ry) hb
theorem eqD_c {P : Program} {w : World} {n : Nat} {ks ls : List (Str × T)} {va vb : List (Key × Value)} {c : Bool} (R1 : RDV C mu H ks va) (R2 : RDV C mu H ls vb) (nd : (va.map (·.1)).Nodup) (h : eqD (eqF true n) ls ks = some c)
    (ih : ∀ t u x y v w' b, Rep C mu H t x → Rep C mu H u y → RelV x v → RelV y w' → eqF true n t u = some b → EqC true P w s n v w' b) :
    ∃ e : Key → Bool, c = (va.all fun p => (valueAt vb p.1).isSome && e p.1) ∧ ∀ k v y, (k, v) ∈ va → valueAt vb k = some y → EqTree P w s n v y (e k) := by
  obtain ⟨h1, h2⟩ := eqD_at h
  refine ⟨fun k => match k with
    | .inr z => (match ks.lookup z, ls.lookup z with
      | some t, some u => (eqF true n t u).getD false
      | _, _ => false)
    | _ => false, ?_, fun k v y hm hy => ?_⟩
  · rw [h2]
    refine all_rdv R1 fun k t x v hm rx => ?_
    have l2 := R2.look k
    have lk := lookup_of_mem (R1.nodup nd) hm
    simp only [lk]
    cases e : ls.lookup k with
    | none =>
      rw [e] at l2
      simp [l2]
    | some u =>
      rw [e] at l2
      obtain ⟨x', v', e1, _⟩ := l2
      simp [e1]
  · obtain ⟨z, t, x, m, ek, rt, rx⟩ := R1.mem hm
    simp only at ek rx
    subst ek
    have lk := lookup_of_mem (R1.nodup nd) m
    have l2 := R2.look z
    cases e : ls.lookup z with
    | none =>
      rw [e] at l2
      rw [l2] at hy
      cases hy
    | some u =>
      rw [e] at l2
      obtain ⟨x', v', e1, e2, e3⟩ := l2
      rw [e1] at hy
      cases hy
      obtain ⟨c', hc⟩ := h1 (z, t) m u e
      simp only at hc
      simp only [lk, e, hc, Option.getD_some]
      exact ih t u x x' v _ c' rt e2 rx e3 hc
theorem eqF_ok (dd : Bool) (hK : C.K = X.K) (I : Inv X pins σ H s) : ∀ (n : Nat) (t u : T) (x y : V) (v w' : Value) (b : Bool), Rep C mu H t x → Rep C mu H u y → RelV x v → RelV y w' → eqF dd n t u = some b → EqC dd X.prog X.w s n v w' b
  | 0, _, _, _, _, _, _, _, _, _, _, _, h => by simp [eqF] at h
  | n + 1, t, u, x, y, v, w', b, rt, ru, rx, ry, h => by
    have ih := eqF_ok dd hK I n
    have flats : flatT t = true → flatT u = true → eqV x y = b → EqC dd X.prog X.w s (n + 1) v w' b := fun f1 f2 e => by
      subst e
      exact .leaf fun A _ => eqAt_V rx ry (rt.flat f1) (ru.flat f2)
    cases rt with
    | non =>
      cases ru with
      | non => exact flats rfl rfl (by simp [eqF] at h; subst h; rfl)
      | bl => exact flats rfl rfl (by simp [eqF, flatT] at h; subst h; rfl)
      | int => exact flats rfl rfl (by simp [eqF, flatT] at h; subst h; rfl)
      | str => exact flats rfl rfl (by simp [eqF, flatT] at h; subst h; rfl)
      | lst f r =>
        obtain ⟨its, q, p, _⟩ := f.heap I
        cases ry
        have e : b = false := by simp [eqF, flatT, seqT] at h; exact h
        subst e
        exact .leaf fun A hu => (flat_list rx rfl p (by omega)).1
      | tup f r =>
        obtain ⟨its, q, p, _⟩ := f.heap hK I
        cases ry
        have e : b = false := by simp [eqF, flatT, seqT] at h; exact h
        subst e
        exact .leaf fun A hu => (flat_tup rx rfl p (by omega)).1
      | _ => simp [eqF, flatT, seqT] at h
    | bl c =>
      cases ru with
      | non => exact flats rfl rfl (by simp [eqF, flatT] at h; subst h; rfl)
      | bl => exact flats rfl rfl (by simpa [eqF, eqV] using h)
      | int => exact flats rfl rfl (by simpa [eqF, eqV] using h)
      | str => exact flats rfl rfl (by simp [eqF, flatT] at h; subst h; rfl)
      | lst f r =>
        obtain ⟨its, q, p, _⟩ := f.heap I
        cases ry
        have e : b = false := by simp [eqF, flatT, seqT] at h; exact h
        subst e
        exact .leaf fun A hu => (flat_list rx rfl p (by omega)).1
      | tup f r =>
        obtain ⟨its, q, p, _⟩ := f.heap hK I
        cases ry
        have e : b = false := by simp [eqF, flatT, seqT] at h; exact h
        subst e
        exact .leaf fun A hu => (flat_tup rx rfl p (by omega)).1
      | _ => simp [eqF, flatT, seqT] at h
    | int c =>
      cases ru with
      | non => exact flats rfl rfl (by simp [eqF, flatT] at h; subst h; rfl)
      | bl => exact flats rfl rfl (by simpa [eqF, eqV] using h)
      | int => exact flats rfl rfl (by simpa [eqF, eqV] using h)
      | str => exact flats rfl rfl (by simp [eqF, flatT] at h; subst h; rfl)
      | lst f r =>
        obtain ⟨its, q, p, _⟩ := f.heap I
        cases ry
        have e : b = false := by simp [eqF, flatT, seqT] at h; exact h
        subst e
        exact .leaf fun A hu => (flat_list rx rfl p (by omega)).1
      | tup f r =>
        obtain ⟨its, q, p, _⟩ := f.heap hK I
        cases ry
        have e : b = false := by simp [eqF, flatT, seqT] at h; exact h
        subst e
        exact .leaf fun A hu => (flat_tup rx rfl p (by omega)).1
      | _ => simp [eqF, flatT, seqT] at h
    | str c =>
      cases ru with
      | non => exact flats rfl rfl (by simp [eqF, flatT] at h; subst h; rfl)
      | bl => exact flats rfl rfl (by simp [eqF, flatT] at h; subst h; rfl)
      | int => exact flats rfl rfl (by simp [eqF, flatT] at h; subst h; rfl)
      | str => exact flats rfl rfl (by simpa [eqF, eqV] using h)
      | lst f r =>
        obtain ⟨its, q, p, _⟩ := f.heap I
        cases ry
        have e : b = false := by simp [eqF, flatT, seqT] at h; exact h
        subst e
        exact .leaf fun A hu => (flat_list rx rfl p (by omega)).1
      | tup f r =>
        obtain ⟨its, q, p, _⟩ := f.heap hK I
        cases ry
        have e : b = false := by simp [eqF, flatT, seqT] at h; exact h
        subst e
        exact .leaf fun A hu => (flat_tup rx rfl p (by omega)).1
      | _ => simp [eqF, flatT, seqT] at h
    | ty c => cases u <;> simp [eqF, flatT, seqT] at h
    | ob c => cases u <;> simp [eqF, flatT, seqT] at h
    | cel => cases u <;> simp [eqF, flatT, seqT] at h
    | ins => cases u <;> simp [eqF, flatT, seqT] at h
    | fz => cases u <;> simp [eqF, flatT, seqT] at h
    | @lst xs la lv f r =>
      obtain ⟨its, q, p, _⟩ := f.heap I
      cases rx
      have oth : ∀ {y : V} {u : T}, Rep C mu H u y → RelV y w' → flatT u = true → b = false → EqC dd X.prog X.w s (n + 1) (.ref la) w' b := fun {y u} ru ry f e => by
        subst e
        exact .leaf fun A hu => (flat_list ry (ru.flat f) p (by omega)).2
      cases ru with
      | non => exact oth .non ry rfl (by simp [eqF, flatT, seqT] at h; exact h)
      | bl c => exact oth (.bl c) ry rfl (by simp [eqF, flatT, seqT] at h; exact h)
      | int c => exact oth (.int c) ry rfl (by simp [eqF, flatT, seqT] at h; exact h)
      | str c => exact oth (.str c) ry rfl (by simp [eqF, flatT, seqT] at h; exact h)
      | tup f' r' =>
        obtain ⟨its', q', p', _⟩ := f'.heap hK I
        cases ry
        have e : b = false := by simp [eqF, flatT, seqT] at h; exact h
        subst e
        exact .leaf fun A hu => .list_tuple p p' (by omega)
      | @lst ys lb lw f' r' =>
        obtain ⟨its', q', p', _⟩ := f'.heap I
        cases ry
        by_cases e : la = lb
        · subst e
          have e2 := eq_same dd hK I (n + 1) _ _ _ b (.lst f r) (.lst f' r') h
          subst e2
          exact .same
        · have n1 := r.length.trans q.length
          have n2 := r'.length.trans q'.length
          simp only [eqF] at h
          by_cases hz : xs.length = ys.length
          · rw [if_pos hz] at h
            obtain ⟨e, hb, he⟩ := items_c r q r' q' h ih
            rw [hb, show min its.length its'.length = its.toArray.size by simp; omega]
            exact .lists ‹_› p p' (by simp; omega) he
          · rw [if_neg hz] at h
            have eb : b = false := by simpa using h.symm
            subst eb
            exact .leaf fun A hu => .of_refs e (RcAt.lists_lengths p p' (by simp; omega) (by omega))
      | _ => simp [eqF, flatT, seqT] at h
    | @tup xs la lv f r =>
      obtain ⟨its, q, p, _⟩ := f.heap hK I
      cases rx
      have oth : ∀ {y : V} {u : T}, Rep C mu H u y → RelV y w' → flatT u = true → b = false → EqC dd X.prog X.w s (n + 1) (.ref la) w' b := fun {y u} ru ry f e => by
        subst e
        exact .leaf fun A hu => (flat_tup ry (ru.flat f) p (by omega)).2
      cases ru with
      | non => exact oth .non ry rfl (by simp [eqF, flatT, seqT] at h; exact h)
      | bl c => exact oth (.bl c) ry rfl (by simp [eqF, flatT, seqT] at h; exact h)
      | int c => exact oth (.int c) ry rfl (by simp [eqF, flatT, seqT] at h; exact h)
      | str c => exact oth (.str c) ry rfl (by simp [eqF, flatT, seqT] at h; exact h)
      | lst f' r' =>
        obtain ⟨its', q', p', _⟩ := f'.heap I
        cases ry
        have e : b = false := by simp [eqF, flatT, seqT] at h; exact h
        subst e
        exact .leaf fun A hu => .tuple_list p p' (by omega)
      | @tup ys lb lw f' r' =>
        obtain ⟨its', q', p', _⟩ := f'.heap hK I
        cases ry
        by_cases e : la = lb
        · subst e
          have e2 := eq_same dd hK I (n + 1) _ _ _ b (.tup f r) (.tup f' r') h
          subst e2
          exact .same
        · have n1 := r.length.trans q.length
          have n2 := r'.length.trans q'.length
          simp only [eqF] at h
          split at h
          · rename_i c hc
            obtain ⟨e, hb, he⟩ := items_c r q r' q' hc ih
            have h' : (c && xs.length == ys.length) = b := by simpa using h
            rw [← h', hb, n1, n2]
            have := EqC.tuples (dd := dd) (P := X.prog) (w := X.w) (n := n) ‹_› p p' he
            simpa using this
          · cases h
      | _ => simp [eqF, flatT, seqT] at h
    | @dct ks la ws f r =>
      cases ru with
      | @dct ls lb ws' f' r' =>
        cases rx
        cases ry
        by_cases e : la = lb
        · subst e
          have e2 := eq_same dd hK I (n + 1) _ _ _ b (.dct f r) (.dct f' r') h
          subst e2
          exact .same
        · cases dd with
          | false => simp [eqF] at h
          | true =>
            obtain ⟨z1, z2, vs, kv, d⟩ := dk_rd I.hok f.1
            obtain ⟨z1', z2', vs', kv', d'⟩ := dk_rd I.hok f'.1
            have R1 := rdv_of r kv
            have R2 := rdv_of r' kv'
            have nd : (vs.map (·.1)).Nodup := by obtain ⟨_, _, _, _, _, _, _, _, nd⟩ := d; exact nd
            simp only [eqF, if_true] at h
            split at h
            · rename_i c hc
              obtain ⟨e, hb, he⟩ := eqD_c R1 R2 nd hc ih
              have h' : (ks.length == ls.length && c) = b := by simpa using h
              rw [← h', hb, R1.length, R2.length]
              exact .dicts ‹_› z2 z2' d d' he
            · cases h
      | _ => simp [eqF, flatT, seqT] at h
end
end Z
end
section
set_option Elab.async false
set_option linter.all false
set_option maxRecDepth 100000
set_option maxHeartbeats 4000000
/-! Zf: ==, != as operators; arithmetic, texts, lists, tuples; truth. -/
namespace Z
open PySem PySem.Spec PyProof.Rows L2 PySem.SeqAt
open PySem.W (EqTree)

theorem rcAt_V {A : Around} {s : Shared} {y x : V} {u v : Value} (ry : RelV y u) (rx : RelV x v) (fy : flatV y = true) (fx : flatV x = true) : RcAt A s u v (eqV y x) ∧ RcNeAt A s u v (!eqV y x) := by
  cases y with
  | non =>
    cases ry
    cases x with
    | non => cases rx; exact ⟨.none_none, .none_none⟩
    | bl b => cases rx; exact ⟨.none_bool b, .none_bool b⟩
    | int b => obtain ⟨t, rfl⟩ := rx; exact ⟨.none_int b t, .none_int b t⟩
    | str b => obtain ⟨t, rfl⟩ := rx; exact ⟨.none_str b t, .none_str b t⟩
    | _ => cases fx
  | bl a =>
    cases ry
    cases x with
    | non => cases rx; exact ⟨.bool_none a, .bool_none a⟩
    | bl b => cases rx; exact ⟨.bool_bool a b, .bool_bool a b⟩
    | int b => obtain ⟨t, rfl⟩ := rx; exact ⟨.bool_int a b t, .bool_int a b t⟩
    | str b => obtain ⟨t, rfl⟩ := rx; exact ⟨.bool_str a b t, .bool_str a b t⟩
    | _ => cases fx
  | int a =>
    obtain ⟨k, rfl⟩ := ry
    cases x with
    | non => cases rx; exact ⟨.int_none a k, .int_none a k⟩
    | bl b => cases rx; exact ⟨.int_bool a k b, .int_bool a k b⟩
    | int b => obtain ⟨t, rfl⟩ := rx; exact ⟨.int_int a k b t, .int_int a k b t⟩
    | str b => obtain ⟨t, rfl⟩ := rx; exact ⟨.int_str a k b t, .int_str a k b t⟩
    | _ => cases fx
  | str a =>
    obtain ⟨k, rfl⟩ := ry
    cases x with
    | non => cases rx; exact ⟨.str_none a k, .str_none a k⟩
    | bl b => cases rx; exact ⟨.str_bool a k b, .str_bool a k b⟩
    | int b => obtain ⟨t, rfl⟩ := rx; exact ⟨.str_int a k b t, .str_int a k b t⟩
    | str b => obtain ⟨t, rfl⟩ := rx; exact ⟨.str_str a k b t, .str_str a k b t⟩
    | _ => cases fx
  | _ => cases fy
theorem rc_list {A : Around} {s : Shared} {x : V} {v : Value} {l : Addr} {its : Array Value} (rx : RelV x v) (f : flatV x = true) (hl : s.heap.IsList l its) (hu : A.units < cLine) :
    (RcAt A s v (.ref l) false ∧ RcAt A s (.ref l) v false) ∧ RcNeAt A s v (.ref l) true ∧ RcNeAt A s (.ref l) v true := by
  cases x with
  | non => cases rx; exact ⟨⟨.none_list hl hu, .list_none hl hu⟩, .none_list hl hu, .list_none hl hu⟩
  | bl b => cases rx; exact ⟨⟨.bool_list b hl hu, .list_bool b hl hu⟩, .bool_list b hl hu, .list_bool b hl hu⟩
  | int i => obtain ⟨t, rfl⟩ := rx; exact ⟨⟨.int_list i t hl hu, .list_int i t hl hu⟩, .int_list i t hl hu, .list_int i t hl hu⟩
  | str i => obtain ⟨t, rfl⟩ := rx; exact ⟨⟨.str_list i t hl hu, .list_str i t hl hu⟩, .str_list i t hl hu, .list_str i t hl hu⟩
  | _ => cases f
theorem rc_tup {A : Around} {s : Shared} {x : V} {v : Value} {l : Addr} {its : Array Value} (rx : RelV x v) (f : flatV x = true) (hl : IsTup s.heap l its) (hu : A.units < cLine) :
    (RcAt A s v (.ref l) false ∧ RcAt A s (.ref l) v false) ∧ RcNeAt A s v (.ref l) true ∧ RcNeAt A s (.ref l) v true := by
  cases x with
  | non => cases rx; exact ⟨⟨.none_tuple hl hu, .tuple_none hl hu⟩, .none_tuple hl hu, .tuple_none hl hu⟩
  | bl b => cases rx; exact ⟨⟨.bool_tuple b hl hu, .tuple_bool b hl hu⟩, .bool_tuple b hl hu, .tuple_bool b hl hu⟩
  | int i => obtain ⟨t, rfl⟩ := rx; exact ⟨⟨.int_tuple i t hl hu, .tuple_int i t hl hu⟩, .int_tuple i t hl hu, .tuple_int i t hl hu⟩
  | str i => obtain ⟨t, rfl⟩ := rx; exact ⟨⟨.str_tuple i t hl hu, .tuple_str i t hl hu⟩, .str_tuple i t hl hu, .tuple_str i t hl hu⟩
  | _ => cases f

/-- both comparisons at the top -/
structure Rc2 (P : Program) (w : World) (A : Around) (s : Shared) (v u : Value) (b : Bool) : Prop where
  eq : ∀ (E Q : Value → Shared → Prop), Q (.bool b) s → wpAny (model P w) A (compareOp .Eq v u) Q E s
  ne : ∀ (E Q : Value → Shared → Prop), Q (.bool (!b)) s → wpAny (model P w) A (compareOp .NotEq v u) Q E s
theorem Rc2.of {P : Program} {w : World} {A : Around} {s : Shared} {v u : Value} {b c : Bool} (h1 : RcAt A s v u b) (h2 : RcNeAt A s v u c) (e : c = !b) : Rc2 P w A s v u b :=
  ⟨fun E Q q => h1 P w E Q q, fun E Q q => h2 P w E Q (by rw [e]; exact q)⟩
section
variable {X : Cx} {C : Cfg} {mu : Mu} {pins : List (Addr × Obj)} {σ : L2.St} {H : Hp} {s : Shared}
theorem Bk.rep {t : T} {x : V} (r : Bk C mu H t x) (f : flatT t = true) : Rep C mu H t x := by
  cases t with
  | non => exact r
  | bl => exact r
  | int => exact r
  | str => exact r
  | _ => cases f
theorem Bk.flat {t : T} {x : V} (r : Bk C mu H t x) (f : flatT t = true) : flatV x = true := (r.rep f).flat f
theorem flat_eqV {dd : Bool} {n : Nat} {t u : T} {x y : V} {b : Bool} (rt : Rep C mu H t x) (ru : Rep C mu H u y) (f1 : flatT t = true) (f2 : flatT u = true) (h : eqF dd (n + 1) t u = some b) : eqV x y = b := by
  cases rt with
  | non =>
    cases ru with
    | non => simp [eqF] at h; subst h; rfl
    | bl => simp [eqF, flatT] at h; subst h; rfl
    | int => simp [eqF, flatT] at h; subst h; rfl
    | str => simp [eqF, flatT] at h; subst h; rfl
    | _ => cases f2
  | bl =>
    cases ru with
    | non => simp [eqF, flatT] at h; subst h; rfl
    | bl => simpa [eqF, eqV] using h
    | int => simpa [eqF, eqV] using h
    | str => simp [eqF, flatT] at h; subst h; rfl
    | _ => cases f2
  | int =>
    cases ru with
    | non => simp [eqF, flatT] at h; subst h; rfl
    | bl => simpa [eqF, eqV] using h
    | int => simpa [eqF, eqV] using h
    | str => simp [eqF, flatT] at h; subst h; rfl
    | _ => cases f2
  | str =>
    cases ru with
    | non => simp [eqF, flatT] at h; subst h; rfl
    | bl => simp [eqF, flatT] at h; subst h; rfl
    | int => simp [eqF, flatT] at h; subst h; rfl
    | str => simpa [eqF, eqV] using h
    | _ => cases f2
  | _ => cases f1
theorem bk_lst {xs : List T} {x : V} (I : Inv X pins σ H s) (h : Bk C mu H (.lst xs) x) : ∃ a vs its, x = .ref a ∧ RepL C mu H xs vs ∧ Vals vs its ∧ s.heap.IsList a its.toArray ∧ Rd H a (.lst vs) := by
  obtain ⟨a, vs, e, h1, h2⟩ := h
  obtain ⟨its, q, p, _⟩ := I.list (X := X) (.inl h1)
  exact ⟨a, vs, its, e, h2, q, p.isList, h1⟩
theorem bk_tup {xs : List T} {x : V} (hK : C.K = X.K) (I : Inv X pins σ H s) (h : Bk C mu H (.tup xs) x) : ∃ a vs its, x = .ref a ∧ RepL C mu H xs vs ∧ Vals vs its ∧ IsTup s.heap a its.toArray := by
  cases h with
  | tup f r =>
    obtain ⟨its, q, p, _⟩ := f.heap hK I
    exact ⟨_, _, its, rfl, r, q, p⟩
/-- the comparison of two values (dicts: == alone) -/
theorem rc_top (hK : C.K = X.K) (I : Inv X pins σ H s) {t u : T} {x y : V} {v w' : Value} {b : Bool} {n : Nat} (rt : Bk C mu H t x) (ru : Bk C mu H u y) (rx : RelV x v) (ry : RelV y w') (hu : X.A.units + (n + 1) < cLine) (h : eqF true (n + 1) t u = some b) :
    (∀ (E Q : Value → Shared → Prop), Q (.bool b) s → wpAny (model X.prog X.w) X.A (compareOp .Eq v w') Q E s) ∧
    ((∀ ks, t ≠ .dct ks) → ∀ (E Q : Value → Shared → Prop), Q (.bool (!b)) s → wpAny (model X.prog X.w) X.A (compareOp .NotEq v w') Q E s) := by
  have ih := eqF_ok (C := C) (mu := mu) true hK I n
  have hu' : X.A.units < cLine := by omega
  have fin : Rc2 X.prog X.w X.A s v w' b → (∀ (E Q : Value → Shared → Prop), Q (.bool b) s → wpAny (model X.prog X.w) X.A (compareOp .Eq v w') Q E s) ∧
    ((∀ ks, t ≠ .dct ks) → ∀ (E Q : Value → Shared → Prop), Q (.bool (!b)) s → wpAny (model X.prog X.w) X.A (compareOp .NotEq v w') Q E s) := fun r => ⟨r.eq, fun _ => r.ne⟩
  have flats : flatT t = true → flatT u = true → eqV x y = b → Rc2 X.prog X.w X.A s v w' b := fun f1 f2 e => by
    subst e
    obtain ⟨h1, h2⟩ := rcAt_V (A := X.A) (s := s) rx ry (rt.flat f1) (ru.flat f2)
    exact .of h1 h2 rfl
  have kind : (flatT t = true ∧ flatT u = true) ∨ (∃ xs ys, t = .lst xs ∧ u = .lst ys) ∨ (∃ xs ys, t = .tup xs ∧ u = .tup ys) ∨ (∃ xs ys, t = .dct xs ∧ u = .dct ys) ∨
      ((flatT t || seqT t) = true ∧ (flatT u || seqT u) = true ∧ b = false ∧ (∃ xs, t = .lst xs ∧ ∀ ys, u ≠ .lst ys) ∨ (flatT t || seqT t) = true ∧ (flatT u || seqT u) = true ∧ b = false ∧ (∃ xs, t = .tup xs ∧ ∀ ys, u ≠ .tup ys) ∨
        flatT t = true ∧ seqT u = true ∧ b = false) := by
    cases t <;> cases u <;> simp [eqF, flatT, seqT] at h ⊢ <;> exact h
  rcases kind with ⟨f1, f2⟩ | ⟨xs, ys, rfl, rfl⟩ | ⟨xs, ys, rfl, rfl⟩ | ⟨ks, ls, rfl, rfl⟩ | (⟨_, f2, rfl, xs, rfl, hn⟩ | ⟨_, f2, rfl, xs, rfl, hn⟩ | ⟨f1, f2, rfl⟩)
  · exact fin (flats f1 f2 (flat_eqV (rt.rep f1) (ru.rep f2) f1 f2 h))
  · obtain ⟨a, vs, its, rfl, r1, q1, p1, _⟩ := bk_lst I rt
    obtain ⟨c, ws, its', rfl, r2, q2, p2, _⟩ := bk_lst I ru
    cases rx
    cases ry
    have n1 := r1.length.trans q1.length
    have n2 := r2.length.trans q2.length
    simp only [eqF] at h
    refine fin ?_
    by_cases hz : xs.length = ys.length
    · rw [if_pos hz] at h
      obtain ⟨e, hb, he⟩ := items_c r1 q1 r2 q2 h ih
      have hm : min its.length its'.length = its.toArray.size := by simp; omega
      have hs : its.toArray.size = its'.toArray.size := by simp; omega
      rw [hm] at hb
      subst hb
      refine ⟨fun E Q q => PySem.W.eq_listsT p1 p2 hs he hu q, fun E Q q => rcI_ne_lists p1 p2 hs hu' (fun j a c => EqTree.at (he j a c) _ ?_) q⟩
      show X.A.units + 1 + n < cLine
      omega
    · rw [if_neg hz] at h
      have eb : b = false := by simpa using h.symm
      subst eb
      have hs : (its.toArray.size != its'.toArray.size) = true := by simp; omega
      exact .of (RcAt.lists_lengths p1 p2 hs hu') (RcNeAt.lists_lengths p1 p2 hs hu') rfl
  · obtain ⟨a, vs, its, rfl, r1, q1, p1⟩ := bk_tup hK I rt
    obtain ⟨c, ws, its', rfl, r2, q2, p2⟩ := bk_tup hK I ru
    cases rx
    cases ry
    have n1 := r1.length.trans q1.length
    have n2 := r2.length.trans q2.length
    simp only [eqF] at h
    refine fin ?_
    split at h
    · rename_i d hd
      obtain ⟨e, hb, he⟩ := items_c r1 q1 r2 q2 hd ih
      have h' : (d && xs.length == ys.length) = b := by simpa using h
      have hb' : b = ((List.range (min its.toArray.size its'.toArray.size)).all e && its.toArray.size == its'.toArray.size) := by
        rw [← h', hb, n1, n2]
        simp
      subst hb'
      refine ⟨fun E Q q => PySem.W.eq_tuplesT p1 p2 he hu q, fun E Q q => rcI_ne_tuples p1 p2 hu' (fun j a c => EqTree.at (he j a c) _ ?_) q⟩
      show X.A.units + 1 + n < cLine
      omega
    · cases h
  · obtain ⟨a, ws, rfl, g1, r1⟩ := rt
    obtain ⟨c, ws', rfl, g2, r2⟩ := ru
    cases rx
    cases ry
    obtain ⟨z1, z2, vs, kv, d⟩ := dk_rd I.hok g1
    obtain ⟨z1', z2', vs', kv', d'⟩ := dk_rd I.hok g2
    have R1 := rdv_of r1 kv
    have R2 := rdv_of r2 kv'
    have nd : (vs.map (·.1)).Nodup := by obtain ⟨_, _, _, _, _, _, _, _, nd⟩ := d; exact nd
    refine ⟨fun E Q q => ?_, fun z => absurd rfl (z ks)⟩
    simp only [eqF, if_true] at h
    split at h
    · rename_i d0 hd
      obtain ⟨e, hb, he⟩ := eqD_c R1 R2 nd hd ih
      have h' : (ks.length == ls.length && d0) = b := by simpa using h
      rw [← h', hb, R1.length, R2.length] at q
      exact PySem.W.eq_dictsT z2 z2' d d' he hu q
    · cases h
  · obtain ⟨a, vs, its, rfl, r1, q1, p1, _⟩ := bk_lst I rt
    cases rx
    refine fin ?_
    cases u with
    | lst ys => exact absurd rfl (hn ys)
    | tup ys =>
      obtain ⟨c, ws, its', rfl, r2, q2, p2⟩ := bk_tup hK I ru
      cases ry
      exact .of (RcAt.list_tuple p1 p2 hu') (RcNeAt.list_tuple p1 p2 hu') rfl
    | non => obtain ⟨⟨_, h1⟩, _, h2⟩ := rc_list (A := X.A) ry (ru.flat rfl) p1 hu'; exact .of h1 h2 rfl
    | bl c => obtain ⟨⟨_, h1⟩, _, h2⟩ := rc_list (A := X.A) ry (ru.flat rfl) p1 hu'; exact .of h1 h2 rfl
    | int c => obtain ⟨⟨_, h1⟩, _, h2⟩ := rc_list (A := X.A) ry (ru.flat rfl) p1 hu'; exact .of h1 h2 rfl
    | str c => obtain ⟨⟨_, h1⟩, _, h2⟩ := rc_list (A := X.A) ry (ru.flat rfl) p1 hu'; exact .of h1 h2 rfl
    | _ => cases f2
  · obtain ⟨a, vs, its, rfl, r1, q1, p1⟩ := bk_tup hK I rt
    cases rx
    refine fin ?_
    cases u with
    | tup ys => exact absurd rfl (hn ys)
    | lst ys =>
      obtain ⟨c, ws, its', rfl, r2, q2, p2, _⟩ := bk_lst I ru
      cases ry
      exact .of (RcAt.tuple_list p1 p2 hu') (RcNeAt.tuple_list p1 p2 hu') rfl
    | non => obtain ⟨⟨_, h1⟩, _, h2⟩ := rc_tup (A := X.A) ry (ru.flat rfl) p1 hu'; exact .of h1 h2 rfl
    | bl c => obtain ⟨⟨_, h1⟩, _, h2⟩ := rc_tup (A := X.A) ry (ru.flat rfl) p1 hu'; exact .of h1 h2 rfl
    | int c => obtain ⟨⟨_, h1⟩, _, h2⟩ := rc_tup (A := X.A) ry (ru.flat rfl) p1 hu'; exact .of h1 h2 rfl
    | str c => obtain ⟨⟨_, h1⟩, _, h2⟩ := rc_tup (A := X.A) ry (ru.flat rfl) p1 hu'; exact .of h1 h2 rfl
    | _ => cases f2
  · refine fin ?_
    cases u with
    | lst ys =>
      obtain ⟨c, ws, its', rfl, r2, q2, p2, _⟩ := bk_lst I ru
      cases ry
      obtain ⟨⟨h1, _⟩, h2, _⟩ := rc_list (A := X.A) rx (rt.flat f1) p2 hu'
      exact .of h1 h2 rfl
    | tup ys =>
      obtain ⟨c, ws, its', rfl, r2, q2, p2⟩ := bk_tup hK I ru
      cases ry
      obtain ⟨⟨h1, _⟩, h2, _⟩ := rc_tup (A := X.A) rx (rt.flat f1) p2 hu'
      exact .of h1 h2 rfl
    | _ => cases f2

def eqDepth : Nat := 30
def gEq : Op2 := fun t u M => match eqF true (eqDepth + 1) (der M t) (der M u) with
  | some b => some (.bl b, M)
  | none => none
def isDct : T → Bool
  | .dct _ => true
  | _ => false
def gNe : Op2 := fun t u M => match eqF true (eqDepth + 1) (der M t) (der M u) with
  | some b => if isDct (der M t) then none else some (.bl (!b), M)
  | none => none
theorem z_eq (hK : C.K = X.K) (hu : X.A.units + 64 < cLine) : OpR X (compareOp .Eq) (rZ C gEq) := by
  intro pins s σ H x y v u Q I rx ry h
  obtain ⟨mu, M, t, u', t', M', R, rt, ru, e, k⟩ := h
  unfold gEq at e
  split at e
  · rename_i b hb
    cases e
    refine (rc_top hK I (der_bk R rt) (der_bk R ru) rx ry (by unfold eqDepth; omega) hb).1 _ _ ?_
    exact ⟨.bl b, H, I, rfl, k mu _ H R Ext.refl (.bl b)⟩
  · cases e
theorem z_ne (hK : C.K = X.K) (hu : X.A.units + 64 < cLine) : OpR X (compareOp .NotEq) (rZ C gNe) := by
  intro pins s σ H x y v u Q I rx ry h
  obtain ⟨mu, M, t, u', t', M', R, rt, ru, e, k⟩ := h
  unfold gNe at e
  split at e
  · rename_i b hb
    split at e
    · cases e
    · rename_i hd
      cases e
      refine (rc_top hK I (der_bk R rt) (der_bk R ru) rx ry (by unfold eqDepth; omega) hb).2 (fun ks z => hd (by rw [z]; rfl)) _ _ ?_
      exact ⟨.bl (!b), H, I, rfl, k mu _ H R Ext.refl (.bl (!b))⟩
  · cases e
end
end Z
end
section
set_option Elab.async false
set_option linter.all false
set_option maxRecDepth 100000
set_option maxHeartbeats 4000000
/-! Zg: new objects; arithmetic; texts, lists, tuples joined; truth; tests. -/
namespace Z
open PySem PySem.Spec PyProof.Rows L2

def LIM : Nat := 16777216
theorem LIM_eq : LIM = sizeLine := by rw [sizeLine_eq]; rfl
/-- a new object: a cell, or a frozen value -/
def mk (m : Bool) (t : T) (M : Mem) : T × Mem := match m with
  | true => (.cel M.length, M ++ [.live t])
  | false => (t, M)
section
variable {C : Cfg} {mu : Mu} {M : Mem} {H : Hp} {t : T} {v : V} {p : Addr} {u : HO}
theorem mk_ok (m : Bool) (R : RM C mu M H) (hp : H p = none) (c : CU C mu H t u) : ∃ mu', RM C mu' (mk m t M).2 (upd H p u) ∧ Ext C mu H mu' (upd H p u) ∧ Rep C mu' (upd H p u) (mk m t M).1 (.ref p) := by
  cases m with
  | true =>
    refine ⟨mu ++ [some p], R.alloc hp c, Ext.cell hp, .cel (by rw [← R.len]; simp) fun a h => ?_⟩
    rw [← R.len] at h
    have : some p = some a := by simpa using h
    rw [Option.some.inj this]
  | false =>
    have E : Ext C mu H mu (upd H p u) := Ext.new hp
    refine ⟨mu, R.new hp, E, ?_⟩
    have c' := c.mono E.rx
    have nf := R.freshAv hp
    unfold CU at c'
    split at c'
    · exact .lst ⟨upd_same, nf⟩ c'
    · exact .dct ⟨.inl upd_same, nf⟩ c'
    · obtain ⟨e, c'⟩ := c'
      subst e
      exact .ins ⟨.inl upd_same, nf⟩ c'
    · exact c'.elim
theorem tup_ok {xs : List T} {vs : List V} (R : RM C mu M H) (hp : H p = none) (c : RepL C mu H xs vs) : RM C mu M (upd H p (.tup vs)) ∧ Ext C mu H mu (upd H p (.tup vs)) ∧ Rep C mu (upd H p (.tup vs)) (.tup xs) (.ref p) := by
  have E : Ext C mu H mu (upd H p (.tup vs)) := Ext.new hp
  exact ⟨R.new hp, E, .tup (.inl ⟨upd_same, R.freshAv hp⟩) (c.mono E.rx)⟩
theorem derL_lst {xs : List T} (R : RM C mu M H) (r : Rep C mu H t v) (e : derL M t = .lst xs) : ∃ a vs, v = .ref a ∧ H a = some (.lst vs) ∧ RepL C mu H xs vs := by
  cases r with
  | cel hi hv =>
    rename_i i
    unfold derL at e
    simp only at e
    cases em : M[i]? with
    | none => rw [em] at e; cases e
    | some c =>
      cases c with
      | dead => rw [em] at e; cases e
      | lock u => rw [em] at e; cases e
      | live u =>
        rw [em] at e
        simp only at e
        subst e
        obtain ⟨a, o, h1, h2, h3⟩ := R.cell i _ em
        unfold CU at h3
        split at h3
        · rename_i q
          cases q
          exact ⟨a, _, hv a h1, h2, h3⟩
        · rename_i q; cases q
        · rename_i q; cases q
        · exact h3.elim
  | lst h r => cases e; exact ⟨_, _, rfl, h.1, r⟩
  | _ => cases e
theorem der_lst {xs : List T} (R : RM C mu M H) (r : Rep C mu H t v) (e : der M t = .lst xs) : ∃ a vs, v = .ref a ∧ Rd H a (.lst vs) ∧ RepL C mu H xs vs := by
  have b := der_bk R r
  rw [e] at b
  exact b
theorem der_dct {ks : List (Str × T)} (R : RM C mu M H) (r : Rep C mu H t v) (e : der M t = .dct ks) : ∃ a ws, v = .ref a ∧ Rd H a (.dK ws) ∧ RepD C mu H ks ws := by
  have b := der_bk R r
  rw [e] at b
  exact b
theorem der_ins {c : Str} {fs : List (Str × T)} (R : RM C mu M H) (r : Rep C mu H t v) (e : der M t = .ins c fs) : ∃ a dx ws, v = .ref a ∧ Rd H a (.ins (C.ga c) dx ws) ∧ RepF C mu H fs ws := by
  have b := der_bk R r
  rw [e] at b
  exact b
theorem Rep.tupI {xs : List T} (r : Rep C mu H (.tup xs) v) : ∃ a vs, v = .ref a ∧ FT C mu H a vs ∧ RepL C mu H xs vs := by
  cases r with
  | tup f r => exact ⟨_, _, rfl, f, r⟩
theorem Rep.intI {i : Int} (r : Rep C mu H (.int i) v) : v = .int i := by cases r; rfl
theorem Rep.strI {x : Str} (r : Rep C mu H (.str x) v) : v = .str x := by cases r; rfl
theorem Rep.blI {x : Bool} (r : Rep C mu H (.bl x) v) : v = .bl x := by cases r; rfl
theorem Rep.nonI (r : Rep C mu H .non v) : v = .non := by cases r; rfl
end

/-- below 2^64 (said so that it is stuck at once where i is not known) -/
def sgn (i : Int) : Bool := Nat.ble i.natAbs 18446744073709551615
theorem sgn_ok {i : Int} (h : sgn i = true) : -(2 ^ 64) < i ∧ i < 2 ^ 64 := by
  have := Nat.le_of_ble_eq_true h
  omega
theorem sgn_of {i : Int} (h0 : -18446744073709551616 < i) (h1 : i < 18446744073709551616) : sgn i = true := Nat.ble_eq_true_of_le (by omega)
def fdOk (i : Int) : Bool := match i with
  | .ofNat n => Nat.ble 1 n && Nat.ble n 1073741823
  | .negSucc _ => false
theorem fdOk_ok {i : Int} (h : fdOk i = true) : 0 < i ∧ i < 1073741824 := by
  cases i with
  | ofNat n =>
    unfold fdOk at h
    rw [Bool.and_eq_true] at h
    have h1 := Nat.le_of_ble_eq_true h.1
    have h2 := Nat.le_of_ble_eq_true h.2
    exact ⟨by simp only [Int.ofNat_eq_natCast]; omega, by simp only [Int.ofNat_eq_natCast]; omega⟩
  | negSucc n => cases h
theorem fdOk_of {i : Int} (h0 : 0 < i) (h1 : i < 1073741824) : fdOk i = true := by
  cases i with
  | ofNat n =>
    unfold fdOk
    simp only [Int.ofNat_eq_natCast] at h0 h1
    rw [Bool.and_eq_true]
    exact ⟨Nat.ble_eq_true_of_le (by omega), Nat.ble_eq_true_of_le (by omega)⟩
  | negSucc n => omega
def gAdd (m : Bool) : Op2 := fun t u M => match t, u with
  | .int a, .int b => some (.int (a + b), M)
  | .str a, .str b => if a.length + b.length ≤ LIM then some (.str (a ++ b), M) else none
  | .tup xs, .tup ys => if xs.length + ys.length ≤ LIM then some (.tup (xs ++ ys), M) else none
  | t, u => match derL M t, derL M u with
    | .lst xs, .lst ys => if xs.length + ys.length ≤ LIM then some (mk m (.lst (xs ++ ys)) M) else none
    | _, _ => none
def gSub : Op2 := fun t u M => match t, u with
  | .int a, .int b => some (.int (a - b), M)
  | _, _ => none
def gMul (m : Bool) : Op2 := fun t u M => match t, u with
  | .int a, .int b => if sgn a || sgn b then some (.int (a * b), M) else none
  | t, .int k => (match derL M t with
    | .lst xs => if -(2 ^ 63) ≤ k ∧ k < 2 ^ 63 ∧ xs.length * k.toNat ≤ LIM then some (mk m (.lst (List.replicate k.toNat xs).flatten) M) else none
    | _ => none)
  | _, _ => none
def gFdiv : Op2 := fun t u M => match t, u with
  | .int a, .int b => if fdOk b = true then some (.int (a / b), M) else none
  | _, _ => none
def gMod : Op2 := fun t u M => match t, u with
  | .int a, .int b => if 0 < b then some (.int (a % b), M) else none
  | _, _ => none
def gPow : Op2 := fun t u M => match t, u with
  | .int a, .int b => if 0 ≤ b ∧ b ≤ 1000000 ∧ a.natAbs < 2 ^ 64 then some (.int (a ^ b.toNat), M) else none
  | _, _ => none
def gLt : Op2 := fun t u M => match t, u with
  | .int a, .int b => some (.bl (decide (a < b)), M)
  | _, _ => none
def gLe : Op2 := fun t u M => match t, u with
  | .int a, .int b => some (.bl (decide (a ≤ b)), M)
  | _, _ => none
def gGt : Op2 := fun t u M => match t, u with
  | .int a, .int b => some (.bl (decide (b < a)), M)
  | _, _ => none
def gGe : Op2 := fun t u M => match t, u with
  | .int a, .int b => some (.bl (decide (b ≤ a)), M)
  | _, _ => none
def isB : T → Option Bool
  | .bl b => some b
  | _ => none
/-- x is None | True | False -/
def gIs : Op2 := fun t u M => match u with
  | .non => (match t with
    | .cel _ => none
    | .non => some (.bl true, M)
    | _ => some (.bl false, M))
  | .bl b => (match t with
    | .bl a => some (.bl (decide (a = b)), M)
    | _ => none)
  | _ => none
def gIsN : Op2 := fun t u M => match u with
  | .non => (match t with
    | .cel _ => none
    | .non => some (.bl false, M)
    | _ => some (.bl true, M))
  | .bl b => (match t with
    | .bl a => some (.bl (!decide (a = b)), M)
    | _ => none)
  | _ => none
section
variable {X : Cx} {C : Cfg}
theorem z_int {f : Value → Value → Sem Value} {g : Op2} {D : Int → Int → Prop} {k : Int → Int → V} {kt : Int → Int → T} (h : OpR X f (rI D k)) (hg : ∀ t u M t' M', g t u M = some (t', M') → ∃ i j, t = .int i ∧ u = .int j ∧ D i j ∧ t' = kt i j ∧ M' = M)
    (hk : ∀ mu H i j, Rep C mu H (kt i j) (k i j)) : OpR X f (rZ C g) := opR_weak h fun x y H Q ⟨mu, M, t, u, t', M', R, rt, ru, e, q⟩ => by
  obtain ⟨i, j, rfl, rfl, d, rfl, rfl⟩ := hg _ _ _ _ _ e
  exact ⟨i, j, rt.intI, ru.intI, d, q mu _ H R Ext.refl (hk mu H i j)⟩
theorem z_int0 {f : Value → Value → Sem Value} {g : Op2} {k : Int → Int → V} {kt : Int → Int → T} (h : OpR X f (rI0 k)) (hg : ∀ t u M t' M', g t u M = some (t', M') → ∃ i j, t = .int i ∧ u = .int j ∧ t' = kt i j ∧ M' = M)
    (hk : ∀ mu H i j, Rep C mu H (kt i j) (k i j)) : OpR X f (rZ C g) := opR_weak h fun x y H Q ⟨mu, M, t, u, t', M', R, rt, ru, e, q⟩ => by
  obtain ⟨i, j, rfl, rfl, rfl, rfl⟩ := hg _ _ _ _ _ e
  exact ⟨i, j, rt.intI, ru.intI, q mu _ H R Ext.refl (hk mu H i j)⟩
theorem int2 {α : Type} {g : T → T → Mem → Option α} {D : Int → Int → Prop} [∀ i j, Decidable (D i j)] {r : Int → Int → Mem → α} (t u : T) (M : Mem) (a : α)
    (h : (match t, u with
      | .int i, .int j => if D i j then some (r i j M) else none
      | _, _ => none) = some a) : ∃ i j, t = .int i ∧ u = .int j ∧ D i j ∧ a = r i j M := by
  split at h
  · rename_i i j
    by_cases d : D i j
    · rw [if_pos d] at h; exact ⟨i, j, rfl, rfl, d, (Option.some.inj h).symm⟩
    · rw [if_neg d] at h; cases h
  · cases h
theorem int20 {α : Type} {r : Int → Int → Mem → α} (t u : T) (M : Mem) (a : α)
    (h : (match t, u with
      | .int i, .int j => some (r i j M)
      | _, _ => none) = some a) : ∃ i j, t = .int i ∧ u = .int j ∧ a = r i j M := by
  split at h
  · rename_i i j
    exact ⟨i, j, rfl, rfl, (Option.some.inj h).symm⟩
  · cases h
theorem z_sub : OpR X (binaryOp .Sub) (rZ C gSub) := z_int0 (kt := fun i j => .int (i - j)) op_sub (fun t u M t' M' e => by
  obtain ⟨i, j, a, b, c⟩ := int20 (r := fun i j M => ((.int (i - j) : T), M)) t u M (t', M') e
  cases c; exact ⟨i, j, a, b, rfl, rfl⟩) fun _ _ _ _ => .int _
theorem z_fdiv : OpR X (binaryOp .FloorDiv) (rZ C gFdiv) := z_int (kt := fun i j => .int (i / j)) op_fdiv (fun t u M t' M' e => by
  obtain ⟨i, j, a, b, d, c⟩ := int2 (g := gFdiv) (D := fun i j => fdOk j = true) (r := fun i j M => ((.int (i / j) : T), M)) t u M (t', M') e
  cases c; exact ⟨i, j, a, b, fdOk_ok d, rfl, rfl⟩) fun _ _ _ _ => .int _
theorem z_mod : OpR X (binaryOp .Mod) (rZ C gMod) := z_int (kt := fun i j => .int (i % j)) op_mod (fun t u M t' M' e => by
  obtain ⟨i, j, a, b, d, c⟩ := int2 (g := gMod) (D := fun i j => 0 < j) (r := fun i j M => ((.int (i % j) : T), M)) t u M (t', M') e
  cases c; exact ⟨i, j, a, b, d, rfl, rfl⟩) fun _ _ _ _ => .int _
theorem z_pow : OpR X (binaryOp .Pow) (rZ C gPow) := z_int (kt := fun i j => .int (i ^ j.toNat)) op_pow (fun t u M t' M' e => by
  obtain ⟨i, j, a, b, d, c⟩ := int2 (g := gPow) (D := fun i j => 0 ≤ j ∧ j ≤ 1000000 ∧ i.natAbs < 2 ^ 64) (r := fun i j M => ((.int (i ^ j.toNat) : T), M)) t u M (t', M') e
  cases c; exact ⟨i, j, a, b, d, rfl, rfl⟩) fun _ _ _ _ => .int _
theorem z_lt : OpR X (compareOp .Lt) (rZ C gLt) := z_int0 (kt := fun i j => .bl (decide (i < j))) op_lt (fun t u M t' M' e => by
  obtain ⟨i, j, a, b, c⟩ := int20 (r := fun i j M => ((.bl (decide (i < j)) : T), M)) t u M (t', M') e
  cases c; exact ⟨i, j, a, b, rfl, rfl⟩) fun _ _ _ _ => .bl _
theorem z_le : OpR X (compareOp .LtE) (rZ C gLe) := z_int0 (kt := fun i j => .bl (decide (i ≤ j))) op_le (fun t u M t' M' e => by
  obtain ⟨i, j, a, b, c⟩ := int20 (r := fun i j M => ((.bl (decide (i ≤ j)) : T), M)) t u M (t', M') e
  cases c; exact ⟨i, j, a, b, rfl, rfl⟩) fun _ _ _ _ => .bl _
theorem z_gt : OpR X (compareOp .Gt) (rZ C gGt) := z_int0 (kt := fun i j => .bl (decide (j < i))) op_gt (fun t u M t' M' e => by
  obtain ⟨i, j, a, b, c⟩ := int20 (r := fun i j M => ((.bl (decide (j < i)) : T), M)) t u M (t', M') e
  cases c; exact ⟨i, j, a, b, rfl, rfl⟩) fun _ _ _ _ => .bl _
theorem z_ge : OpR X (compareOp .GtE) (rZ C gGe) := z_int0 (kt := fun i j => .bl (decide (j ≤ i))) op_ge (fun t u M t' M' e => by
  obtain ⟨i, j, a, b, c⟩ := int20 (r := fun i j M => ((.bl (decide (j ≤ i)) : T), M)) t u M (t', M') e
  cases c; exact ⟨i, j, a, b, rfl, rfl⟩) fun _ _ _ _ => .bl _
/-- is None -/
theorem Rep.ne_non {mu : Mu} {H : Hp} {t : T} {v : V} (r : Rep C mu H t v) (h : t ≠ .non) (h2 : ∀ i, t ≠ .cel i) : v ≠ .non := by
  cases r with
  | non => exact absurd rfl h
  | cel => exact absurd rfl (h2 _)
  | _ => intro z; cases z
theorem z_is : OpR X (compareOp .Is) (rZ C gIs) := opR_weak (op_isN.or op_isBl) fun x y H Q ⟨mu, M, t, u, t', M', R, rt, ru, e, q⟩ => by
  cases u with
  | non =>
    have ey := ru.nonI
    subst ey
    cases t with
    | cel => cases e
    | non =>
      cases rt
      cases e
      exact .inl ⟨rfl, q mu _ H R Ext.refl (.bl true)⟩
    | _ =>
      cases e
      have n : x ≠ .non := rt.ne_non (fun z => nomatch z) (fun _ z => nomatch z)
      exact .inl ⟨rfl, by rw [decide_eq_false n]; exact q mu _ H R Ext.refl (.bl false)⟩
  | bl b =>
    cases t with
    | bl a =>
      cases e
      exact .inr ⟨a, b, rt.blI, ru.blI, q mu _ H R Ext.refl (.bl _)⟩
    | _ => cases e
  | _ => cases e
theorem z_isN : OpR X (compareOp .IsNot) (rZ C gIsN) := opR_weak (op_notN.or op_notBl) fun x y H Q ⟨mu, M, t, u, t', M', R, rt, ru, e, q⟩ => by
  cases u with
  | non =>
    have ey := ru.nonI
    subst ey
    cases t with
    | cel => cases e
    | non =>
      cases rt
      cases e
      exact .inl ⟨rfl, q mu _ H R Ext.refl (.bl false)⟩
    | _ =>
      cases e
      have n : x ≠ .non := rt.ne_non (fun z => nomatch z) (fun _ z => nomatch z)
      exact .inl ⟨rfl, by rw [decide_eq_false n]; exact q mu _ H R Ext.refl (.bl true)⟩
  | bl b =>
    cases t with
    | bl a =>
      cases e
      exact .inr ⟨a, b, rt.blI, ru.blI, q mu _ H R Ext.refl (.bl _)⟩
    | _ => cases e
  | _ => cases e
theorem z_mul (m : Bool) : OpR X (binaryOp .Mult) (rZ C (gMul m)) := opR_weak (op_mul.or op_rep) fun x y H Q ⟨mu, M, t, u, t', M', R, rt, ru, e, q⟩ => by
  cases u with
  | int k =>
    have ey := ru.intI
    subst ey
    have listc : (match derL M t with
      | .lst xs => if -(2 ^ 63) ≤ k ∧ k < 2 ^ 63 ∧ xs.length * k.toNat ≤ LIM then some (mk m (.lst (List.replicate k.toNat xs).flatten) M) else none
      | _ => none) = some (t', M') → rRep x (.int k) H Q := fun e => by
      split at e
      · rename_i xs hx
        by_cases c : -(2 ^ 63) ≤ k ∧ k < 2 ^ 63 ∧ xs.length * k.toNat ≤ LIM
        · rw [if_pos c] at e
          obtain ⟨a, vs, ex, ha, r⟩ := derL_lst R rt hx
          refine ⟨a, k, vs, ex, rfl, ha, c.1, c.2.1, by rw [← LIM_eq, ← r.length]; exact c.2.2, fun p hp => ?_⟩
          obtain ⟨mu', R', E', r'⟩ := mk_ok (t := .lst (List.replicate k.toNat xs).flatten) (u := .lst (List.replicate k.toNat vs).flatten) m R hp (r.rep k.toNat)
          rw [Option.some.inj e] at R' r'
          exact q mu' _ _ R' E' r'
        · rw [if_neg c] at e; cases e
      · cases e
    cases t with
    | int i =>
      have ex := rt.intI
      subst ex
      unfold gMul at e
      simp only at e
      by_cases c : (sgn i || sgn k) = true
      · rw [if_pos c] at e
        cases e
        refine .inl ⟨i, k, rfl, rfl, ?_, q mu _ H R Ext.refl (.int _)⟩
        rw [Bool.or_eq_true] at c
        exact c.imp sgn_ok sgn_ok
      · rw [if_neg c] at e; cases e
    | lst xs => exact .inr (listc e)
    | cel j => exact .inr (listc e)
    | _ => cases e
  | _ =>
    cases t <;> cases e
theorem z_add (hK : C.K = X.K) (m : Bool) : OpR X (binaryOp .Add) (rZ C (gAdd m)) := opR_weak ((op_add.or op_add_str).or (op_cat.or op_catA)) fun x y H Q ⟨mu, M, t, u, t', M', R, rt, ru, e, q⟩ => by
  have lists : (match derL M t, derL M u with
    | .lst xs, .lst ys => if xs.length + ys.length ≤ LIM then some (mk m (.lst (xs ++ ys)) M) else none
    | _, _ => none) = some (t', M') → rCat x y H Q := fun e => by
    split at e
    · rename_i xs ys h1 h2
      by_cases c : xs.length + ys.length ≤ LIM
      · rw [if_pos c] at e
        obtain ⟨a, vs, ex, ha, r⟩ := derL_lst R rt h1
        obtain ⟨b, ws, ey, hb, r2⟩ := derL_lst R ru h2
        refine ⟨a, b, vs, ws, ex, ey, ha, hb, by rw [← LIM_eq, ← r.length, ← r2.length]; exact c, fun p hp => ?_⟩
        obtain ⟨mu', R', E', r'⟩ := mk_ok (t := .lst (xs ++ ys)) (u := .lst (vs ++ ws)) m R hp (r.append r2)
        rw [Option.some.inj e] at R' r'
        exact q mu' _ _ R' E' r'
      · rw [if_neg c] at e; cases e
    · cases e
  unfold gAdd at e
  split at e
  · cases e
    exact .inl (.inl ⟨_, _, rt.intI, ru.intI, q mu _ H R Ext.refl (.int _)⟩)
  · rename_i a b
    by_cases c : a.length + b.length ≤ LIM
    · rw [if_pos c] at e
      cases e
      exact .inl (.inr ⟨a, b, rt.strI, ru.strI, by rw [← LIM_eq]; exact c, q mu _ H R Ext.refl (.str _)⟩)
    · rw [if_neg c] at e; cases e
  · rename_i xs ys
    by_cases c : xs.length + ys.length ≤ LIM
    · rw [if_pos c] at e
      cases e
      obtain ⟨a, vs, rfl, f1, r1⟩ := rt.tupI
      obtain ⟨b, ws, rfl, f2, r2⟩ := ru.tupI
      refine .inr (.inr ⟨a, b, vs, ws, rfl, rfl, hK ▸ f1.sq, hK ▸ f2.sq, by rw [← LIM_eq, ← r1.length, ← r2.length]; exact c, fun z => ?_, fun _ z => ?_, fun _ _ p hp => ?_⟩)
      · subst z
        cases r1
        rw [List.nil_append] at q
        exact q mu _ H R Ext.refl (.tup f2 r2)
      · subst z
        cases r2
        rw [List.append_nil] at q
        exact q mu _ H R Ext.refl (.tup f1 r1)
      · obtain ⟨R', E', r'⟩ := tup_ok R hp (r1.append r2)
        exact q mu _ _ R' E' r'
    · rw [if_neg c] at e; cases e
  · exact .inr (.inl (lists e))

/-! ### unary operators -/
abbrev Op1 := T → Mem → Option (T × Mem)
def dUn (g : Op1) (da : DE) : DE := fun s M => (da s M).bind fun t M1 => lift (g t M1)
def gNeg : Op1 := fun t M => match t with
  | .int i => some (.int (-i), M)
  | _ => none
def r1Z (C : Cfg) (g : Op1) : V → Hp → VK → Prop := fun x H Q => ∃ mu M t t' M', RM C mu M H ∧ Rep C mu H t x ∧ g t M = some (t', M') ∧
  ∀ mu' v H', RM C mu' M' H' → Ext C mu H mu' H' → Rep C mu' H' t' v → Q v H'
theorem un_read {W : WX} {g : Op1} {da : DE} {σ : L2.St} {H : Hp} {Q : VK} (h : TEz C W (dUn g da) σ H Q) : tUn (r1Z C g) (TEz C W da) σ H Q := by
  obtain ⟨mu, s, M, R, S, P⟩ := h
  refine ⟨mu, s, M, R, S, P.bind fun t M1 mu1 x H1 R1 E1 r1 P1 => ?_⟩
  cases e : g t M1 with
  | none => rw [e] at P1; exact P1.elim
  | some p =>
    obtain ⟨t', M'⟩ := p
    rw [e] at P1
    exact ⟨mu1, M1, t, t', M', R1, r1, e, P1⟩
theorem unR_weak {f : Value → Sem Value} {r r' : V → Hp → VK → Prop} (h : UnR X f r) (w : ∀ x H Q, r' x H Q → r x H Q) : UnR X f r' := fun pins s σ H x v Q I rx q => h pins s σ H x v Q I rx (w x H Q q)
theorem z_neg : UnR X (unaryOp .USub) (r1Z C gNeg) := unR_weak un_neg fun x H Q ⟨mu, M, t, t', M', R, rt, e, q⟩ => by
  cases t with
  | int i => cases e; exact ⟨i, rt.intI, q mu _ H R Ext.refl (.int _)⟩
  | _ => cases e
theorem s_un {W : WX} {op : UnaryOp} {g : Op1} {a : Expr} {da : DE} {pos : Pos} (ho : UnR X (unaryOp op) (r1Z C g)) (ha : PE X a (TEz C W da)) : PE X (.UnaryOp op a pos) (TEz C W (dUn g da)) :=
  pe_weak (pe_un ho ha) fun _ _ _ h => un_read h

/-! ### truth -/
def gTru : T → Mem → Option Bool := fun t M => match t with
  | .non => some false
  | .bl b => some b
  | .int i => some (i != 0)
  | .str x => if x.length ≤ LIM then some ((x.length : Int) != 0) else none
  | .tup xs => some (!xs.isEmpty)
  | .dct _ => none
  | t => match der M t with
    | .lst xs => some (!xs.isEmpty)
    | _ => (match derL M t with
      | .dct ks => some (!ks.isEmpty)
      | _ => none)
def toB : Option Bool → Mem → Out Bool := fun o M => match o with
  | some b => .ok b M
  | none => .no
/-- an expression as a test -/
def dTst (d : DE) : DT := fun s M => (d s M).bind fun t M1 => toB (gTru t M1) M1
theorem RepL.emp {mu : Mu} {H : Hp} {xs : List T} {vs : List V} (r : RepL C mu H xs vs) : xs.isEmpty = vs.isEmpty := by cases r <;> rfl
theorem RepD.emp {mu : Mu} {H : Hp} {xs : List (Str × T)} {vs : List (Key × V)} (r : RepD C mu H xs vs) : xs.isEmpty = vs.isEmpty := by cases r <;> rfl
/-- an exact dict -/
theorem derL_dct {mu : Mu} {M : Mem} {H : Hp} {t : T} {v : V} {ks : List (Str × T)} (R : RM C mu M H) (r : Rep C mu H t v) (e : derL M t = .dct ks) (hc : ∃ i, t = .cel i) : ∃ a ws, v = .ref a ∧ H a = some (.dK ws) ∧ RepD C mu H ks ws := by
  obtain ⟨i, rfl⟩ := hc
  cases r with
  | cel hi hv =>
    unfold derL at e
    simp only at e
    cases em : M[i]? with
    | none => rw [em] at e; cases e
    | some c =>
      cases c with
      | dead => rw [em] at e; cases e
      | lock u => rw [em] at e; cases e
      | live u =>
        rw [em] at e
        simp only at e
        subst e
        obtain ⟨a, o, h1, h2, h3⟩ := R.cell i _ em
        unfold CU at h3
        split at h3
        · rename_i q; cases q
        · rename_i q
          cases q
          exact ⟨a, _, hv a h1, h2, h3⟩
        · rename_i q; cases q
        · exact h3.elim
end
end Z
end
section
set_option Elab.async false
set_option linter.all false
set_option maxRecDepth 100000
set_option maxHeartbeats 4000000
/-! Zh: tests, and, or, not, chains, conditional expressions; argument lists, displays; subscripts, slices; in. -/
namespace Z
open PySem PySem.Spec PyProof.Rows L2 PySem.SeqAt

section
variable {X : Cx} {C : Cfg} {W : WX}
/-! ### tests -/
theorem gTru_ok (hK : C.K = X.K) {mu : Mu} {M : Mem} {H : Hp} {t : T} {v : V} {b : Bool} (R : RM C mu M H) (r : Rep C mu H t v) (e : gTru t M = some b) : TruV X.K v H b := by
  have lists : (match der M t with
    | .lst xs => some (!xs.isEmpty)
    | _ => (match derL M t with
      | .dct ks => some (!ks.isEmpty)
      | _ => none)) = some b → (∀ ks, t ≠ .dct ks) → TruV X.K v H b := fun e hd => by
    split at e
    · rename_i xs hx
      obtain ⟨a, vs, rfl, ha, r'⟩ := der_lst R r hx
      cases e
      exact .inl ⟨vs, .inl ha, by rw [r'.emp]⟩
    · split at e
      · rename_i ks hk
        have hc : ∃ i, t = .cel i := by
          cases t with
          | cel i => exact ⟨i, rfl⟩
          | dct ks => exact absurd rfl (hd ks)
          | _ => cases hk
        obtain ⟨a, ws, rfl, ha, r'⟩ := derL_dct R r hk hc
        cases e
        exact .inr (.inr ⟨ws, ha, by rw [r'.emp]⟩)
      · cases e
  cases t with
  | non => cases r; cases e; rfl
  | bl c => cases r; cases e; rfl
  | int i => cases r; cases e; rfl
  | str x =>
    cases r
    unfold gTru at e
    simp only at e
    by_cases c : x.length ≤ LIM
    · rw [if_pos c] at e
      cases e
      exact ⟨by rw [← LIM_eq]; exact c, rfl⟩
    · rw [if_neg c] at e; cases e
  | tup xs =>
    obtain ⟨a, vs, rfl, f, r'⟩ := r.tupI
    cases e
    exact .inr (.inl ⟨vs, hK ▸ f.sq, by rw [r'.emp]⟩)
  | lst xs => exact lists e (fun _ z => nomatch z)
  | cel i => exact lists e (fun _ z => nomatch z)
  | fz xs => exact lists e (fun _ z => nomatch z)
  | dct ks => cases e
  | ins => cases e
  | ty => cases e
  | ob => cases e
/-- where isTrue looks at the value alone -/
def PlainT (X : Cx) (a : Expr) : Prop := ∀ whole, isTrue a X.env whole = (do let v ← whole; standAt a.pos; holding [v] (truthy v))
theorem t_tst (hK : C.K = X.K) {a : Expr} {da : DE} (ha : PE X a (TEz C W da)) (he : PlainT X a) : PT X a (TTz C W (dTst da)) :=
  pt_weak (pt_truth ha he) fun σ H Q ⟨mu, s, M, R, S, P⟩ => ⟨mu, s, M, R, S, P.bind fun t M1 mu1 x H1 R1 E1 r1 P1 => by
    cases e : gTru t M1 with
    | none => rw [e] at P1; exact P1.elim
    | some b =>
      rw [e] at P1
      exact ⟨b, gTru_ok hK R1 r1 e, P1 mu1 b H1 R1 Ext.refl rfl⟩⟩
/-- a comparison's answer is a bool -/
def gB (g : Op2) : Prop := ∀ t u M t' M', g t u M = some (t', M') → (∃ b, t' = .bl b) ∧ M' = M
theorem t_cmp {op : CmpOp} {g : Op2} {a b : Expr} {da db : DE} {pos : Pos} (hg : gB g) (ho : OpR X (compareOp op) (rZ C g)) (ha : PE X a (TEz C W da)) (hb : PE X b (TEz C W db)) (hm : behindInMarks op b = false) :
    PT X (.Compare a [op] [b] pos) (TTz C W (dTst (dBin g da db))) :=
  pt_weak (pt_cmpR ho ha hb hm) fun σ H Q ⟨mu, s, M, R, S, P⟩ => by
    unfold dTst dBin at P
    have P' : Post C mu H ((da s M).bind fun t M1 => (db s M1).bind fun u M2 => (lift (g t u M2)).bind fun r M3 => toB (gTru r M3) M3) (fun _ _ a b => a = b) Q fun c dd H' => W c dd σ H' := by
      have e : ((da s M).bind fun t M1 => (db s M1).bind fun u M2 => lift (g t u M2)).bind (fun r M3 => toB (gTru r M3) M3) = ((da s M).bind fun t M1 => (db s M1).bind fun u M2 => (lift (g t u M2)).bind fun r M3 => toB (gTru r M3) M3) := by
        cases da s M with
        | ok t M1 =>
          simp only [bind_ok]
          cases db s M1 <;> rfl
        | er => rfl
        | no => rfl
      rw [← e]
      exact P
    refine ⟨mu, s, M, R, S, P'.bind fun t M1 mu1 x H1 R1 E1 r1 P1 => ?_⟩
    refine ⟨mu1, s, M1, R1, S.mono E1.rx, P1.bind fun u M2 mu2 y H2 R2 E2 r2 P2 => ?_⟩
    cases e : g t u M2 with
    | none => rw [e] at P2; exact P2.elim
    | some p =>
      obtain ⟨t', M'⟩ := p
      rw [e] at P2
      obtain ⟨⟨b, rfl⟩, rfl⟩ := hg _ _ _ _ _ e
      refine ⟨mu2, _, t, u, _, _, R2, r1.mono E2.rx, r2, e, fun mu' v H' R' E' r' => ?_⟩
      rw [r'.blI]
      exact ⟨b, rfl, P2 mu' b H' R' E' rfl⟩
theorem b_eq : gB gEq := fun t u M t' M' e => by
  unfold gEq at e
  split at e
  · cases e; exact ⟨⟨_, rfl⟩, rfl⟩
  · cases e
theorem b_ne : gB gNe := fun t u M t' M' e => by
  unfold gNe at e
  split at e
  · split at e
    · cases e
    · cases e; exact ⟨⟨_, rfl⟩, rfl⟩
  · cases e
theorem b_i {r : Int → Int → Bool} {g : Op2} (h : ∀ t u M, g t u M = match t, u with
  | .int a, .int b => some (.bl (r a b), M)
  | _, _ => none) : gB g := fun t u M t' M' e => by
  rw [h] at e
  split at e
  · cases e; exact ⟨⟨_, rfl⟩, rfl⟩
  · cases e
theorem b_lt : gB gLt := b_i (r := fun a b => decide (a < b)) fun _ _ _ => rfl
theorem b_le : gB gLe := b_i (r := fun a b => decide (a ≤ b)) fun _ _ _ => rfl
theorem b_gt : gB gGt := b_i (r := fun a b => decide (b < a)) fun _ _ _ => rfl
theorem b_ge : gB gGe := b_i (r := fun a b => decide (b ≤ a)) fun _ _ _ => rfl
theorem b_is : gB gIs := fun t u M t' M' e => by
  cases u <;> cases t <;> first | cases e; done | (cases e; exact ⟨⟨_, rfl⟩, rfl⟩)
theorem b_isN : gB gIsN := fun t u M t' M' e => by
  cases u <;> cases t <;> first | cases e; done | (cases e; exact ⟨⟨_, rfl⟩, rfl⟩)

/-! ### not, and, or, if -/
def dNotT (ta : DT) : DT := fun s M => (ta s M).bind fun b M1 => .ok (!b) M1
theorem t_not {a : Expr} {ta : DT} {pos : Pos} (ha : PT X a (TTz C W ta)) : PT X (.UnaryOp .Not a pos) (TTz C W (dNotT ta)) :=
  pt_weak (pt_not ha) fun σ H Q ⟨mu, s, M, R, S, P⟩ => ⟨mu, s, M, R, S, P.bind fun b M1 mu1 x H1 R1 E1 r1 P1 => by
    cases r1
    exact P1 mu1 _ H1 R1 Ext.refl rfl⟩
def dNot (da : DE) : DE := fun s M => (da s M).bind fun t M1 => (toB (gTru t M1) M1).bind fun b M2 => .ok (.bl (!b)) M2
theorem s_not (hK : C.K = X.K) {a : Expr} {da : DE} {pos : Pos} (ha : PE X a (TEz C W da)) : PE X (.UnaryOp .Not a pos) (TEz C W (dNot da)) := by
  refine ⟨fun pins s σ H Q I ⟨mu, sg, M, R, S, P⟩ => ?_⟩
  refine UnaryOp_ (thn (ha.run pins s σ H (fun x H1 => ∃ b, TruV X.K x H1 b ∧ Q (.bl (!b)) H1) I ⟨mu, sg, M, R, S, P.bind fun t M1 mu1 x H1 R1 E1 r1 P1 => ?_⟩) fun v s1 ⟨x, H1, I1, r1, b, tb, q⟩ => ?_)
  · cases e : gTru t M1 with
    | none => rw [e] at P1; exact P1.elim
    | some b =>
      rw [e] at P1
      exact ⟨b, gTru_ok hK R1 r1 e, P1 mu1 _ H1 R1 Ext.refl (.bl _)⟩
  · refine not_of (thn (tru_ok pins s1 σ H1 x v (fun k H' => k = b ∧ H' = H1) I1 r1 ⟨b, tb, rfl, rfl⟩) fun k s2 ⟨H2, I2, e1, e2⟩ => ?_)
    subst e1 e2
    exact ⟨.bl (!k), H2, I2, rfl, q⟩
def dAndT (ta tb : DT) : DT := fun s M => (ta s M).bind fun b M1 => if b = true then tb s M1 else .ok false M1
def dOrT (ta tb : DT) : DT := fun s M => (ta s M).bind fun b M1 => if b = true then .ok true M1 else tb s M1
theorem t_and {a b : Expr} {rest : List Expr} {ta tb : DT} {pos : Pos} (ha : PT X a (TTz C W ta)) (hb : PW X (.BoolOp .And (b :: rest) pos) (TTz C W tb)) : PW X (.BoolOp .And (a :: b :: rest) pos) (TTz C W (dAndT ta tb)) :=
  ⟨fun wh pins s σ H Q I ⟨mu, sg, M, R, S, P⟩ => (pw_and ha hb).run wh pins s σ H Q I ⟨mu, sg, M, R, S, P.bind fun k M1 mu1 x H1 R1 E1 r1 P1 => by
    cases r1
    cases k with
    | true => exact iteT ⟨mu1, sg, M1, R1, S.mono E1.rx, P1⟩
    | false => exact iteF (P1 mu1 _ H1 R1 Ext.refl rfl)⟩⟩
theorem t_or {a b : Expr} {rest : List Expr} {ta tb : DT} {pos : Pos} (ha : PT X a (TTz C W ta)) (hb : PW X (.BoolOp .Or (b :: rest) pos) (TTz C W tb)) : PW X (.BoolOp .Or (a :: b :: rest) pos) (TTz C W (dOrT ta tb)) :=
  ⟨fun wh pins s σ H Q I ⟨mu, sg, M, R, S, P⟩ => (pw_or ha hb).run wh pins s σ H Q I ⟨mu, sg, M, R, S, P.bind fun k M1 mu1 x H1 R1 E1 r1 P1 => by
    cases r1
    cases k with
    | true => exact iteT (P1 mu1 _ H1 R1 Ext.refl rfl)
    | false => exact iteF ⟨mu1, sg, M1, R1, S.mono E1.rx, P1⟩⟩⟩
/-- as values: bools -/
def dAnd (da db : DE) : DE := fun s M => (da s M).bind fun t M1 => match t with
  | .bl true => db s M1
  | .bl false => .ok (.bl false) M1
  | _ => .no
def dOr (da db : DE) : DE := fun s M => (da s M).bind fun t M1 => match t with
  | .bl true => .ok (.bl true) M1
  | .bl false => db s M1
  | _ => .no
theorem s_and {a b : Expr} {rest : List Expr} {da db : DE} {pos : Pos} (ha : PE X a (TEz C W da)) (hb : PE X (.BoolOp .And (b :: rest) pos) (TEz C W db)) : PE X (.BoolOp .And (a :: b :: rest) pos) (TEz C W (dAnd da db)) :=
  pe_weak (pe_and ha hb) fun σ H Q ⟨mu, s, M, R, S, P⟩ => ⟨mu, s, M, R, S, P.bind fun t M1 mu1 x H1 R1 E1 r1 P1 => by
    cases r1 with
    | bl k =>
      cases k with
      | true => exact ⟨true, rfl, iteT ⟨mu1, s, M1, R1, S.mono E1.rx, P1⟩⟩
      | false => exact ⟨false, rfl, iteF (P1 mu1 _ H1 R1 Ext.refl (.bl _))⟩
    | _ => exact P1.elim⟩
theorem s_or {a b : Expr} {rest : List Expr} {da db : DE} {pos : Pos} (ha : PE X a (TEz C W da)) (hb : PE X (.BoolOp .Or (b :: rest) pos) (TEz C W db)) : PE X (.BoolOp .Or (a :: b :: rest) pos) (TEz C W (dOr da db)) :=
  pe_weak (pe_or ha hb) fun σ H Q ⟨mu, s, M, R, S, P⟩ => ⟨mu, s, M, R, S, P.bind fun t M1 mu1 x H1 R1 E1 r1 P1 => by
    cases r1 with
    | bl k =>
      cases k with
      | true => exact ⟨true, rfl, iteT (P1 mu1 _ H1 R1 Ext.refl (.bl _))⟩
      | false => exact ⟨false, rfl, iteF ⟨mu1, s, M1, R1, S.mono E1.rx, P1⟩⟩
    | _ => exact P1.elim⟩
def dIte (tc : DT) (da db : DE) : DE := fun s M => (tc s M).bind fun k M1 => if k = true then da s M1 else db s M1
theorem s_ite {c a b : Expr} {tc : DT} {da db : DE} {pos : Pos} (hc : PT X c (TTz C W tc)) (ha : PE X a (TEz C W da)) (hb : PE X b (TEz C W db)) : PE X (.IfExp c a b pos) (TEz C W (dIte tc da db)) :=
  pe_weak (pe_ifExp hc ha hb) fun σ H Q ⟨mu, s, M, R, S, P⟩ => ⟨mu, s, M, R, S, P.bind fun k M1 mu1 x H1 R1 E1 r1 P1 => by
    cases r1
    cases k with
    | true => exact iteT ⟨mu1, s, M1, R1, S.mono E1.rx, P1⟩
    | false => exact iteF ⟨mu1, s, M1, R1, S.mono E1.rx, P1⟩⟩
/-- a o1 b o2 c -/
def dChn (g g' : Op2) (da db dc : DE) : DE := fun s M => (da s M).bind fun t M1 => (db s M1).bind fun u M2 => (lift (g t u M2)).bind fun r M3 => match r with
  | .bl true => (dc s M3).bind fun w M4 => lift (g' u w M4)
  | .bl false => .ok (.bl false) M3
  | _ => .no
theorem chn_read {g g' : Op2} {da db dc : DE} {σ : L2.St} {H : Hp} {Q : VK} (hg : gB g) (h : TEz C W (dChn g g' da db dc) σ H Q) : tChain (rZ C g) (rZ C g') (TEz C W da) (TEz C W db) (TEz C W dc) σ H Q := by
  obtain ⟨mu, s, M, R, S, P⟩ := h
  refine ⟨mu, s, M, R, S, P.bind fun t M1 mu1 x H1 R1 E1 r1 P1 => ?_⟩
  refine ⟨mu1, s, M1, R1, S.mono E1.rx, P1.bind fun u M2 mu2 y H2 R2 E2 r2 P2 => ?_⟩
  cases e : g t u M2 with
  | none => rw [e] at P2; exact P2.elim
  | some p =>
    obtain ⟨t', M'⟩ := p
    rw [e] at P2
    obtain ⟨⟨b, rfl⟩, rfl⟩ := hg _ _ _ _ _ e
    refine ⟨mu2, _, t, u, _, _, R2, r1.mono E2.rx, r2, e, fun mu' v H' R' E' r' => ?_⟩
    rw [r'.blI]
    cases b with
    | false => exact ⟨false, rfl, iteF (P2 mu' _ H' R' E' (.bl false))⟩
    | true =>
      have P3 : Post C mu2 H2 ((dc s M').bind fun w M4 => lift (g' u w M4)) (RV C) Q fun c dd H' => W c dd σ H' := P2
      refine ⟨true, rfl, iteT ⟨mu', s, _, R', (S.mono E1.rx).mono (E2.trans E').rx, (Post.ext P3 E').bind fun w M4 mu4 z H4 R4 E4 r4 P4 => ?_⟩⟩
      cases e' : g' u w M4 with
      | none => rw [e'] at P4; exact P4.elim
      | some p =>
        obtain ⟨t2, M5⟩ := p
        rw [e'] at P4
        exact ⟨mu4, M4, u, w, t2, M5, R4, r2.mono (E'.trans E4).rx, r4, e', P4⟩
theorem s_chn {o o' : CmpOp} {g g' : Op2} {a b c : Expr} {da db dc : DE} {pos : Pos} (hg : gB g) (ho : OpR X (compareOp o) (rZ C g)) (ho' : OpR X (compareOp o') (rZ C g')) (ha : PE X a (TEz C W da)) (hb : PE X b (TEz C W db)) (hc : PE X c (TEz C W dc))
    (hm : lastMarks [o, o'] [b, c] = false) : PE X (.Compare a [o, o'] [b, c] pos) (TEz C W (dChn g g' da db dc)) :=
  pe_weak (pe_chain ho ho' ha hb hc hm) fun _ _ _ h => chn_read hg h

/-! ### arguments, displays -/
def dNil : DA := fun _ M => .ok [] M
def dCons (d : DE) (da : DA) : DA := fun s M => (d s M).bind fun t M1 => (da s M1).bind fun ts M2 => .ok (t :: ts) M2
theorem a_nil : PA X [] (TAz C W dNil) := pa_weak pa_nil fun σ H Q ⟨mu, s, M, R, S, P⟩ => P mu [] H R Ext.refl .nil
theorem a_cons {e : Expr} {es : List Expr} {d : DE} {da : DA} (he : PE X e (TEz C W d)) (hes : PA X es (TAz C W da)) (hs : starEach (e :: es) X.env = (false, eval e X.env) :: starEach es X.env) : PA X (e :: es) (TAz C W (dCons d da)) :=
  pa_weak (pa_cons he hes hs) fun σ H Q ⟨mu, s, M, R, S, P⟩ => ⟨mu, s, M, R, S, P.bind fun t M1 mu1 x H1 R1 E1 r1 P1 => by
    refine ⟨mu1, s, M1, R1, S.mono E1.rx, P1.bind fun ts M2 mu2 xs H2 R2 E2 r2 P2 => ?_⟩
    exact P2 mu2 _ H2 R2 Ext.refl (.cons (r1.mono E2.rx) r2)⟩
def dTup (da : DA) : DE := fun s M => (da s M).bind fun ts M1 => if ts.length ≤ LIM then .ok (.tup ts) M1 else .no
def dLst (m : Bool) (da : DA) : DE := fun s M => (da s M).bind fun ts M1 => if ts.length ≤ LIM then lift (some (mk m (.lst ts) M1)) else .no
theorem s_tup {es : List Expr} {da : DA} {k : Nat} {pos : Pos} (h : PA X es (TAz C W da)) : PE X (.Tuple es k pos) (TEz C W (dTup da)) :=
  pe_weak (pe_tup h) fun σ H Q ⟨mu, s, M, R, S, P⟩ => ⟨mu, s, M, R, S, P.bind fun ts M1 mu1 xs H1 R1 E1 r1 P1 => by
    by_cases c : ts.length ≤ LIM
    · rw [if_pos c] at P1
      refine ⟨by rw [← LIM_eq, ← r1.length]; exact c, fun p hp => ?_⟩
      obtain ⟨R', E', r'⟩ := tup_ok R1 hp r1
      exact P1 mu1 _ _ R' E' r'
    · rw [if_neg c] at P1; exact P1.elim⟩
theorem s_lst (m : Bool) {es : List Expr} {da : DA} {pos : Pos} (h : PA X es (TAz C W da)) : PE X (.List es pos) (TEz C W (dLst m da)) :=
  pe_weak (pe_lst h) fun σ H Q ⟨mu, s, M, R, S, P⟩ => ⟨mu, s, M, R, S, P.bind fun ts M1 mu1 xs H1 R1 E1 r1 P1 => by
    by_cases c : ts.length ≤ LIM
    · rw [if_pos c] at P1
      refine ⟨by rw [← LIM_eq, ← r1.length]; exact c, fun p hp => ?_⟩
      obtain ⟨mu', R', E', r'⟩ := mk_ok (t := .lst ts) (u := .lst xs) m R1 hp r1
      exact P1 mu' _ _ R' E' r'
    · rw [if_neg c] at P1; exact P1.elim⟩
def dDct0 (m : Bool) : DE := fun _ M => lift (some (mk m (.dct []) M))
theorem s_dct0 (m : Bool) {pos : Pos} : PE X (.Dict [] [] pos) (TEz C W (dDct0 m)) :=
  pe_weak pe_dnewK fun σ H Q ⟨mu, s, M, R, S, P⟩ => fun p hp => by
    obtain ⟨mu', R', E', r'⟩ := mk_ok (t := .dct []) (u := .dK []) m R hp .nil
    exact P mu' _ _ R' E' r'
end
end Z
end
section
set_option Elab.async false
set_option linter.all false
set_option maxRecDepth 100000
set_option maxHeartbeats 4000000
/-! Zi: subscripts, slices, in; built-ins by values. -/
namespace Z
open PySem PySem.Spec PyProof.Rows L2 PySem.SeqAt
open PySem.W (EqTree)

section
variable {X : Cx} {C : Cfg} {W : WX} {mu : Mu} {M : Mem} {H : Hp}
theorem rep_at {xs : List T} {vs : List V} {i : Int} {t : T} (r : RepL C mu H xs vs) (h : atI xs i = some t) : ∃ v, atI vs i = some v ∧ Rep C mu H t v := by
  unfold atI at h ⊢
  rw [← r.length]
  cases e : ixN xs.length i with
  | none => rw [e] at h; cases h
  | some j =>
    rw [e] at h
    obtain ⟨v, h1, h2⟩ := r.get (show xs[j]? = some t from h)
    exact ⟨v, h1, h2⟩
theorem RepD.look (k : Str) : ∀ {ks : List (Str × T)} {ws : List (Key × V)}, RepD C mu H ks ws → match ks.lookup k with
    | some t => ∃ v, valV ws (.inr k : Key) = some v ∧ Rep C mu H t v
    | none => valV ws (.inr k : Key) = none
  | _, _, .nil => rfl
  | _, _, @RepD.cons _ _ _ k' t v ks ws h r => by
    have ih := r.look k
    by_cases e : k = k'
    · subst e
      simp only [List.lookup_cons, beq_self_eq_true]
      exact ⟨v, by simp [valV], h⟩
    · have e1 : (k == k') = false := by simpa using e
      have e2 : ¬ ((.inr k' : Key) = .inr k) := fun z => e (Sum.inr.inj z).symm
      have e3 : valV ((.inr k', v) :: ws) (.inr k : Key) = valV ws (.inr k) := valV_neg e2
      simp only [List.lookup_cons, e1, e3]
      exact ih
/-! ### subscripts -/
def rIxD : R2 := fun x y H Q => ∃ a v, x = .ref a ∧ DGet H a y (some v) ∧ Q v H
theorem ix_dict (hu : X.A.units + 1 < cLine) : IxR X rIxD := by
  intro value slice pins s σ H x y v u Q I rx ry h hs
  obtain ⟨a, z, rfl, g, q⟩ := h
  cases rx
  exact tail_any (dict_typeIs I g) PySem.F.slot_dict_getitem.lookup (d_getItem hu I g ry fun w' s3 I3 rw' => ⟨z, H, I3, rw', q⟩) hs
def pr (M : Mem) (o : Option T) : Option (T × Mem) := match o with
  | some t => some (t, M)
  | none => none
theorem pr_some {o : Option T} {t : T} {M' : Mem} (h : pr M o = some (t, M')) : o = some t ∧ M' = M := by
  cases o with
  | none => cases h
  | some u => cases h; exact ⟨rfl, rfl⟩
def gIx : Op2 := fun t u M => match u with
  | .int i => (match t with
    | .str x => if x.length ≤ LIM then pr M ((atI x.cps.toList i).map fun c => .str ⟨#[c]⟩) else none
    | .tup xs => pr M (atI xs i)
    | t => (match der M t with
      | .lst xs => pr M (atI xs i)
      | _ => none))
  | .str k => (match der M t with
    | .dct ks => pr M (ks.lookup k)
    | _ => none)
  | _ => none
theorem ixR_weak {r r' : R2} (h : IxR X r) (w : ∀ x y H Q, r' x y H Q → r x y H Q) : IxR X r' := fun a b pins s σ H x y v u Q I rx ry q hs => h a b pins s σ H x y v u Q I rx ry (w x y H Q q) hs
theorem z_ix (hK : C.K = X.K) (hu : X.A.units + 1 < cLine) : IxR X (rZ C gIx) := ixR_weak (IxR.or ix_seq (ix_dict hu)) fun x y H Q ⟨mu, M, t, u, t', M', R, rt, ru, e, q⟩ => by
  cases u with
  | int i =>
    have ey := ru.intI
    subst ey
    have lists : (match der M t with
      | .lst xs => pr M (atI xs i)
      | _ => none) = some (t', M') → rIx X.K x (.int i) H Q := fun e => by
      split at e
      · rename_i xs hx
        obtain ⟨a, vs, rfl, ha, r⟩ := der_lst R rt hx
        obtain ⟨h1, rfl⟩ := pr_some e
        obtain ⟨v, h2, r2⟩ := rep_at r h1
        exact .inl ⟨a, vs, i, v, rfl, rfl, .inl ha, h2, q mu _ H R Ext.refl r2⟩
      · cases e
    cases t with
    | str z =>
      unfold gIx at e
      simp only at e
      by_cases c : z.length ≤ LIM
      · rw [if_pos c] at e
        obtain ⟨h1, rfl⟩ := pr_some e
        obtain ⟨k, h2, rfl⟩ := Option.map_eq_some_iff.mp h1
        exact .inl (.inr (.inr ⟨z, i, k, rt.strI, rfl, by rw [← LIM_eq]; exact c, h2, q mu _ H R Ext.refl (.str _)⟩))
      · rw [if_neg c] at e; cases e
    | tup xs =>
      obtain ⟨a, vs, rfl, f, r⟩ := rt.tupI
      obtain ⟨h1, rfl⟩ := pr_some (show pr M (atI xs i) = some (t', M') from e)
      obtain ⟨v, h2, r2⟩ := rep_at r h1
      exact .inl (.inr (.inl ⟨a, vs, i, v, rfl, rfl, hK ▸ f.sq, h2, q mu _ H R Ext.refl r2⟩))
    | lst xs => exact .inl (lists e)
    | cel j => exact .inl (lists e)
    | fz xs => exact .inl (lists e)
    | _ => cases e
  | str k =>
    have ey := ru.strI
    subst ey
    have e' : (match der M t with
      | .dct ks => pr M (ks.lookup k)
      | _ => none) = some (t', M') := e
    split at e'
    · rename_i ks hk
      obtain ⟨a, ws, rfl, ha, r⟩ := der_dct R rt hk
      obtain ⟨h1, rfl⟩ := pr_some e'
      have l := r.look k
      rw [h1] at l
      obtain ⟨v, h2, r2⟩ := l
      exact .inr ⟨a, v, rfl, .inl ⟨ws, .inr k, ha, rfl, h2.symm⟩, q mu _ H R Ext.refl r2⟩
    · cases e'
  | _ => cases e
theorem s_ix (hK : C.K = X.K) (hu : X.A.units + 1 < cLine) {a b : Expr} {da db : DE} {pos : Pos} (ha : PE X a (TEz C W da)) (hb : PE X b (TEz C W db)) (hs : PlainIx b) : PE X (.Subscript a b pos) (TEz C W (dBin gIx da db)) :=
  pe_weak (pe_ix (z_ix hK hu) ha hb hs) fun _ _ _ h => bin_read h

/-! ### slices -/
abbrev DO := Sg → Mem → Out (Option Int)
def dNoPart : DO := fun _ M => .ok none M
def dPart (d : DE) : DO := fun s M => (d s M).bind fun t M1 => match t with
  | .int i => .ok (some i) M1
  | _ => .no
def TOz (C : Cfg) (W : WX) (d : DO) : TO := fun σ H Q => ∃ mu s M, RM C mu M H ∧ RS C mu H s σ ∧ Post C mu H (d s M) (fun _ _ a b => a = b) Q fun c dd H' => W c dd σ H'
theorem o_none : PO X none (TOz C W dNoPart) := ⟨fun pins s σ H Q I ⟨mu, sg, M, R, S, P⟩ => po_none.run pins s σ H Q I (P mu _ H R Ext.refl rfl)⟩
theorem o_some {e : Expr} {d : DE} (h : PE X e (TEz C W d)) : PO X (some e) (TOz C W (dPart d)) :=
  ⟨fun pins s σ H Q I ⟨mu, sg, M, R, S, P⟩ => (po_some h).run pins s σ H Q I ⟨mu, sg, M, R, S, P.bind fun t M1 mu1 x H1 R1 E1 r1 P1 => by
    cases r1 with
    | int i => exact ⟨i, rfl, P1 mu1 _ H1 R1 Ext.refl rfl⟩
    | _ => exact P1.elim⟩⟩
def cutT (xs : List T) (lo hi : Option Int) : List T := (xs.drop (HT.sIx xs.length 0 lo)).take (HT.sIx xs.length xs.length hi - HT.sIx xs.length 0 lo)
theorem rep_cut {xs : List T} {vs : List V} {lo hi : Option Int} (r : RepL C mu H xs vs) : RepL C mu H (cutT xs lo hi) (cutV vs lo hi) := by
  unfold cutT cutV
  rw [r.length]
  exact (r.drop _).take _
def gSl (m : Bool) (t : T) (lo hi : Option Int) (M : Mem) : Option (T × Mem) := match t with
  | .str x => if x.length ≤ LIM then some (.str (cutS x lo hi), M) else none
  | .tup xs => some (.tup (cutT xs lo hi), M)
  | t => (match der M t with
    | .lst xs => some (mk m (.lst (cutT xs lo hi)) M)
    | _ => none)
def dSl (m : Bool) (da : DE) (dl dh : DO) : DE := fun s M => (da s M).bind fun t M1 => (dl s M1).bind fun l M2 => (dh s M2).bind fun u M3 => lift (gSl m t l u M3)
theorem slR_weak {r r' : V → Option Int → Option Int → Hp → VK → Prop} (h : SlR X r) (w : ∀ x lo hi H Q, r' x lo hi H Q → r x lo hi H Q) : SlR X r' := fun pins s σ H x v vl vu lo hi sl Q I rx hs pl pu q => h pins s σ H x v vl vu lo hi sl Q I rx hs pl pu (w x lo hi H Q q)
theorem cut_whole {xs : List T} {lo hi : Option Int} (h : HT.sIx xs.length 0 lo = 0 ∧ HT.sIx xs.length xs.length hi = xs.length) : cutT xs lo hi = xs := by
  unfold cutT
  rw [h.1, h.2]
  simp
theorem s_sl (hK : C.K = X.K) (m : Bool) {a : Expr} {lo hi : Option Expr} {da : DE} {dl dh : DO} {p2 pos : Pos} (ha : PE X a (TEz C W da)) (hl : PO X lo (TOz C W dl)) (hh : PO X hi (TOz C W dh)) :
    PE X (.Subscript a (.Slice lo hi none p2) pos) (TEz C W (dSl m da dl dh)) := by
  let rr : V → Option Int → Option Int → Hp → VK → Prop := fun x lo hi H Q => ∃ mu M t t' M', RM C mu M H ∧ Rep C mu H t x ∧ gSl m t lo hi M = some (t', M') ∧ ∀ mu' v H', RM C mu' M' H' → Ext C mu H mu' H' → Rep C mu' H' t' v → Q v H'
  have hr : SlR X rr := slR_weak ((SlR.or sl_list sl_tupA).or sl_str) fun x lo hi H Q ⟨mu, M, t, t', M', R, rt, e, q⟩ => by
    have lists : (match der M t with
      | .lst xs => some (mk m (.lst (cutT xs lo hi)) M)
      | _ => none) = some (t', M') → rSlL X.K x lo hi H Q := fun e => by
      split at e
      · rename_i xs hx
        obtain ⟨a, vs, rfl, ha, r⟩ := der_lst R rt hx
        refine ⟨a, vs, rfl, .inl ha, fun p hp => ?_⟩
        obtain ⟨mu', R', E', r'⟩ := mk_ok (t := .lst (cutT xs lo hi)) (u := .lst (cutV vs lo hi)) m R hp (rep_cut r)
        rw [Option.some.inj e] at R' r'
        exact q mu' _ _ R' E' r'
      · cases e
    cases t with
    | str z =>
      unfold gSl at e
      simp only at e
      by_cases c : z.length ≤ LIM
      · rw [if_pos c] at e
        cases e
        exact .inr ⟨z, rt.strI, by rw [← LIM_eq]; exact c, q mu _ H R Ext.refl (.str _)⟩
      · rw [if_neg c] at e; cases e
    | tup xs =>
      obtain ⟨a, vs, rfl, f, r⟩ := rt.tupI
      cases e
      refine .inl (.inr ⟨a, vs, rfl, hK ▸ f.sq, fun z => ?_, fun _ p hp => ?_⟩)
      · rw [← r.length] at z
        rw [cut_whole z] at q
        exact q mu _ H R Ext.refl (.tup f r)
      · obtain ⟨R', E', r'⟩ := tup_ok R hp (rep_cut (lo := lo) (hi := hi) r)
        exact q mu _ _ R' E' r'
    | lst xs => exact .inl (.inl (lists e))
    | cel j => exact .inl (.inl (lists e))
    | fz xs => exact .inl (.inl (lists e))
    | _ => cases e
  refine pe_weak (pe_slice hr ha hl hh) fun σ H Q ⟨mu, s, M, R, S, P⟩ => ⟨mu, s, M, R, S, P.bind fun t M1 mu1 x H1 R1 E1 r1 P1 => ?_⟩
  refine ⟨mu1, s, M1, R1, S.mono E1.rx, P1.bind fun l M2 mu2 l' H2 R2 E2 e2 P2 => ?_⟩
  subst e2
  refine ⟨mu2, s, M2, R2, (S.mono E1.rx).mono E2.rx, P2.bind fun u M3 mu3 u' H3 R3 E3 e3 P3 => ?_⟩
  subst e3
  cases e : gSl m t l u M3 with
  | none => rw [e] at P3; exact P3.elim
  | some p =>
    obtain ⟨t', M'⟩ := p
    rw [e] at P3
    exact ⟨mu3, M3, t, t', M', R3, r1.mono (E2.trans E3).rx, e, P3⟩
def dRev (m : Bool) (da : DE) : DE := fun s M => (da s M).bind fun t M1 => match der M1 t with
  | .lst xs => lift (some (mk m (.lst xs.reverse) M1))
  | _ => .no
theorem s_rev (hK : C.K = X.K) (m : Bool) {a : Expr} {da : DE} {k : Nat} {p1 p2 p3 pos : Pos} (ha : PE X a (TEz C W da)) : PE X (.Subscript a (.Slice none none (some (.UnaryOp .USub (.Constant (.int 1) k p1) p2)) p3) pos) (TEz C W (dRev m da)) :=
  pe_weak (pe_revL ha) fun σ H Q ⟨mu, s, M, R, S, P⟩ => ⟨mu, s, M, R, S, P.bind fun t M1 mu1 x H1 R1 E1 r1 P1 => by
    split at P1
    · rename_i xs hx
      obtain ⟨a, vs, rfl, ha, r⟩ := der_lst R1 r1 hx
      refine ⟨a, vs, rfl, .inl ha, fun p hp => ?_⟩
      obtain ⟨mu', R', E', r'⟩ := mk_ok (t := .lst xs.reverse) (u := .lst vs.reverse) m R1 hp r.reverse
      exact P1 mu' _ _ R' E' r'
    · exact P1.elim⟩

/-! ### in -/
def anyZ (f : T → Option Bool) : List T → Option Bool
  | [] => some false
  | y :: ys => match f y, anyZ f ys with
    | some a, some b => some (a || b)
    | _, _ => none
theorem anyZ_at {f : T → Option Bool} : ∀ {ys : List T} {b : Bool}, anyZ f ys = some b →
    (∀ (j : Nat) (y : T), ys[j]? = some y → ∃ c, f y = some c) ∧ ∀ e : Nat → Bool, (∀ (j : Nat) (y : T), ys[j]? = some y → f y = some (e j)) → b = (List.range ys.length).any e
  | [], b, h => by
    have hb : b = false := by cases h; rfl
    exact ⟨fun j y e => by simp at e, fun e _ => by simp [hb]⟩
  | y :: ys, b, h => by
    unfold anyZ at h
    cases e1 : f y with
    | none => rw [e1] at h; simp at h
    | some a =>
      cases e2 : anyZ f ys with
      | none => rw [e1, e2] at h; simp at h
      | some c =>
        rw [e1, e2] at h
        have hb : (a || c) = b := by simpa using h
        obtain ⟨i1, i2⟩ := anyZ_at e2
        refine ⟨fun j y' h1 => ?_, fun e he => ?_⟩
        · cases j with
          | zero => simp at h1; subst h1; exact ⟨a, e1⟩
          | succ j => exact i1 j y' (by simpa using h1)
        · have h0 := he 0 y (by simp)
          rw [e1] at h0
          have h0' : a = e 0 := by simpa using h0
          have := i2 (fun j => e (j + 1)) fun j y' h1 => he (j + 1) y' (by simpa using h1)
          rw [← hb, this, h0', List.length_cons, List.range_succ_eq_map, List.any_cons, List.any_map]
          rfl
def hasD (ks : List (Str × T)) (t : T) : Option Bool := match t with
  | .str k => some (ks.lookup k).isSome
  | _ => none
def hasR (M : Mem) (t u : T) : Option Bool := match der M u with
  | .lst ys => anyZ (fun y => eqF true eqDepth y t) ys
  | .dct ks => hasD ks t
  | _ => none
def gHas (t u : T) (M : Mem) : Option Bool := match t, u with
  | .str i, .str j => some (!(Builtin.Str.occurrences j i 0 j.length 1).isEmpty)
  | t, .tup ys => if flatT t && ys.all flatT then some (ys.any fun y => (eqF false 1 y t).getD false) else none
  | t, u => hasR M t u
def gIn : Op2 := fun t u M => pr M ((gHas t u M).map fun b => .bl b)
def gNin : Op2 := fun t u M => pr M ((gHas t u M).map fun b => .bl (!b))
theorem b_in : gB gIn := fun t u M t' M' e => by
  obtain ⟨h1, rfl⟩ := pr_some e
  obtain ⟨b, _, rfl⟩ := Option.map_eq_some_iff.mp h1
  exact ⟨⟨_, rfl⟩, rfl⟩
theorem b_nin : gB gNin := fun t u M t' M' e => by
  obtain ⟨h1, rfl⟩ := pr_some e
  obtain ⟨b, _, rfl⟩ := Option.map_eq_some_iff.mp h1
  exact ⟨⟨_, rfl⟩, rfl⟩
theorem flats_all {xs : List T} {vs : List V} (r : RepL C mu H xs vs) (h : xs.all flatT = true) : vs.all flatV = true := by
  induction xs generalizing vs with
  | nil => cases r; rfl
  | cons t ts ih =>
    cases r with
    | cons a b =>
      rw [List.all_cons, Bool.and_eq_true] at h ⊢
      exact ⟨a.flat h.1, ih b h.2⟩
theorem inV_eq {xs : List T} {vs : List V} {t : T} {x : V} (r : RepL C mu H xs vs) (rt : Rep C mu H t x) (f : flatT t = true) (h : xs.all flatT = true) : (xs.any fun y => (eqF false 1 y t).getD false) = inV x vs := by
  induction xs generalizing vs with
  | nil => cases r; rfl
  | cons u us ih =>
    cases r with
    | @cons _ v _ ws a b =>
      rw [List.all_cons, Bool.and_eq_true] at h
      have e1 : (eqF false 1 u t).getD false = eqV v x := by
        cases e : eqF false 1 u t with
        | none =>
          exfalso
          cases a <;> first | cases h.1; done | (cases rt <;> first | cases f; done | simp [eqF, flatT] at e)
        | some b => exact (flat_eqV a rt h.1 f e).symm
      rw [List.any_cons, e1, ih b h.2]
      rfl
theorem has_ok (hK : C.K = X.K) (hu : X.A.units + 64 < cLine) (neg : Bool) {pins : List (Addr × Obj)} {s : Shared} {σ : L2.St} {x y : V} {v u : Value} {t u' : T} {b : Bool} {Q : Value → Shared → Prop} (I : Inv X pins σ H s) (R : RM C mu M H)
    (rt : Rep C mu H t x) (ru : Rep C mu H u' y) (rx : RelV x v) (ry : RelV y u) (e : gHas t u' M = some b) (q : ∀ s', Inv X pins σ H s' → Q (.bool (if neg then !b else b)) s') : wpAny (model X.prog X.w) X.A (compareOp (if neg then .NotIn else .In) v u) Q X.xe s := by
  have rest : hasR M t u' = some b → wpAny (model X.prog X.w) X.A (compareOp (if neg then .NotIn else .In) v u) Q X.xe s := fun e => by
    unfold hasR at e
    split at e
    · rename_i ys hy
      obtain ⟨a, vs, rfl, ha, r⟩ := der_lst R ru hy
      cases ry
      obtain ⟨its, q1, p, _⟩ := I.list (X := X) (.inl ha)
      obtain ⟨h1, h2⟩ := anyZ_at e
      let e0 : Nat → Bool := fun j => match ys[j]? with
        | some y => (eqF true eqDepth y t).getD false
        | none => false
      have he : ∀ (j : Nat) (y : T), ys[j]? = some y → eqF true eqDepth y t = some (e0 j) := fun j y hj => by
        obtain ⟨c, hc⟩ := h1 j y hj
        show _ = some (match ys[j]? with
          | some y => (eqF true eqDepth y t).getD false
          | none => false)
        rw [hj]
        show eqF true eqDepth y t = some ((eqF true eqDepth y t).getD false)
        rw [hc]; rfl
      have hl : its.toArray.size = ys.length := by
        rw [List.size_toArray, ← q1.length, r.length]
      refine has_listI neg p.isList (e := e0) (fun j hj => ?_) (by rw [hl, ← h2 e0 he]; exact q s I)
      have hj' : its[j]? = some its.toArray[j] := by simp
      obtain ⟨t1, v1, g1, g2, g3, g4⟩ := r.vals q1 hj'
      have g5 := he j t1 g1
      exact EqC.run (eqF_ok true hK I eqDepth t1 t v1 x _ v _ g3 rt g4 rx g5) (by show X.A.units + 1 + 30 < cLine; omega)
    · rename_i ks hk
      unfold hasD at e
      split at e
      · rename_i k _
        obtain ⟨a, ws, rfl, ha, r⟩ := der_dct R ru hk
        cases ry
        have l := r.look k
        have ex := rt.strI
        subst ex
        have g : DGet H a (.str k) (valV ws (.inr k)) := .inl ⟨ws, .inr k, ha, rfl, rfl⟩
        have eb : b = (valV ws (.inr k : Key)).isSome := by
          cases e2 : ks.lookup k with
          | none =>
            rw [e2] at l e
            rw [l]
            cases e; rfl
          | some z =>
            rw [e2] at l e
            obtain ⟨v', l, _⟩ := l
            rw [l]
            cases e; rfl
        cases neg with
        | true => exact d_notIn (by omega) I g rx fun s' I' => by rw [← eb]; exact q s' I'
        | false => exact d_in (by omega) I g rx fun s' I' => by rw [← eb]; exact q s' I'
      · cases e
    · cases e
  unfold gHas at e
  split at e
  · rename_i i j
    have ex := rt.strI
    have ey := ru.strI
    subst ex ey
    cases e
    cases neg with
    | true => exact thn (op_notin_str pins s σ H _ _ v u (fun x H' => x = .bl _ ∧ H' = H) I rx ry ⟨i, j, rfl, rfl, rfl, rfl⟩) fun z s' ⟨x, H', I', r', e1, e2⟩ => by subst e1 e2; cases r'; exact q s' I'
    | false => exact thn (op_in_str pins s σ H _ _ v u (fun x H' => x = .bl _ ∧ H' = H) I rx ry ⟨i, j, rfl, rfl, rfl, rfl⟩) fun z s' ⟨x, H', I', r', e1, e2⟩ => by subst e1 e2; cases r'; exact q s' I'
  · rename_i ys
    split at e
    · rename_i hc
      rw [Bool.and_eq_true] at hc
      cases e
      obtain ⟨a, vs, rfl, f, r⟩ := ru.tupI
      have e1 := inV_eq r rt hc.1 hc.2
      have fx := rt.flat hc.1
      have fs := flats_all r hc.2
      rw [e1] at q
      cases neg with
      | true => exact thn (op_notIn_seq pins s σ H _ _ v u (fun x H' => x = .bl _ ∧ H' = H) I rx ry ⟨a, vs, rfl, .inr (hK ▸ f.sq), fx, fs, rfl, rfl⟩) fun z s' ⟨x, H', I', r', e1, e2⟩ => by subst e1 e2; cases r'; exact q s' I'
      | false => exact thn (op_in_seq pins s σ H _ _ v u (fun x H' => x = .bl _ ∧ H' = H) I rx ry ⟨a, vs, rfl, .inr (hK ▸ f.sq), fx, fs, rfl, rfl⟩) fun z s' ⟨x, H', I', r', e1, e2⟩ => by subst e1 e2; cases r'; exact q s' I'
    · cases e
  · exact rest e
theorem z_in (hK : C.K = X.K) (hu : X.A.units + 64 < cLine) : OpR X (compareOp .In) (rZ C gIn) := fun pins s σ H x y v u Q I rx ry ⟨mu, M, t, u', t', M', R, rt, ru, e, q⟩ => by
  obtain ⟨h1, rfl⟩ := pr_some e
  obtain ⟨b, h2, rfl⟩ := Option.map_eq_some_iff.mp h1
  exact has_ok hK hu false I R rt ru rx ry h2 fun s' I' => ⟨.bl _, H, I', rfl, q mu _ H R Ext.refl (.bl _)⟩
theorem z_nin (hK : C.K = X.K) (hu : X.A.units + 64 < cLine) : OpR X (compareOp .NotIn) (rZ C gNin) := fun pins s σ H x y v u Q I rx ry ⟨mu, M, t, u', t', M', R, rt, ru, e, q⟩ => by
  obtain ⟨h1, rfl⟩ := pr_some e
  obtain ⟨b, h2, rfl⟩ := Option.map_eq_some_iff.mp h1
  exact has_ok hK hu true I R rt ru rx ry h2 fun s' I' => ⟨.bl _, H, I', rfl, q mu _ H R Ext.refl (.bl _)⟩
end
end Z
end
section
set_option Elab.async false
set_option linter.all false
set_option maxRecDepth 100000
set_option maxHeartbeats 4000000
/-! Zj: built-ins by values. -/
namespace Z
open PySem PySem.Spec PyProof.Rows L2 PySem.SeqAt

abbrev OpN := List T → Mem → Option (T × Mem)
def rN (C : Cfg) (g : OpN) : List V → Hp → VK → Prop := fun xs H Q => ∃ mu M ts t' M', RM C mu M H ∧ RepL C mu H ts xs ∧ g ts M = some (t', M') ∧
  ∀ mu' v H', RM C mu' M' H' → Ext C mu H mu' H' → Rep C mu' H' t' v → Q v H'
def dCall (g : OpN) (da : DA) : DE := fun s M => (da s M).bind fun ts M1 => lift (g ts M1)
section
variable {X : Cx} {C : Cfg} {W : WX} {mu : Mu} {M M' : Mem} {H : Hp} {t' : T} {Q : VK}
theorem callR_weak {f : Value} {r r' : List V → Hp → VK → Prop} (h : CallR X f r) (w : ∀ xs H Q, r' xs H Q → r xs H Q) : CallR X f r' := fun pins s σ H xs us Q I r q => h pins s σ H xs us Q I r (w xs H Q q)
theorem call_read {g : OpN} {da : DA} {σ : L2.St} {H : Hp} {Q : VK} (h : TEz C W (dCall g da) σ H Q) : tCB (rN C g) (TAz C W da) σ H Q := by
  obtain ⟨mu, s, M, R, S, P⟩ := h
  refine ⟨mu, s, M, R, S, P.bind fun ts M1 mu1 xs H1 R1 E1 r1 P1 => ?_⟩
  cases e : g ts M1 with
  | none => rw [e] at P1; exact P1.elim
  | some p =>
    obtain ⟨t', M'⟩ := p
    rw [e] at P1
    exact ⟨mu1, M1, ts, t', M', R1, r1, e, P1⟩
theorem RepL.one {t : T} {xs : List V} (r : RepL C mu H [t] xs) : ∃ x, xs = [x] ∧ Rep C mu H t x := by
  cases r with
  | cons h q => cases q; exact ⟨_, rfl, h⟩
theorem RepL.two {t u : T} {xs : List V} (r : RepL C mu H [t, u] xs) : ∃ x y, xs = [x, y] ∧ Rep C mu H t x ∧ Rep C mu H u y := by
  cases r with
  | cons h q =>
    obtain ⟨y, rfl, h2⟩ := q.one
    exact ⟨_, _, rfl, h, h2⟩

/-! ### len -/
def gLen : OpN := fun ts M => match ts with
  | [.str x] => if x.length ≤ LIM then some (.int x.length, M) else none
  | [.tup xs] => some (.int xs.length, M)
  | [t] => (match der M t with
    | .lst xs => some (.int xs.length, M)
    | .dct ks => some (.int ks.length, M)
    | _ => none)
  | _ => none
def rLenD : List V → Hp → VK → Prop := fun xs H Q => ∃ a kvs, xs = [V.ref a] ∧ Rd H a (.dK kvs) ∧ Q (.int kvs.length) H
theorem call_lenRd : CallR X (.builtin "len") rLenD := fun pins s σ H xs us Q I r ⟨a, kvs, e, h, q⟩ => by
  subst e
  obtain ⟨u, rfl, r1⟩ := vals1 r
  cases (show u = Value.ref a from r1)
  exact d_len I h fun t s' I' => ⟨.int kvs.length, H, I', ⟨t, rfl⟩, q⟩
theorem c_len (hK : C.K = X.K) : CallR X (.builtin "len") (rN C gLen) := callR_weak ((call_len_seq.or call_len_str).or call_lenRd) fun xs H Q ⟨mu, M, ts, t', M', R, r, e, q⟩ => by
  match ts, r, e with
  | [t], r, e =>
    obtain ⟨x, rfl, rt⟩ := r.one
    have rest : (match der M t with
      | .lst xs => some ((.int xs.length : T), M)
      | .dct ks => some (.int ks.length, M)
      | _ => none) = some (t', M') → ((∃ p ys, [x] = [V.ref p] ∧ (SqL X.K H p ys ∨ SqT X.K H p ys) ∧ Q (.int ys.length) H) ∨ ∃ z, [x] = [V.str z] ∧ z.length ≤ sizeLine ∧ Q (.int z.length) H) ∨ rLenD [x] H Q := fun e => by
      split at e
      · rename_i xs hx
        obtain ⟨a, vs, rfl, ha, r⟩ := der_lst R rt hx
        cases e
        exact .inl (.inl ⟨a, vs, rfl, .inl (.inl ha), by rw [← r.length]; exact q mu _ H R Ext.refl (.int _)⟩)
      · rename_i ks hx
        obtain ⟨a, ws, rfl, ha, r⟩ := der_dct R rt hx
        cases e
        exact .inr ⟨a, ws, rfl, ha, by rw [← r.length]; exact q mu _ H R Ext.refl (.int _)⟩
      · cases e
    cases t with
    | str z =>
      unfold gLen at e
      simp only at e
      by_cases c : z.length ≤ LIM
      · rw [if_pos c] at e
        cases e
        exact .inl (.inr ⟨z, by rw [rt.strI], by rw [← LIM_eq]; exact c, q mu _ H R Ext.refl (.int _)⟩)
      · rw [if_neg c] at e; cases e
    | tup ys =>
      obtain ⟨a, vs, rfl, f, r⟩ := rt.tupI
      cases e
      exact .inl (.inl ⟨a, vs, rfl, .inr (hK ▸ f.sq), by rw [← r.length]; exact q mu _ H R Ext.refl (.int _)⟩)
    | _ => exact rest e
  | [], _, e => cases e
  | _ :: _ :: _, _, e => simp [gLen] at e

/-! ### int, str, max, min of numbers -/
def gInt : OpN := fun ts M => match ts with
  | [.int i] => some (.int i, M)
  | [.bl k] => some (.int (if k then 1 else 0), M)
  | _ => none
theorem c_int : CallR X (.type "int") (rN C gInt) := callR_weak call_int1 fun xs H Q ⟨mu, M, ts, t', M', R, r, e, q⟩ => by
  unfold gInt at e
  split at e
  · obtain ⟨x, rfl, rt⟩ := r.one
    cases rt
    cases e
    exact .inl ⟨_, rfl, q mu _ H R Ext.refl (.int _)⟩
  · obtain ⟨x, rfl, rt⟩ := r.one
    cases rt
    cases e
    exact .inr ⟨_, rfl, q mu _ H R Ext.refl (.int _)⟩
  · cases e
def gStr : OpN := fun ts M => match ts with
  | [.int i] => if i.natAbs.log2 < 1920 then some (.str (toString i), M) else none
  | [.str a] => some (.str a, M)
  | _ => none
theorem c_str : CallR X (.type "str") (rN C gStr) := callR_weak (call_str_int.or SkE.call_str_str) fun xs H Q ⟨mu, M, ts, t', M', R, r, e, q⟩ => by
  unfold gStr at e
  split at e
  · obtain ⟨x, rfl, rt⟩ := r.one
    cases rt
    split at e
    · rename_i c
      cases e
      exact .inl ⟨_, rfl, c, q mu _ H R Ext.refl (.str _)⟩
    · cases e
  · obtain ⟨x, rfl, rt⟩ := r.one
    cases rt
    cases e
    exact .inr ⟨_, rfl, q mu _ H R Ext.refl (.str _)⟩
  · cases e
/-- the ints of a list -/
def intsT : List T → Option (List Int)
  | [] => some []
  | .int i :: r => (intsT r).map fun l => i :: l
  | _ => none
theorem ints_rep : ∀ {ts : List T} {vs : List V} {ns : List Int}, RepL C mu H ts vs → intsT ts = some ns → vs = ns.map V.int
  | _, _, _, .nil, e => by cases e; rfl
  | _, _, _, @RepL.cons _ _ _ t v ts vs h r, e => by
    cases h with
    | int i =>
      obtain ⟨l, h1, h2⟩ := Option.map_eq_some_iff.mp (show (intsT ts).map (fun l => i :: l) = some _ from e)
      rw [← h2, ints_rep r h1]; rfl
    | _ => cases e
def strsT : List T → Option (List Str)
  | [] => some []
  | .str i :: r => (strsT r).map fun l => i :: l
  | _ => none
theorem strs_rep : ∀ {ts : List T} {vs : List V} {ns : List Str}, RepL C mu H ts vs → strsT ts = some ns → vs = ns.map V.str
  | _, _, _, .nil, e => by cases e; rfl
  | _, _, _, @RepL.cons _ _ _ t v ts vs h r, e => by
    cases h with
    | str i =>
      obtain ⟨l, h1, h2⟩ := Option.map_eq_some_iff.mp (show (strsT ts).map (fun l => i :: l) = some _ from e)
      rw [← h2, strs_rep r h1]; rfl
    | _ => cases e
def blsT : List T → Option (List Bool)
  | [] => some []
  | .bl i :: r => (blsT r).map fun l => i :: l
  | _ => none
theorem bls_rep : ∀ {ts : List T} {vs : List V} {ns : List Bool}, RepL C mu H ts vs → blsT ts = some ns → vs = ns.map V.bl
  | _, _, _, .nil, e => by cases e; rfl
  | _, _, _, @RepL.cons _ _ _ t v ts vs h r, e => by
    cases h with
    | bl i =>
      obtain ⟨l, h1, h2⟩ := Option.map_eq_some_iff.mp (show (blsT ts).map (fun l => i :: l) = some _ from e)
      rw [← h2, bls_rep r h1]; rfl
    | _ => cases e
def listOf (M : Mem) (t : T) : Option (List T) := match der M t with
  | .lst xs => some xs
  | _ => none
theorem listOf_ok {t : T} {x : V} {xs : List T} (R : RM C mu M H) (r : Rep C mu H t x) (h : listOf M t = some xs) : ∃ a vs, x = .ref a ∧ Rd H a (.lst vs) ∧ RepL C mu H xs vs := by
  unfold listOf at h
  split at h
  · rename_i ys hy
    cases h
    exact der_lst R r hy
  · cases h
def maxI : List Int → Int
  | [] => 0
  | [a] => a
  | a :: r => max a (maxI r)
def minI : List Int → Int
  | [] => 0
  | [a] => a
  | a :: r => min a (minI r)
theorem maxI_le : ∀ {ns : List Int} {i : Int}, i ∈ ns → i ≤ maxI ns
  | [a], i, h => by simp at h; simp [maxI, h]
  | a :: b :: r, i, h => by
    have ih := @maxI_le (b :: r) i
    show i ≤ max a (maxI (b :: r))
    rcases List.mem_cons.mp h with rfl | h
    · exact Int.le_max_left _ _
    · exact Int.le_trans (ih h) (Int.le_max_right _ _)
theorem maxI_mem : ∀ {ns : List Int}, 0 < ns.length → maxI ns ∈ ns
  | [a], _ => by simp [maxI]
  | a :: b :: r, _ => by
    have ih := @maxI_mem (b :: r) (by simp)
    show max a (maxI (b :: r)) ∈ _
    rcases Int.le_total a (maxI (b :: r)) with h | h
    · rw [Int.max_eq_right h]; exact List.mem_cons_of_mem _ ih
    · rw [Int.max_eq_left h]; exact List.mem_cons_self ..
theorem minI_le : ∀ {ns : List Int} {i : Int}, i ∈ ns → minI ns ≤ i
  | [a], i, h => by simp at h; simp [minI, h]
  | a :: b :: r, i, h => by
    have ih := @minI_le (b :: r) i
    show min a (minI (b :: r)) ≤ i
    rcases List.mem_cons.mp h with rfl | h
    · exact Int.min_le_left _ _
    · exact Int.le_trans (Int.min_le_right _ _) (ih h)
theorem minI_mem : ∀ {ns : List Int}, 0 < ns.length → minI ns ∈ ns
  | [a], _ => by simp [minI]
  | a :: b :: r, _ => by
    have ih := @minI_mem (b :: r) (by simp)
    show min a (minI (b :: r)) ∈ _
    rcases Int.le_total a (minI (b :: r)) with h | h
    · rw [Int.min_eq_left h]; exact List.mem_cons_self ..
    · rw [Int.min_eq_right h]; exact List.mem_cons_of_mem _ ih
def gMax1 (M : Mem) (t : T) : Option Int := match (listOf M t).bind intsT with
  | some (i :: r) => some (maxI (i :: r))
  | _ => none
def gMin1 (M : Mem) (t : T) : Option Int := match (listOf M t).bind intsT with
  | some (i :: r) => some (minI (i :: r))
  | _ => none
theorem ints1 {t : T} {x : V} {ns : List Int} (R : RM C mu M H) (r : Rep C mu H t x) (h : (listOf M t).bind intsT = some ns) : ∃ a, x = .ref a ∧ Rd H a (.lst (ns.map V.int)) := by
  obtain ⟨xs, h1, h2⟩ := Option.bind_eq_some_iff.mp h
  obtain ⟨a, vs, rfl, ha, rl⟩ := listOf_ok R r h1
  rw [ints_rep rl h2] at ha
  exact ⟨a, rfl, ha⟩
def gMax : OpN := fun ts M => match ts with
  | [.int i, .int j] => some (.int (if j > i then j else i), M)
  | [t] => (gMax1 M t).map fun i => (.int i, M)
  | _ => none
def gMin : OpN := fun ts M => match ts with
  | [.int i, .int j] => some (.int (if j < i then j else i), M)
  | [t] => (gMin1 M t).map fun i => (.int i, M)
  | _ => none
theorem c_max (hc : X.calm = true) : CallR X (.builtin "max") (rN C gMax) := callR_weak ((call_max2 hc).or (cr_max hc)) fun xs H Q ⟨mu, M, ts, t', M', R, r, e, q⟩ => by
  unfold gMax at e
  split at e
  · obtain ⟨x, y, rfl, r1, r2⟩ := r.two
    cases r1; cases r2; cases e
    exact .inl ⟨_, _, rfl, q mu _ H R Ext.refl (.int _)⟩
  · obtain ⟨x, rfl, rt⟩ := r.one
    obtain ⟨i, h1, h2⟩ := Option.map_eq_some_iff.mp e
    cases h2
    unfold gMax1 at h1
    split at h1
    · rename_i j l hl
      obtain ⟨a, rfl, ha⟩ := ints1 R rt hl
      cases h1
      refine .inr ⟨a, j :: l, rfl, .inl ha, by simp, fun m hm hy => ?_⟩
      have : m = maxI (j :: l) := Int.le_antisymm (maxI_le hm) (hy _ (maxI_mem (by simp)))
      rw [this]
      exact q mu _ H R Ext.refl (.int _)
    · cases h1
  · cases e
theorem c_min (hc : X.calm = true) : CallR X (.builtin "min") (rN C gMin) := callR_weak ((call_min2 hc).or (cr_min hc)) fun xs H Q ⟨mu, M, ts, t', M', R, r, e, q⟩ => by
  unfold gMin at e
  split at e
  · obtain ⟨x, y, rfl, r1, r2⟩ := r.two
    cases r1; cases r2; cases e
    exact .inl ⟨_, _, rfl, q mu _ H R Ext.refl (.int _)⟩
  · obtain ⟨x, rfl, rt⟩ := r.one
    obtain ⟨i, h1, h2⟩ := Option.map_eq_some_iff.mp e
    cases h2
    unfold gMin1 at h1
    split at h1
    · rename_i j l hl
      obtain ⟨a, rfl, ha⟩ := ints1 R rt hl
      cases h1
      refine .inr ⟨a, j :: l, rfl, .inl ha, by simp, fun m hm hy => ?_⟩
      have : m = minI (j :: l) := Int.le_antisymm (hy _ (minI_mem (by simp))) (minI_le hm)
      rw [this]
      exact q mu _ H R Ext.refl (.int _)
    · cases h1
  · cases e

/-! ### sum, any, all, sorted -/
def gSum : OpN := fun ts M => match ts with
  | [t] => ((listOf M t).bind intsT).map fun ns => (.int ns.sum, M)
  | _ => none
theorem c_sum (hc : X.calm = true) : CallR X (.builtin "sum") (rN C gSum) := callR_weak (cr_sum hc) fun xs H Q ⟨mu, M, ts, t', M', R, r, e, q⟩ => by
  unfold gSum at e
  split at e
  · obtain ⟨x, rfl, rt⟩ := r.one
    obtain ⟨ns, h1, h2⟩ := Option.map_eq_some_iff.mp e
    cases h2
    obtain ⟨a, rfl, ha⟩ := ints1 R rt h1
    exact ⟨a, ns, rfl, .inl ha, q mu _ H R Ext.refl (.int _)⟩
  · cases e
theorem bls1 {t : T} {x : V} {ns : List Bool} (R : RM C mu M H) (r : Rep C mu H t x) (h : (listOf M t).bind blsT = some ns) : ∃ a, x = .ref a ∧ Rd H a (.lst (ns.map V.bl)) := by
  obtain ⟨xs, h1, h2⟩ := Option.bind_eq_some_iff.mp h
  obtain ⟨a, vs, rfl, ha, rl⟩ := listOf_ok R r h1
  rw [bls_rep rl h2] at ha
  exact ⟨a, rfl, ha⟩
theorem strs1 {t : T} {x : V} {ns : List Str} (R : RM C mu M H) (r : Rep C mu H t x) (h : (listOf M t).bind strsT = some ns) : ∃ a, x = .ref a ∧ Rd H a (.lst (ns.map V.str)) := by
  obtain ⟨xs, h1, h2⟩ := Option.bind_eq_some_iff.mp h
  obtain ⟨a, vs, rfl, ha, rl⟩ := listOf_ok R r h1
  rw [strs_rep rl h2] at ha
  exact ⟨a, rfl, ha⟩
def gAny : OpN := fun ts M => match ts with
  | [t] => ((listOf M t).bind blsT).map fun ns => (.bl (ns.any id), M)
  | _ => none
def gAll : OpN := fun ts M => match ts with
  | [t] => ((listOf M t).bind blsT).map fun ns => (.bl (ns.all id), M)
  | _ => none
theorem c_any (hc : X.calm = true) : CallR X (.builtin "any") (rN C gAny) := callR_weak (cr_any hc) fun xs H Q ⟨mu, M, ts, t', M', R, r, e, q⟩ => by
  unfold gAny at e
  split at e
  · obtain ⟨x, rfl, rt⟩ := r.one
    obtain ⟨ns, h1, h2⟩ := Option.map_eq_some_iff.mp e
    cases h2
    obtain ⟨a, rfl, ha⟩ := bls1 R rt h1
    exact ⟨a, ns, rfl, .inl ha, q mu _ H R Ext.refl (.bl _)⟩
  · cases e
theorem c_all (hc : X.calm = true) : CallR X (.builtin "all") (rN C gAll) := callR_weak (cr_all hc) fun xs H Q ⟨mu, M, ts, t', M', R, r, e, q⟩ => by
  unfold gAll at e
  split at e
  · obtain ⟨x, rfl, rt⟩ := r.one
    obtain ⟨ns, h1, h2⟩ := Option.map_eq_some_iff.mp e
    cases h2
    obtain ⟨a, rfl, ha⟩ := bls1 R rt h1
    exact ⟨a, ns, rfl, .inl ha, q mu _ H R Ext.refl (.bl _)⟩
  · cases e
def sortI (l : List Int) : List Int := l.mergeSort (fun a b => decide (a ≤ b))
theorem sortI_eq {l ns : List Int} (p : ns.Perm l) (s : ns.Pairwise (· ≤ ·)) : ns = sortI l := by
  have h1 : (sortI l).Pairwise (fun a b => decide (a ≤ b) = true) := List.pairwise_mergeSort (by intro a b c; simp; omega) (by intro a b; simp; omega) l
  have h2 : (sortI l).Pairwise (· ≤ ·) := h1.imp (by intro a b h; simpa using h)
  exact (p.trans (List.mergeSort_perm l _).symm).eq_of_pairwise (fun a b _ _ h1 h2 => Int.le_antisymm h1 h2) s h2
def leS (a b : Str) : Bool := !ltCps b.cps.toList a.cps.toList
theorem leS_iff {a b : Str} : leS a b = true ↔ a.cps.toList ≤ b.cps.toList := by
  unfold leS
  rw [ltCps_eq]
  simp [List.not_lt]
def sortS (l : List Str) : List Str := l.mergeSort leS
theorem rising_pw : ∀ {l : List Str} {p : Str}, risingS p l = true → (p :: l).Pairwise (fun a b => leS a b = true)
  | [], p, _ => by simp
  | x :: r, p, h => by
    have h' : (leS p x && risingS x r) = true := h
    rw [Bool.and_eq_true] at h'
    have ih := rising_pw h'.2
    rw [List.pairwise_cons]
    refine ⟨fun b hb => ?_, ih⟩
    rcases List.mem_cons.mp hb with rfl | hb
    · exact h'.1
    · exact leS_iff.mpr (List.le_trans (leS_iff.mp h'.1) (leS_iff.mp ((List.pairwise_cons.mp ih).1 b hb)))
theorem sortS_eq {l ns : List Str} (p : ns.Perm l) (s : sortedS ns = true) : ns = sortS l := by
  have tr : ∀ a b c : Str, leS a b = true → leS b c = true → leS a c = true := fun a b c h1 h2 => leS_iff.mpr (List.le_trans (leS_iff.mp h1) (leS_iff.mp h2))
  have tot : ∀ a b : Str, (leS a b || leS b a) = true := fun a b => by
    rw [Bool.or_eq_true]
    rcases List.le_total a.cps.toList b.cps.toList with h | h
    · exact .inl (leS_iff.mpr h)
    · exact .inr (leS_iff.mpr h)
  have h1 : (sortS l).Pairwise (fun a b => leS a b = true) := List.pairwise_mergeSort tr tot l
  have h2 : ns.Pairwise (fun a b => leS a b = true) := by
    cases ns with
    | nil => exact .nil
    | cons x r => exact rising_pw s
  refine (p.trans (List.mergeSort_perm l _).symm).eq_of_pairwise (fun a b _ _ h1 h2 => ?_) h2 h1
  have := List.le_antisymm (leS_iff.mp h1) (leS_iff.mp h2)
  cases a; cases b
  simp only at this
  congr 1
  exact Array.toList_inj.mp this
theorem repl_ints : ∀ ns : List Int, RepL C mu H (ns.map T.int) (ns.map V.int)
  | [] => .nil
  | _ :: r => .cons (.int _) (repl_ints r)
theorem repl_strs : ∀ ns : List Str, RepL C mu H (ns.map T.str) (ns.map V.str)
  | [] => .nil
  | _ :: r => .cons (.str _) (repl_strs r)
theorem RepD.keys : ∀ {ks : List (Str × T)} {ws : List (Key × V)}, RepD C mu H ks ws → ws.map (·.1) = (ks.map (·.1)).map Sum.inr
  | _, _, .nil => rfl
  | _, _, .cons _ r => by rw [List.map_cons, List.map_cons, List.map_cons, r.keys]
def gSortX (m : Bool) (t : T) (M : Mem) : Option (T × Mem) := match der M t with
  | .lst xs => (match intsT xs with
    | some ns => if ns.length < 64 then some (mk m (.lst ((sortI ns).map T.int)) M) else none
    | none => (match strsT xs with
      | some ns => if ns.length < 64 then some (mk m (.lst ((sortS ns).map T.str)) M) else none
      | none => none))
  | .dct ks => if ks.length < 64 then some (mk m (.lst ((sortS (ks.map (·.1))).map T.str)) M) else none
  | _ => none
def gSorted (m : Bool) : OpN := fun ts M => match ts with
  | [t] => gSortX m t M
  | _ => none
theorem new_ok (m : Bool) {t : T} {u : HO} {p : Addr} (R : RM C mu M H) (hp : H p = none) (c : CU C mu H t u) (e : mk m t M = (t', M')) (q : ∀ mu' v H', RM C mu' M' H' → Ext C mu H mu' H' → Rep C mu' H' t' v → Q v H') : Q (.ref p) (upd H p u) := by
  obtain ⟨mu', R', E', r'⟩ := mk_ok m R hp c
  rw [e] at R' r'
  exact q mu' _ _ R' E' r'
theorem c_sorted (m : Bool) (hc : X.calm = true) : CallR X (.builtin "sorted") (rN C (gSorted m)) := callR_weak ((cr_sorted.or cr_sortedS).or (call_sortedD hc)) fun xs H Q ⟨mu, M, ts, t', M', R, r, e, q⟩ => by
  match ts, r, e with
  | [t], r, e =>
    obtain ⟨x, rfl, rt⟩ := r.one
    have e : gSortX m t M = some (t', M') := e
    unfold gSortX at e
    split at e
    · rename_i ys hy
      obtain ⟨a, vs, rfl, ha, rl⟩ := der_lst R rt hy
      split at e
      · rename_i ns hn
        split at e
        · rename_i hz
          refine .inl (.inl ⟨a, ns, rfl, .inl (by rw [← ints_rep rl hn]; exact ha), hz, fun ns' p pm pw hp => ?_⟩)
          rw [sortI_eq pm pw]
          exact new_ok (t := .lst ((sortI ns).map T.int)) m R hp (repl_ints (sortI ns)) (Option.some.inj e) q
        · cases e
      · split at e
        · rename_i ns hn
          split at e
          · rename_i hz
            refine .inl (.inr ⟨a, ns, rfl, .inl (by rw [← strs_rep rl hn]; exact ha), hz, fun ns' p pm pw hp => ?_⟩)
            rw [sortS_eq pm pw]
            exact new_ok (t := .lst ((sortS ns).map T.str)) m R hp (repl_strs (sortS ns)) (Option.some.inj e) q
          · cases e
        · cases e
    · rename_i ks hk
      obtain ⟨a, ws, rfl, ha, rl⟩ := der_dct R rt hk
      split at e
      · rename_i hz
        refine .inr ⟨a, ws, ks.map (·.1), rfl, ha, rl.keys, by simpa using hz, fun ys p pm pw hp => ?_⟩
        rw [sortS_eq pm pw]
        generalize ks.map (fun p => p.1) = kk at e ⊢
        exact new_ok (t := .lst ((sortS kk).map T.str)) m R hp (repl_strs (sortS kk)) (Option.some.inj e) q
      · cases e
    · cases e
  | [], _, e => cases e
  | _ :: _ :: _, _, e => simp [gSorted] at e

/-! ### list, tuple, dict -/
def keysT (ks : List (Str × T)) : List T := ks.map fun p => .str p.1
theorem RepD.kv : ∀ {ks : List (Str × T)} {ws : List (Key × V)}, RepD C mu H ks ws → RepL C mu H (keysT ks) (ws.map fun kv => kV kv.1)
  | _, _, .nil => .nil
  | _, _, .cons _ r => .cons (.str _) r.kv
def gList (m : Bool) : OpN := fun ts M => match ts with
  | [.tup xs] => some (mk m (.lst xs) M)
  | [t] => (match der M t with
    | .lst xs => some (mk m (.lst xs) M)
    | .dct ks => some (mk m (.lst (keysT ks)) M)
    | _ => none)
  | _ => none
theorem c_list (m : Bool) (hK : C.K = X.K) (hc : X.calm = true) : CallR X (.type "list") (rN C (gList m)) := callR_weak (call_list_of.or (call_listD hc)) fun xs H Q ⟨mu, M, ts, t', M', R, r, e, q⟩ => by
  unfold gList at e
  split at e
  · obtain ⟨x, rfl, rt⟩ := r.one
    obtain ⟨a, vs, rfl, f, rl⟩ := rt.tupI
    exact .inl ⟨a, vs, rfl, .inr (hK ▸ f.sq), fun l hl => new_ok (t := .lst _) (u := .lst vs) m R hl rl (Option.some.inj e) q⟩
  · obtain ⟨x, rfl, rt⟩ := r.one
    split at e
    · rename_i hy
      obtain ⟨a, vs, rfl, ha, rl⟩ := der_lst R rt hy
      exact .inl ⟨a, vs, rfl, .inl (.inl ha), fun l hl => new_ok (t := .lst _) (u := .lst vs) m R hl rl (Option.some.inj e) q⟩
    · rename_i hy
      obtain ⟨a, ws, rfl, ha, rl⟩ := der_dct R rt hy
      exact .inr ⟨a, ws, rfl, ha, fun l hl => new_ok (t := .lst _) m R hl rl.kv (Option.some.inj e) q⟩
    · cases e
  · cases e
def gTuple : OpN := fun ts M => match ts with
  | [.tup xs] => some (.tup xs, M)
  | [t] => (listOf M t).map fun xs => (.tup xs, M)
  | _ => none
theorem c_tuple (hK : C.K = X.K) : CallR X (.type "tuple") (rN C gTuple) := callR_weak call_tuple_of fun xs H Q ⟨mu, M, ts, t', M', R, r, e, q⟩ => by
  unfold gTuple at e
  split at e
  · obtain ⟨x, rfl, rt⟩ := r.one
    obtain ⟨a, vs, rfl, f, rl⟩ := rt.tupI
    cases e
    exact ⟨a, vs, rfl, .inr ⟨hK ▸ f.sq, q mu _ H R Ext.refl rt⟩⟩
  · obtain ⟨x, rfl, rt⟩ := r.one
    obtain ⟨xs, h1, h2⟩ := Option.map_eq_some_iff.mp e
    cases h2
    obtain ⟨a, vs, rfl, ha, rl⟩ := listOf_ok R rt h1
    refine ⟨a, vs, rfl, .inl ⟨.inl ha, fun l hl => ?_⟩⟩
    obtain ⟨R', E', r'⟩ := tup_ok R hl rl
    exact q mu _ _ R' E' r'
  · cases e
/-- the pairs of a list -/
def pairsT : List T → Option (List (Str × T))
  | [] => some []
  | .tup [.str k, v] :: r => (pairsT r).map fun l => (k, v) :: l
  | _ => none
def putT (ks : List (Str × T)) (k : Str) (t : T) : List (Str × T) := if ks.any (fun p => p.1 == k) then ks.map (fun p => if p.1 == k then (p.1, t) else p) else ks ++ [(k, t)]
def mergeT (ks more : List (Str × T)) : List (Str × T) := more.foldl (fun acc kv => putT acc kv.1 kv.2) ks
theorem any_keys (k : Str) : ∀ {ks : List (Str × T)} {ws : List (Key × V)}, RepD C mu H ks ws → (ws.any fun kv => decide (kv.1 = (.inr k : Key))) = ks.any fun p => p.1 == k
  | _, _, .nil => rfl
  | _, _, @RepD.cons _ _ _ k' t v ks vs h r => by
    rw [List.any_cons, List.any_cons, any_keys k r]
    congr 1
    by_cases e : k' = k
    · subst e; simp
    · have : ¬ ((.inr k' : Key) = .inr k) := fun z => e (Sum.inr.inj z)
      simp [this, e]
theorem map_put {t : T} {v : V} (k : Str) (hr : Rep C mu H t v) : ∀ {ks : List (Str × T)} {ws : List (Key × V)}, RepD C mu H ks ws → RepD C mu H (ks.map fun p => if p.1 == k then (p.1, t) else p) (ws.map fun kv => if kv.1 = (.inr k : Key) then (kv.1, v) else kv)
  | _, _, .nil => .nil
  | _, _, @RepD.cons _ _ _ k' t' v' ks vs h r => by
    rw [List.map_cons, List.map_cons]
    by_cases e : k' = k
    · subst e
      simp only [beq_self_eq_true, if_true]
      exact .cons hr (map_put k' hr r)
    · have e2 : ¬ ((.inr k' : Key) = .inr k) := fun z => e (Sum.inr.inj z)
      have e1 : (k' == k) = false := by simpa using e
      simp only [e1, e2, if_false, Bool.false_eq_true]
      exact .cons h (map_put k hr r)
theorem RepD.append : ∀ {xs ys : List (Str × T)} {vs ws : List (Key × V)}, RepD C mu H xs vs → RepD C mu H ys ws → RepD C mu H (xs ++ ys) (vs ++ ws)
  | _, _, _, _, .nil, s => s
  | _, _, _, _, .cons h r, s => .cons h (r.append s)
theorem RepD.put {ks : List (Str × T)} {ws : List (Key × V)} {k : Str} {t : T} {v : V} (r : RepD C mu H ks ws) (h : Rep C mu H t v) : RepD C mu H (putT ks k t) (putK ws (.inr k) v) := by
  unfold putT putK
  rw [any_keys k r]
  by_cases e : (ks.any fun p => p.1 == k) = true
  · rw [if_pos e, if_pos e]; exact map_put k h r
  · rw [if_neg e, if_neg e]; exact r.append (.cons h .nil)
theorem RepD.merge {ms : List (Str × T)} {us : List (Key × V)} (q : RepD C mu H ms us) : ∀ {ks : List (Str × T)} {ws : List (Key × V)}, RepD C mu H ks ws → RepD C mu H (mergeT ks ms) (mergeK ws us) := by
  induction ms generalizing us with
  | nil => intro ks ws r; cases q; exact r
  | cons p ms ih =>
    intro ks ws r
    cases q with
    | cons h q => exact ih q (r.put h)
theorem pairs_rep (hK : C.K = X.K) : ∀ {ts : List T} {vs : List V} {ks : List (Str × T)}, RepL C mu H ts vs → pairsT ts = some ks → ∃ (ps : List Addr) (kvs : List (Key × V)), vs = ps.map V.ref ∧ Paired (fun p kv => SqT X.K H p [kV kv.1, kv.2]) ps kvs ∧ RepD C mu H ks kvs
  | _, _, _, .nil, e => by cases e; exact ⟨[], [], rfl, .nil, .nil⟩
  | _, _, _, @RepL.cons _ _ _ t v ts vs h r, e => by
    unfold pairsT at e
    split at e
    · rename_i heq; cases heq
    · rename_i k t2 r2 heq
      cases heq
      obtain ⟨l, h1, h2⟩ := Option.map_eq_some_iff.mp e
      cases h2
      obtain ⟨a, ws, rfl, f, rl⟩ := h.tupI
      obtain ⟨x, y, rfl, rx, ry⟩ := rl.two
      obtain ⟨ps, kvs, rfl, p2, rd⟩ := pairs_rep hK r h1
      cases rx
      exact ⟨a :: ps, (.inr k, y) :: kvs, rfl, .cons (hK ▸ f.sq) p2, .cons ry rd⟩
    · cases e
def gDict (m : Bool) : OpN := fun ts M => match ts with
  | [t] => (match der M t with
    | .dct ks => some (mk m (.dct ks) M)
    | .lst xs => (match pairsT xs with
      | some ps => some (mk m (.dct (mergeT [] ps)) M)
      | none => none)
    | _ => none)
  | _ => none
theorem c_dict (m : Bool) (hK : C.K = X.K) (hc : X.calm = true) : CallR X (.type "dict") (rN C (gDict m)) := callR_weak (call_dictD.or (call_dictP hc)) fun xs H Q ⟨mu, M, ts, t', M', R, r, e, q⟩ => by
  unfold gDict at e
  split at e
  · obtain ⟨x, rfl, rt⟩ := r.one
    split at e
    · rename_i hy
      obtain ⟨a, ws, rfl, ha, rl⟩ := der_dct R rt hy
      exact .inl ⟨a, ws, rfl, ha, fun l hl => new_ok (t := .dct _) m R hl rl (Option.some.inj e) q⟩
    · rename_i hy
      obtain ⟨a, vs, rfl, ha, rl⟩ := der_lst R rt hy
      split at e
      · rename_i ps hp
        obtain ⟨as, kvs, rfl, pp, rd⟩ := pairs_rep hK rl hp
        exact .inr ⟨a, as, kvs, rfl, .inl ha, pp, fun l hl => new_ok (t := .dct _) m R hl (RepD.merge rd .nil) (Option.some.inj e) q⟩
      · cases e
    · cases e
  · cases e

/-! ### isinstance -/
def tyT (M : Mem) (t : T) : Option String := match t with
  | .non => some "NoneType"
  | .bl _ => some "bool"
  | .int _ => some "int"
  | .str _ => some "str"
  | .tup _ => some "tuple"
  | t => (match der M t with
    | .lst _ => some "list"
    | .dct _ => some "dict"
    | _ => none)
theorem tyT_ok (hK : C.K = X.K) {t : T} {x : V} {n : String} (R : RM C mu M H) (r : Rep C mu H t x) (e : tyT M t = some n) : TyX X.K H x (.type n) := by
  have rest : (match der M t with
    | .lst _ => some "list"
    | .dct _ => some "dict"
    | _ => none) = some n → TyX X.K H x (.type n) := fun e => by
    split at e
    · rename_i hy
      obtain ⟨a, vs, rfl, ha, rl⟩ := der_lst R r hy
      cases e
      rcases ha with ha | ⟨o, ha⟩
      · exact .base (.lst ha)
      · exact .base (.frz ha)
    · rename_i hy
      obtain ⟨a, ws, rfl, ha, rl⟩ := der_dct R r hy
      cases e
      rcases ha with ha | ⟨o, ha⟩
      · exact .base (.dK ha)
      · exact .fDict ha
    · cases e
  cases t with
  | non => cases r; cases e; exact .base .non
  | bl b => cases r; cases e; exact .base (.bl b)
  | int i => cases r; cases e; exact .base (.int i)
  | str z => cases r; cases e; exact .base (.str z)
  | tup xs =>
    obtain ⟨a, vs, rfl, f, rl⟩ := r.tupI
    cases e
    rcases f with f | ⟨o, its, n, h1, h2, _⟩
    · exact .base (.tup f.1)
    · rw [hK] at h1; exact .kTuple h1 h2
  | _ => exact rest e
def tysT : List T → Option (List String)
  | [] => some []
  | .ty n :: r => (tysT r).map fun l => n :: l
  | _ => none
theorem tys_rep : ∀ {ts : List T} {vs : List V} {ns : List String}, RepL C mu H ts vs → tysT ts = some ns → Paired ClsV vs (ns.map Value.type)
  | _, _, _, .nil, e => by cases e; exact .nil
  | _, _, _, @RepL.cons _ _ _ t v ts vs h r, e => by
    cases h with
    | ty i =>
      obtain ⟨l, h1, h2⟩ := Option.map_eq_some_iff.mp (show (tysT ts).map (fun l => i :: l) = some _ from e)
      rw [← h2]
      exact .cons (.ty i) (tys_rep r h1)
    | _ => cases e
/-- kitOne, kitAny of built-in types -/
def kitL (a : String) : List String → Option Bool
  | [] => some false
  | c :: r => match kitB a c with
    | some true => some true
    | some false => kitL a r
    | none => none
theorem kitL_ok {K : PySem.W.Frag} {a : String} : ∀ {l : List String} {b : Bool}, kitL a l = some b → PySem.W.kitAny K (.type a) (l.map Value.type) = some b
  | [], b, h => h
  | c :: r, b, h => by
    unfold kitL at h
    cases e : kitB a c with
    | none => rw [e] at h; cases h
    | some k =>
      rw [e] at h
      refine kitAny_cons (kit_ty e) (fun hk => ?_) fun hk => ?_
      · subst hk; exact kitL_ok h
      · subst hk; cases h; rfl
def gIsi : OpN := fun ts M => match ts with
  | [t, .ty n] => (match tyT M t with
    | some a => (kitB a n).map fun b => (.bl b, M)
    | none => none)
  | [t, .tup us] => (match tyT M t, tysT us with
    | some a, some l => (kitL a l).map fun b => (.bl b, M)
    | _, _ => none)
  | _ => none
theorem c_isi (hK : C.K = X.K) : CallR X (.builtin "isinstance") (rN C gIsi) := callR_weak (call_isi.or (call_isiT.or call_isiK)) fun xs H Q ⟨mu, M, ts, t', M', R, r, e, q⟩ => by
  unfold gIsi at e
  split at e
  · obtain ⟨x, y, rfl, r1, r2⟩ := r.two
    split at e
    · rename_i a ha
      obtain ⟨b, h1, h2⟩ := Option.map_eq_some_iff.mp e
      cases h2; cases r2
      exact .inl ⟨x, _, _, _, b, rfl, .ty _, tyT_ok hK R r1 ha, kit_ty h1, q mu _ H R Ext.refl (.bl _)⟩
    · cases e
  · obtain ⟨x, y, rfl, r1, r2⟩ := r.two
    split at e
    · rename_i a l ha hl
      obtain ⟨b, h1, h2⟩ := Option.map_eq_some_iff.mp e
      cases h2
      obtain ⟨tp, vs, rfl, f, rl⟩ := r2.tupI
      rcases f with f | ⟨o, its, n, h3, h4, h5, _, h6⟩
      · exact .inr (.inl ⟨x, tp, vs, _, _, b, rfl, f.1, tys_rep rl hl, tyT_ok hK R r1 ha, kitL_ok h1, q mu _ H R Ext.refl (.bl _)⟩)
      · have kl := tys_rep rl hl
        have e3 := ClsV.all kl h6
        obtain ⟨oc, od, dt, sl⟩ := o
        simp only at h4 h5
        subst h4 h5
        rw [hK] at h3
        exact .inr (.inr ⟨x, tp, od, (l.map Value.type), n, sl, _, b, rfl, by rw [← e3]; exact h3, tyT_ok hK R r1 ha, kitL_ok h1, q mu _ H R Ext.refl (.bl _)⟩)
    · cases e
  · cases e
end
end Z
end
section
set_option Elab.async false
set_option linter.all false
set_option maxRecDepth 100000
set_option maxHeartbeats 4000000
/-! Zk: methods of built-in values. -/
namespace Z
open PySem PySem.Spec PyProof.Rows L2 PySem.SeqAt

abbrev OpM := T → List T → Mem → Option (T × Mem)
def rM (C : Cfg) (g : OpM) : V → List V → Hp → VK → Prop := fun x vs H Q => ∃ mu M t ts t' M', RM C mu M H ∧ Rep C mu H t x ∧ RepL C mu H ts vs ∧ g t ts M = some (t', M') ∧
  ∀ mu' v H', RM C mu' M' H' → Ext C mu H mu' H' → Rep C mu' H' t' v → Q v H'
section
variable {X : Cx} {C : Cfg} {W : WX} {mu : Mu} {M M' : Mem} {H : Hp} {t' : T} {Q : VK}
/-- the live cell that a value names -/
def cellOf (M : Mem) (t : T) : Option (Nat × T) := match t with
  | .cel i => (match M[i]? with
    | some (.live u) => some (i, u)
    | _ => none)
  | _ => none
theorem cell_ok {t u : T} {i : Nat} {v : V} (R : RM C mu M H) (r : Rep C mu H t v) (e : cellOf M t = some (i, u)) : ∃ a o, v = .ref a ∧ M[i]? = some (.live u) ∧ mu[i]? = some (some a) ∧ H a = some o ∧ CU C mu H u o := by
  cases r with
  | cel hi hv =>
    rename_i j
    unfold cellOf at e
    simp only at e
    split at e
    · rename_i w hw
      cases e
      obtain ⟨a, o, h1, h2, h3⟩ := R.cell _ _ hw
      exact ⟨a, o, hv a h1, hw, h1, h2, h3⟩
    · cases e
  | _ => cases e
theorem cell_lst {t : T} {xs : List T} {i : Nat} {v : V} (R : RM C mu M H) (r : Rep C mu H t v) (e : cellOf M t = some (i, .lst xs)) : ∃ a vs, v = .ref a ∧ M[i]? = some (.live (.lst xs)) ∧ mu[i]? = some (some a) ∧ H a = some (.lst vs) ∧ RepL C mu H xs vs := by
  obtain ⟨a, o, h1, h2, h3, h4, h5⟩ := cell_ok R r e
  unfold CU at h5
  split at h5
  · rename_i q; cases q; exact ⟨a, _, h1, h2, h3, h4, h5⟩
  · rename_i q; cases q
  · rename_i q; cases q
  · exact h5.elim
theorem cell_dct {t : T} {ks : List (Str × T)} {i : Nat} {v : V} (R : RM C mu M H) (r : Rep C mu H t v) (e : cellOf M t = some (i, .dct ks)) : ∃ a ws, v = .ref a ∧ M[i]? = some (.live (.dct ks)) ∧ mu[i]? = some (some a) ∧ H a = some (.dK ws) ∧ RepD C mu H ks ws := by
  obtain ⟨a, o, h1, h2, h3, h4, h5⟩ := cell_ok R r e
  unfold CU at h5
  split at h5
  · rename_i q; cases q
  · rename_i q; cases q; exact ⟨a, _, h1, h2, h3, h4, h5⟩
  · rename_i q; cases q
  · exact h5.elim
/-- a list's change -/
theorem put_lst {i : Nat} {a : Addr} {xs ys : List T} {ws : List V} {v : V} (R : RM C mu M H) (hi : M[i]? = some (.live (.lst xs))) (ha : mu[i]? = some (some a)) (r : RepL C mu H ys ws) (e : (t', M.set i (.live (.lst ys))) = (t', M'))
    (rv : Rep C mu H t' v) (q : ∀ mu' v H', RM C mu' M' H' → Ext C mu H mu' H' → Rep C mu' H' t' v → Q v H') : Q v (upd H a (.lst ws)) := by
  obtain ⟨R', E'⟩ := R.write (t' := .lst ys) (u := .lst ws) hi ha r
  cases e
  exact q mu _ _ R' E' (rv.mono E'.rx)
theorem put_dct {i : Nat} {a : Addr} {xs ys : List (Str × T)} {ws : List (Key × V)} {v : V} (R : RM C mu M H) (hi : M[i]? = some (.live (.dct xs))) (ha : mu[i]? = some (some a)) (r : RepD C mu H ys ws) (e : (t', M.set i (.live (.dct ys))) = (t', M'))
    (rv : Rep C mu H t' v) (q : ∀ mu' v H', RM C mu' M' H' → Ext C mu H mu' H' → Rep C mu' H' t' v → Q v H') : Q v (upd H a (.dK ws)) := by
  obtain ⟨R', E'⟩ := R.write (t' := .dct ys) (u := .dK ws) hi ha r
  cases e
  exact q mu _ _ R' E' (rv.mono E'.rx)
theorem RepL.dropLast {xs : List T} {vs : List V} (r : RepL C mu H xs vs) : RepL C mu H xs.dropLast vs.dropLast := by
  rw [List.dropLast_eq_take, List.dropLast_eq_take, r.length]
  exact r.take _

theorem mtR_weak {id : String} {r r' : V → List V → Hp → VK → Prop} (h : MtR X id r) (w : ∀ x xs H Q, r' x xs H Q → r x xs H Q) : MtR X id r' := fun pins s σ H x xs v us Q I rx rs q => h pins s σ H x xs v us Q I rx rs (w x xs H Q q)
theorem MtR.or {id : String} {r r' : V → List V → Hp → VK → Prop} (h : MtR X id r) (h' : MtR X id r') : MtR X id (fun x xs H Q => r x xs H Q ∨ r' x xs H Q) := fun pins s σ H x xs v us Q I rx rs q => by
  rcases q with q | q
  · exact h pins s σ H x xs v us Q I rx rs q
  · exact h' pins s σ H x xs v us Q I rx rs q
/-! ### lists -/
def gAppend : OpM := fun t ts M => match ts with
  | [y] => (match cellOf M t with
    | some (i, .lst xs) => if xs.length < LIM then some (.non, M.set i (.live (.lst (xs ++ [y])))) else none
    | _ => none)
  | _ => none
theorem mz_append : MtR X "list.append" (rM C gAppend) := mtR_weak mt_append fun x vs H Q ⟨mu, M, t, ts, t', M', R, rt, rs, e, q⟩ => by
  unfold gAppend at e
  split at e
  · obtain ⟨y, rfl, ry⟩ := rs.one
    split at e
    · rename_i i xs hx
      obtain ⟨a, vs, rfl, h1, h2, h3, rl⟩ := cell_lst R rt hx
      split at e
      · rename_i hz
        have e' := Option.some.inj e
        have et : T.non = t' := congrArg Prod.fst e'
        subst et
        exact ⟨a, vs, y, rfl, rfl, h3, by rw [← LIM_eq, ← rl.length]; exact hz, put_lst R h1 h2 (rl.append (.cons ry .nil)) e' .non q⟩
      · cases e
    · cases e
  · cases e
def gExtend : OpM := fun t ts M => match ts with
  | [y] => (match cellOf M t, derL M y with
    | some (i, .lst xs), .lst ys => if xs.length + ys.length ≤ LIM then some (.non, M.set i (.live (.lst (xs ++ ys)))) else none
    | _, _ => none)
  | _ => none
theorem mz_extend : MtR X "list.extend" (rM C gExtend) := mtR_weak mt_extend fun x vs H Q ⟨mu, M, t, ts, t', M', R, rt, rs, e, q⟩ => by
  unfold gExtend at e
  split at e
  · obtain ⟨y, rfl, ry⟩ := rs.one
    split at e
    · rename_i i xs ys hx hy
      obtain ⟨a, vs, rfl, h1, h2, h3, rl⟩ := cell_lst R rt hx
      obtain ⟨b, ws, rfl, hb, rb⟩ := derL_lst R ry hy
      split at e
      · rename_i hz
        have e' := Option.some.inj e
        have et : T.non = t' := congrArg Prod.fst e'
        subst et
        exact ⟨a, b, vs, ws, rfl, rfl, h3, hb, by rw [← LIM_eq, ← rl.length, ← rb.length]; exact hz, put_lst R h1 h2 (rl.append rb) e' .non q⟩
      · cases e
    · cases e
  · cases e
def gInsert : OpM := fun t ts M => match ts with
  | [.int j, y] => (match cellOf M t with
    | some (i, .lst xs) => if xs.length < LIM ∧ 0 ≤ j ∧ j < 2 ^ 63 then some (.non, M.set i (.live (.lst (xs.take j.toNat ++ [y] ++ xs.drop j.toNat)))) else none
    | _ => none)
  | _ => none
theorem mz_insert : MtR X "list.insert" (rM C gInsert) := mtR_weak mt_insert fun x vs H Q ⟨mu, M, t, ts, t', M', R, rt, rs, e, q⟩ => by
  unfold gInsert at e
  split at e
  · rename_i j y0
    obtain ⟨z, y, rfl, rz, ry⟩ := rs.two
    split at e
    · rename_i i xs hx
      obtain ⟨a, vs, rfl, h1, h2, h3, rl⟩ := cell_lst R rt hx
      split at e
      · rename_i hz
        have e' := Option.some.inj e
        have et : T.non = t' := congrArg Prod.fst e'
        subst et
        cases rz
        exact ⟨a, vs, j, y, rfl, rfl, h3, by rw [← LIM_eq, ← rl.length]; exact hz.1, hz.2.1, hz.2.2, put_lst R h1 h2 (((rl.take _).append (.cons ry .nil)).append (rl.drop _)) e' .non q⟩
      · cases e
    · cases e
  · cases e
def gPop : OpM := fun t ts M => match ts with
  | [] => (match cellOf M t with
    | some (i, .lst xs) => (match xs[xs.length - 1]? with
      | some y => some (y, M.set i (.live (.lst xs.dropLast)))
      | none => none)
    | _ => none)
  | [.int j] => (match cellOf M t with
    | some (i, .lst xs) => if -(2 ^ 63) ≤ j ∧ j < 2 ^ 63 then (match seqIndex? j xs.length with
      | some k => (match xs[k]? with
        | some y => some (y, M.set i (.live (.lst (xs.eraseIdx k))))
        | none => none)
      | none => none) else none
    | _ => none)
  | _ => none
theorem mz_pop : MtR X "list.pop" (rM C gPop) := mtR_weak (MtR.or mt_pop mt_popAt) fun x vs H Q ⟨mu, M, t, ts, t', M', R, rt, rs, e, q⟩ => by
  unfold gPop at e
  split at e
  · cases rs
    split at e
    · rename_i i xs hx
      obtain ⟨a, vs, rfl, h1, h2, h3, rl⟩ := cell_lst R rt hx
      split at e
      · rename_i y hy
        obtain ⟨v, g1, g2⟩ := rl.get hy
        have e' := Option.some.inj e
        have et : y = t' := congrArg Prod.fst e'
        subst et
        exact .inl ⟨a, vs, v, rfl, rfl, h3, by rw [← rl.length]; exact g1, put_lst R h1 h2 rl.dropLast e' g2 q⟩
      · cases e
    · cases e
  · rename_i j
    obtain ⟨z, rfl, rz⟩ := rs.one
    cases rz
    split at e
    · rename_i i xs hx
      obtain ⟨a, vs, rfl, h1, h2, h3, rl⟩ := cell_lst R rt hx
      split at e
      · rename_i hj
        split at e
        · rename_i k hk
          split at e
          · rename_i y hy
            obtain ⟨v, g1, g2⟩ := rl.get hy
            have e' := Option.some.inj e
            have et : y = t' := congrArg Prod.fst e'
            subst et
            exact .inr ⟨a, vs, j, k, v, rfl, rfl, h3, hj.1, hj.2, by rw [← rl.length]; exact hk, g1, put_lst R h1 h2 (rl.eraseIdx k) e' g2 q⟩
          · cases e
        · cases e
      · cases e
    · cases e
  · cases e
def gLclear : OpM := fun t ts M => match ts with
  | [] => (match cellOf M t with
    | some (i, .lst _) => some (.non, M.set i (.live (.lst [])))
    | _ => none)
  | _ => none
theorem mz_lclear : MtR X "list.clear" (rM C gLclear) := mtR_weak mt_clear fun x vs H Q ⟨mu, M, t, ts, t', M', R, rt, rs, e, q⟩ => by
  unfold gLclear at e
  split at e
  · cases rs
    split at e
    · rename_i i xs hx
      obtain ⟨a, vs, rfl, h1, h2, h3, rl⟩ := cell_lst R rt hx
      have e' := Option.some.inj e
      have et : T.non = t' := congrArg Prod.fst e'
      subst et
      exact ⟨a, vs, rfl, rfl, h3, put_lst R h1 h2 .nil e' .non q⟩
    · cases e
  · cases e
/-- how many items answer yes -/
def cntZ (f : T → Option Bool) : List T → Option Nat
  | [] => some 0
  | y :: ys => match f y, cntZ f ys with
    | some a, some b => some (b + if a = true then 1 else 0)
    | _, _ => none
theorem cntZ_at {f : T → Option Bool} : ∀ {ys : List T} {n : Nat}, cntZ f ys = some n →
    (∀ (j : Nat) (y : T), ys[j]? = some y → ∃ c, f y = some c) ∧ ∀ e : Nat → Bool, (∀ (j : Nat) (y : T), ys[j]? = some y → f y = some (e j)) → n = (List.range ys.length).countP e
  | [], b, h => by
    have hb : b = 0 := by cases h; rfl
    exact ⟨fun j y e => by simp at e, fun e _ => by simp [hb]⟩
  | y :: ys, b, h => by
    unfold cntZ at h
    cases e1 : f y with
    | none => rw [e1] at h; simp at h
    | some a =>
      cases e2 : cntZ f ys with
      | none => rw [e1, e2] at h; simp at h
      | some c =>
        rw [e1, e2] at h
        have hb : (c + if a = true then 1 else 0) = b := by simpa using h
        obtain ⟨i1, i2⟩ := cntZ_at e2
        refine ⟨fun j y' h1 => ?_, fun e he => ?_⟩
        · cases j with
          | zero => simp at h1; subst h1; exact ⟨a, e1⟩
          | succ j => exact i1 j y' (by simpa using h1)
        · have h0 := he 0 y (by simp)
          rw [e1] at h0
          have h0' : a = e 0 := by simpa using h0
          have := i2 (fun j => e (j + 1)) fun j y' h1 => he (j + 1) y' (by simpa using h1)
          rw [← hb, this, h0', List.length_cons, List.range_succ_eq_map, List.countP_cons, List.countP_map]
          rfl
def gCount : OpM := fun t ts M => match ts with
  | [y] => (match listOf M t with
    | some xs => (cntZ (fun x => eqF true eqDepth x y) xs).map fun (n : Nat) => ((.int (n : Int) : T), M)
    | none => none)
  | _ => none
theorem mz_count (hK : C.K = X.K) (hu : X.A.units + 64 < cLine) : MtR X "list.count" (rM C gCount) := fun pins s σ H x vs v us Q I rx rs ⟨mu, M, t, ts, t', M', R, rt, rl, e, q⟩ => by
  unfold gCount at e
  split at e
  · rename_i y
    obtain ⟨z, rfl, rz⟩ := rl.one
    obtain ⟨u, rfl, ru⟩ := vals1 rs
    split at e
    · rename_i xs hx
      obtain ⟨a, vs, rfl, ha, r⟩ := listOf_ok R rt hx
      cases rx
      obtain ⟨n, hn, h2⟩ := Option.map_eq_some_iff.mp e
      cases h2
      obtain ⟨its, q1, p, _⟩ := I.list (X := X) (.inl ha)
      obtain ⟨h1, h2⟩ := cntZ_at hn
      let e0 : Nat → Bool := fun j => match xs[j]? with
        | some x => (eqF true eqDepth x y).getD false
        | none => false
      have he : ∀ (j : Nat) (w : T), xs[j]? = some w → eqF true eqDepth w y = some (e0 j) := fun j w hj => by
        obtain ⟨c, hc⟩ := h1 j w hj
        show _ = some (match xs[j]? with
          | some x => (eqF true eqDepth x y).getD false
          | none => false)
        rw [hj]
        show eqF true eqDepth w y = some ((eqF true eqDepth w y).getD false)
        rw [hc]; rfl
      have hl : its.toArray.size = xs.length := by
        rw [List.size_toArray, ← q1.length, r.length]
      refine count_listI p.isList (e := e0) (fun j hj => ?_) ?_
      · have hj' : its[j]? = some its.toArray[j] := by simp
        obtain ⟨t1, v1, g1, g2, g3, g4⟩ := r.vals q1 hj'
        exact EqC.run (eqF_ok true hK I eqDepth t1 y v1 z _ u _ g3 rz g4 ru (he j t1 g1)) (by show X.A.units + 1 + 30 < cLine; omega)
      · rw [hl, ← h2 e0 he]
        exact ⟨.int n, H, I.tok _, ⟨_, rfl⟩, q mu _ H R Ext.refl (.int _)⟩
    · cases e
  · cases e
def gIndex : OpM := fun t ts M => match ts with
  | [y] => (match listOf M t with
    | some xs => if flatT y && xs.all flatT then (xs.findIdx? fun x => (eqF false 1 x y).getD false).map fun (n : Nat) => ((.int (n : Int) : T), M) else none
    | none => none)
  | _ => none
theorem flat_eq1 {u t : T} {v x : V} (a : Rep C mu H u v) (rt : Rep C mu H t x) (fu : flatT u = true) (f : flatT t = true) : (eqF false 1 u t).getD false = eqV v x := by
  cases e : eqF false 1 u t with
  | none =>
    exfalso
    cases a <;> first | cases fu; done | (cases rt <;> first | cases f; done | simp [eqF, flatT] at e)
  | some b => exact (flat_eqV a rt fu f e).symm
theorem mz_index (hK : C.K = X.K) : MtR X "list.index" (rM C gIndex) := mtR_weak mt_index fun x vs H Q ⟨mu, M, t, ts, t', M', R, rt, rs, e, q⟩ => by
  unfold gIndex at e
  split at e
  · rename_i y
    obtain ⟨z, rfl, rz⟩ := rs.one
    split at e
    · rename_i xs hx
      obtain ⟨a, vs, rfl, ha, r⟩ := listOf_ok R rt hx
      split at e
      · rename_i hf
        rw [Bool.and_eq_true] at hf
        obtain ⟨n, hn, h2⟩ := Option.map_eq_some_iff.mp e
        cases h2
        obtain ⟨hlt, h3, h4⟩ := List.findIdx?_eq_some_iff_getElem.mp hn
        have g0 : xs[n]? = some xs[n] := by simp [hlt]
        obtain ⟨w, g1, g2⟩ := r.get g0
        have fl : ∀ (m : Nat) (u : T), xs[m]? = some u → flatT u = true := fun m u hu => (List.all_eq_true.mp hf.2) u (List.mem_of_getElem? hu)
        refine ⟨a, vs, z, n, w, rfl, rfl, .inl ha, rz.flat hf.1, flats_all r hf.2, g1, ?_, fun m w' hm h5 => ?_, q mu _ H R Ext.refl (.int _)⟩
        · rw [← flat_eq1 g2 rz (fl n _ g0) hf.1]; exact h3
        · have hm2 : m < xs.length := Nat.lt_trans hm hlt
          have g3 : xs[m]? = some xs[m] := by simp [hm2]
          obtain ⟨w2, g4, g5⟩ := r.get g3
          rw [h5] at g4
          cases g4
          rw [← flat_eq1 g5 rz (fl m _ g3) hf.1]
          have := h4 m hm
          simpa using this
      · cases e
    · cases e
  · cases e

/-! ### dicts -/
def gDget : OpM := fun t ts M => match ts with
  | [.str k] => (match der M t with
    | .dct ks => some ((ks.lookup k).getD .non, M)
    | _ => none)
  | [.str k, d] => (match der M t with
    | .dct ks => some ((ks.lookup k).getD d, M)
    | _ => none)
  | _ => none
theorem mz_dget (hu : X.A.units + 1 < cLine) : MtR X "dict.get" (rM C gDget) := fun pins s σ H x vs v us Q I rx rs ⟨mu, M, t, ts, t', M', R, rt, rl, e, q⟩ => by
  unfold gDget at e
  split at e
  · rename_i k
    obtain ⟨z, rfl, rz⟩ := rl.one
    obtain ⟨u, rfl, ru⟩ := vals1 rs
    split at e
    · rename_i ks hx
      obtain ⟨a, ws, rfl, ha, r⟩ := der_dct R rt hx
      cases rx
      cases rz
      cases e
      have l := r.look k
      refine d_get1 hu I (.inl ⟨ws, .inr k, ha, rfl, rfl⟩) ru fun w' s' I' rw' => ⟨_, H, I', rw', q mu _ H R Ext.refl ?_⟩
      cases e2 : ks.lookup k with
      | none => rw [e2] at l; rw [l]; exact .non
      | some w =>
        rw [e2] at l
        obtain ⟨y, l, ry⟩ := l
        rw [l]; exact ry
    · cases e
  · rename_i k d
    obtain ⟨z, y0, rfl, rz, ry0⟩ := rl.two
    obtain ⟨u, u2, rfl, ru, ru2⟩ := vals2 rs
    split at e
    · rename_i ks hx
      obtain ⟨a, ws, rfl, ha, r⟩ := der_dct R rt hx
      cases rx
      cases rz
      cases e
      have l := r.look k
      refine d_get2 hu I (.inl ⟨ws, .inr k, ha, rfl, rfl⟩) ru ru2 fun w' s' I' rw' => ⟨_, H, I', rw', q mu _ H R Ext.refl ?_⟩
      cases e2 : ks.lookup k with
      | none => rw [e2] at l; rw [l]; exact ry0
      | some w =>
        rw [e2] at l
        obtain ⟨y, l, ry⟩ := l
        rw [l]; exact ry
    · cases e
  · cases e
def dropT (ks : List (Str × T)) (k : Str) : List (Str × T) := ks.filter fun p => !(p.1 == k)
theorem RepD.drop (k : Str) : ∀ {ks : List (Str × T)} {ws : List (Key × V)}, RepD C mu H ks ws → RepD C mu H (dropT ks k) (dropK ws (.inr k))
  | _, _, .nil => .nil
  | _, _, @RepD.cons _ _ _ k' t' v' ks vs h r => by
    unfold dropT dropK
    rw [List.filter_cons, List.filter_cons]
    by_cases e : k' = k
    · subst e
      simp only [beq_self_eq_true, Bool.not_true, ne_eq, not_true, decide_false, Bool.false_eq_true, if_false]
      exact r.drop k'
    · have e2 : ¬ ((.inr k' : Key) = .inr k) := fun z => e (Sum.inr.inj z)
      have e1 : (k' == k) = false := by simpa using e
      simp only [e1, Bool.not_false, ne_eq, e2, not_false_eq_true, decide_true, if_true]
      exact .cons h (r.drop k)
def gDpop : OpM := fun t ts M => match ts with
  | [.str k] => (match cellOf M t with
    | some (i, .dct ks) => (match ks.lookup k with
      | some w => some (w, M.set i (.live (.dct (dropT ks k))))
      | none => none)
    | _ => none)
  | [.str k, d] => (match cellOf M t with
    | some (i, .dct ks) => (match ks.lookup k with
      | some w => some (w, M.set i (.live (.dct (dropT ks k))))
      | none => some (d, M))
    | _ => none)
  | _ => none
theorem mz_dpop : MtR X "dict.pop" (rM C gDpop) := fun pins s σ H x vs v us Q I rx rs ⟨mu, M, t, ts, t', M', R, rt, rl, e, q⟩ => by
  unfold gDpop at e
  split at e
  · rename_i k
    obtain ⟨z, rfl, rz⟩ := rl.one
    obtain ⟨u, rfl, ru⟩ := vals1 rs
    split at e
    · rename_i i ks hx
      obtain ⟨a, ws, rfl, h1, h2, h3, r⟩ := cell_dct R rt hx
      cases rx
      cases rz
      have l := r.look k
      split at e
      · rename_i w hw
        rw [hw] at l
        obtain ⟨y, l, ry⟩ := l
        have e' := Option.some.inj e
        have et : w = t' := congrArg Prod.fst e'
        subst et
        exact d_pop (k := .inr k) I h3 ru l (.inl rfl) fun w' s' I' rw' => ⟨_, _, I', rw', put_dct R h1 h2 (r.drop k) e' ry q⟩
      · cases e
    · cases e
  · rename_i k d
    obtain ⟨z, y0, rfl, rz, ry0⟩ := rl.two
    obtain ⟨u, u2, rfl, ru, ru2⟩ := vals2 rs
    split at e
    · rename_i i ks hx
      obtain ⟨a, ws, rfl, h1, h2, h3, r⟩ := cell_dct R rt hx
      cases rx
      cases rz
      have l := r.look k
      split at e
      · rename_i w hw
        rw [hw] at l
        obtain ⟨y, l, ry⟩ := l
        have e' := Option.some.inj e
        have et : w = t' := congrArg Prod.fst e'
        subst et
        exact d_pop (k := .inr k) I h3 ru l (.inr ⟨_, rfl⟩) fun w' s' I' rw' => ⟨_, _, I', rw', put_dct R h1 h2 (r.drop k) e' ry q⟩
      · rename_i hw
        rw [hw] at l
        cases e
        exact d_popD (k := .inr k) I h3 ru l fun s' I' => ⟨_, H, I', ru2, q mu _ H R Ext.refl ry0⟩
    · cases e
  · cases e

/-! ### texts -/
def gJoin : OpM := fun t ts M => match t, ts with
  | .str a, [y] => (match (match y with
      | .tup xs => strsT xs
      | y => (listOf M y).bind strsT) with
    | some ys => if (ys.map (·.length)).sum + ys.length * a.length ≤ 16777216 then some (.str (Txt.join a ys), M) else none
    | none => none)
  | _, _ => none
theorem mz_join (hK : C.K = X.K) : MtR X "str.join" (rM C gJoin) := mtR_weak mt_join fun x vs H Q ⟨mu, M, t, ts, t', M', R, rt, rs, e, q⟩ => by
  unfold gJoin at e
  split at e
  · rename_i a y
    obtain ⟨z, rfl, rz⟩ := rs.one
    cases rt
    split at e
    · rename_i ys hy
      split at e
      · rename_i hz
        cases e
        split at hy
        · obtain ⟨p, vs, rfl, f, rl⟩ := rz.tupI
          rw [strs_rep rl hy] at f
          exact ⟨a, p, ys, rfl, rfl, .inr (hK ▸ f.sq), hz, q mu _ H R Ext.refl (.str _)⟩
        · obtain ⟨p, rfl, hp⟩ := strs1 R rz hy
          exact ⟨a, p, ys, rfl, rfl, .inl (.inl hp), hz, q mu _ H R Ext.refl (.str _)⟩
      · cases e
    · cases e
  · cases e
def gSplit (m : Bool) : OpM := fun t ts M => match t, ts with
  | .str a, [.str b] => if (b.length == 0) = false ∧ a.length + 2 ≤ LIM then some (mk m (.lst ((Txt.split a b).map T.str)) M) else none
  | .str a, [] => if a.length + 2 ≤ LIM then some (mk m (.lst ((Txt.words a).map T.str)) M) else none
  | _, _ => none
theorem mz_split (m : Bool) : MtR X "str.split" (rM C (gSplit m)) := mtR_weak (MtR.or mt_split mt_words) fun x vs H Q ⟨mu, M, t, ts, t', M', R, rt, rs, e, q⟩ => by
  unfold gSplit at e
  split at e
  · rename_i a b
    obtain ⟨z, rfl, rz⟩ := rs.one
    cases rt; cases rz
    split at e
    · rename_i hz
      exact .inl ⟨a, b, rfl, rfl, hz.1, by rw [← LIM_eq]; exact hz.2, fun p hp => new_ok (t := .lst _) m R hp (repl_strs _) (Option.some.inj e) q⟩
    · cases e
  · rename_i a
    cases rs
    cases rt
    split at e
    · rename_i hz
      exact .inr ⟨a, rfl, rfl, by rw [← LIM_eq]; exact hz, fun p hp => new_ok (t := .lst _) m R hp (repl_strs _) (Option.some.inj e) q⟩
    · cases e
  · cases e
def gPartition : OpM := fun t ts M => match t, ts with
  | .str a, [.str b] => if (b.length == 0) = false ∧ a.length ≤ LIM then some (.tup [.str (Txt.partition a b).1, .str (Txt.partition a b).2.1, .str (Txt.partition a b).2.2], M) else none
  | _, _ => none
theorem mz_partition : MtR X "str.partition" (rM C gPartition) := mtR_weak mt_partition fun x vs H Q ⟨mu, M, t, ts, t', M', R, rt, rs, e, q⟩ => by
  unfold gPartition at e
  split at e
  · rename_i a b
    obtain ⟨z, rfl, rz⟩ := rs.one
    cases rt; cases rz
    split at e
    · rename_i hz
      cases e
      refine ⟨a, b, rfl, rfl, hz.1, by rw [← LIM_eq]; exact hz.2, fun p hp => ?_⟩
      obtain ⟨R', E', r'⟩ := tup_ok R hp (.cons (.str (Txt.partition a b).1) (.cons (.str (Txt.partition a b).2.1) (.cons (.str (Txt.partition a b).2.2) .nil)))
      exact q mu _ _ R' E' r'
    · cases e
  · cases e
def gUpper : OpM := fun t ts M => match t, ts with
  | .str a, [] => if a.length ≤ 5592405 then some (.str (Txt.upper a), M) else none
  | _, _ => none
theorem mz_upper : MtR X "str.upper" (rM C gUpper) := mtR_weak mt_upper fun x vs H Q ⟨mu, M, t, ts, t', M', R, rt, rs, e, q⟩ => by
  unfold gUpper at e
  split at e
  · cases rt; cases rs
    split at e
    · rename_i hz
      cases e
      exact ⟨_, rfl, rfl, hz, q mu _ H R Ext.refl (.str _)⟩
    · cases e
  · cases e
def gEndswith : OpM := fun t ts M => match t, ts with
  | .str a, [.str b] => some (.bl (Txt.endswith a b), M)
  | _, _ => none
theorem mz_endswith : MtR X "str.endswith" (rM C gEndswith) := mtR_weak mt_endswith fun x vs H Q ⟨mu, M, t, ts, t', M', R, rt, rs, e, q⟩ => by
  unfold gEndswith at e
  split at e
  · obtain ⟨z, rfl, rz⟩ := rs.one
    cases rt; cases rz; cases e
    exact ⟨_, _, rfl, rfl, q mu _ H R Ext.refl (.bl _)⟩
  · cases e
end
end Z
end
section
set_option Elab.async false
set_option linter.all false
set_option maxRecDepth 100000
set_option maxHeartbeats 4000000
/-! Zl: values without cells; freezing; defs and calls. -/
namespace Z
open PySem PySem.Spec PyProof.Rows L2 PySem.SeqAt

/-! ### values without cells -/
mutual
def noCel : T → Bool
  | .cel _ => false
  | .tup xs => noCelL xs
  | .lst xs => noCelL xs
  | .fz xs => noCelL xs
  | .dct ks => noCelF ks
  | .ins _ fs => noCelF fs
  | _ => true
def noCelL : List T → Bool
  | [] => true
  | t :: r => noCel t && noCelL r
def noCelF : List (Str × T) → Bool
  | [] => true
  | p :: r => noCel p.2 && noCelF r
end
section
variable {C C' : Cfg} {mu mu' : Mu} {H : Hp}
theorem Av.chg (hA : ∀ (a : Addr) (o : HO), H a = some o → Av C mu a → Av C' mu' a) {a : Addr} {u : HO} (h : Rd H a u) (n : Av C mu a) : Av C' mu' a := by
  obtain ⟨o, e⟩ := Rd.some_ h
  exact hA a o e n
mutual
theorem Rep.pure (hK : C'.K = C.K) (hg : C'.ga = C.ga) (hA : ∀ (a : Addr) (o : HO), H a = some o → Av C mu a → Av C' mu' a) : ∀ {t : T} {v : V}, noCel t = true → Rep C mu H t v → Rep C' mu' H t v
  | _, _, _, .non => .non
  | _, _, _, .bl b => .bl b
  | _, _, _, .int i => .int i
  | _, _, _, .str x => .str x
  | _, _, _, .ty n => .ty n
  | _, _, _, .ob x => by rw [← hg]; exact .ob x
  | _, _, n, .tup h r => .tup (by
      rcases h with h | h
      · exact .inl ⟨h.1, hA _ _ h.1 h.2⟩
      · rw [← hK] at h; exact .inr h) (RepL.pure hK hg hA n r)
  | _, _, n, .lst h r => .lst ⟨h.1, hA _ _ h.1 h.2⟩ (RepL.pure hK hg hA n r)
  | _, _, n, .fz h r => .fz ⟨h.1, hA _ _ h.1 h.2⟩ (RepL.pure hK hg hA n r)
  | _, _, n, .dct h r => .dct ⟨h.1, Av.chg hA h.1 h.2⟩ (RepD.pure hK hg hA n r)
  | _, _, n, .ins h r => .ins (by rw [hg]; exact ⟨h.1, Av.chg hA h.1 h.2⟩) (RepF.pure hK hg hA n r)
theorem RepL.pure (hK : C'.K = C.K) (hg : C'.ga = C.ga) (hA : ∀ (a : Addr) (o : HO), H a = some o → Av C mu a → Av C' mu' a) : ∀ {t : List T} {v : List V}, noCelL t = true → RepL C mu H t v → RepL C' mu' H t v
  | _, _, _, .nil => .nil
  | _, _, n, .cons h r => by
    have n' := Bool.and_eq_true_iff.mp n
    exact .cons (Rep.pure hK hg hA n'.1 h) (RepL.pure hK hg hA n'.2 r)
theorem RepD.pure (hK : C'.K = C.K) (hg : C'.ga = C.ga) (hA : ∀ (a : Addr) (o : HO), H a = some o → Av C mu a → Av C' mu' a) : ∀ {t : List (Str × T)} {v : List (Key × V)}, noCelF t = true → RepD C mu H t v → RepD C' mu' H t v
  | _, _, _, .nil => .nil
  | _, _, n, .cons h r => by
    have n' := Bool.and_eq_true_iff.mp n
    exact .cons (Rep.pure hK hg hA n'.1 h) (RepD.pure hK hg hA n'.2 r)
theorem RepF.pure (hK : C'.K = C.K) (hg : C'.ga = C.ga) (hA : ∀ (a : Addr) (o : HO), H a = some o → Av C mu a → Av C' mu' a) : ∀ {t : List (Str × T)} {v : List (Str × V)}, noCelF t = true → RepF C mu H t v → RepF C' mu' H t v
  | _, _, _, .nil => .nil
  | _, _, n, .cons h r => by
    have n' := Bool.and_eq_true_iff.mp n
    exact .cons (Rep.pure hK hg hA n'.1 h) (RepF.pure hK hg hA n'.2 r)
end
/-! the same cells, others hidden -/
mutual
theorem Rep.hide (hK : C'.K = C.K) (hg : C'.ga = C.ga) (hA : ∀ (a : Addr) (o : HO), H a = some o → Av C mu a → Av C' mu a) : ∀ {t : T} {v : V}, Rep C mu H t v → Rep C' mu H t v
  | _, _, .non => .non
  | _, _, .bl b => .bl b
  | _, _, .int i => .int i
  | _, _, .str x => .str x
  | _, _, .ty n => .ty n
  | _, _, .ob x => by rw [← hg]; exact .ob x
  | _, _, .tup h r => .tup (by
      rcases h with h | h
      · exact .inl ⟨h.1, hA _ _ h.1 h.2⟩
      · rw [← hK] at h; exact .inr h) (RepL.hide hK hg hA r)
  | _, _, .lst h r => .lst ⟨h.1, hA _ _ h.1 h.2⟩ (RepL.hide hK hg hA r)
  | _, _, .fz h r => .fz ⟨h.1, hA _ _ h.1 h.2⟩ (RepL.hide hK hg hA r)
  | _, _, .dct h r => .dct ⟨h.1, Av.chg hA h.1 h.2⟩ (RepD.hide hK hg hA r)
  | _, _, .ins h r => .ins (by rw [hg]; exact ⟨h.1, Av.chg hA h.1 h.2⟩) (RepF.hide hK hg hA r)
  | _, _, .cel h q => .cel h q
theorem RepL.hide (hK : C'.K = C.K) (hg : C'.ga = C.ga) (hA : ∀ (a : Addr) (o : HO), H a = some o → Av C mu a → Av C' mu a) : ∀ {t : List T} {v : List V}, RepL C mu H t v → RepL C' mu H t v
  | _, _, .nil => .nil
  | _, _, .cons h r => .cons (Rep.hide hK hg hA h) (RepL.hide hK hg hA r)
theorem RepD.hide (hK : C'.K = C.K) (hg : C'.ga = C.ga) (hA : ∀ (a : Addr) (o : HO), H a = some o → Av C mu a → Av C' mu a) : ∀ {t : List (Str × T)} {v : List (Key × V)}, RepD C mu H t v → RepD C' mu H t v
  | _, _, .nil => .nil
  | _, _, .cons h r => .cons (Rep.hide hK hg hA h) (RepD.hide hK hg hA r)
theorem RepF.hide (hK : C'.K = C.K) (hg : C'.ga = C.ga) (hA : ∀ (a : Addr) (o : HO), H a = some o → Av C mu a → Av C' mu a) : ∀ {t : List (Str × T)} {v : List (Str × V)}, RepF C mu H t v → RepF C' mu H t v
  | _, _, .nil => .nil
  | _, _, .cons h r => .cons (Rep.hide hK hg hA h) (RepF.hide hK hg hA r)
end
end

/-! ### freezing: a cell is given up, what it held is read from now on -/
section
variable {C : Cfg} {mu : Mu} {M : Mem} {H : Hp}
theorem RM.kill {i : Nat} {t : T} {a : Addr} {u : HO} (R : RM C mu M H) (hi : M[i]? = some (.live t)) (ha : mu[i]? = some (some a)) (hu : H a = some u) : RM C (mu.set i none) (M.set i .dead) H ∧ Ext C mu H (mu.set i none) H ∧ Av C (mu.set i none) a := by
  have il : i < mu.length := (List.getElem?_eq_some_iff.mp ha).1
  have sub : ∀ (j : Nat) (b : Addr), (mu.set i none)[j]? = some (some b) → mu[j]? = some (some b) ∧ j ≠ i := fun j b q => by
    by_cases hj : j = i
    · subst hj; rw [List.getElem?_set_self il] at q; cases q
    · rw [List.getElem?_set_ne (Ne.symm hj)] at q; exact ⟨q, hj⟩
  have mem : ∀ b : Addr, some b ∈ mu.set i none → some b ∈ mu := fun b h => by
    obtain ⟨j, hj⟩ := List.getElem?_of_mem h
    exact List.mem_of_getElem? (sub j b hj).1
  have E : Ext C mu H (mu.set i none) H := ⟨by simp, fun j b _ q => (sub j b q).1, fun _ _ h _ => h, fun _ _ h _ _ => h, fun _ _ h _ _ => h, fun b _ _ n z => n (mem b z)⟩
  have ML : ∀ (j : Nat) (c : Cell), (M.set i .dead)[j]? = some c → (j ≠ i ∧ M[j]? = some c) ∨ (j = i ∧ c = .dead) := fun j c q => by
    by_cases hj : j = i
    · subst hj; rw [List.getElem?_set_self (List.getElem?_eq_some_iff.mp hi).1] at q; exact .inr ⟨rfl, (Option.some.inj q).symm⟩
    · rw [List.getElem?_set_ne (Ne.symm hj)] at q; exact .inl ⟨hj, q⟩
  refine ⟨⟨by simpa using R.len, fun j t' q => ?_, fun j t' q => ?_, fun j q => ?_, fun j k b h1 h2 => R.inj j k b (sub j b h1).1 (sub k b h2).1, R.hid, fun b hb => R.nh b (mem b hb)⟩, E, fun z => ?_, R.nh a (List.mem_of_getElem? ha)⟩
  · rcases ML j _ q with ⟨hj, q⟩ | ⟨_, q⟩
    · obtain ⟨b, w, h1, h2, h3⟩ := R.cell j t' q
      exact ⟨b, w, by rw [List.getElem?_set_ne (Ne.symm hj)]; exact h1, h2, h3.mono E⟩
    · cases q
  · rcases ML j _ q with ⟨hj, q⟩ | ⟨_, q⟩
    · obtain ⟨b, od, w, h1, h2, h3⟩ := R.lock j t' q
      exact ⟨b, od, w, by rw [List.getElem?_set_ne (Ne.symm hj)]; exact h1, h2, h3.mono E⟩
    · cases q
  · rcases ML j _ q with ⟨hj, q⟩ | ⟨hj, q⟩
    · rw [List.getElem?_set_ne (Ne.symm hj)]; exact R.dead j q
    · subst hj; rw [List.getElem?_set_self il]
  · obtain ⟨j, hj⟩ := List.getElem?_of_mem z
    obtain ⟨h1, h2⟩ := sub j a hj
    exact h2 (R.inj j i a h1 ha)
def frzL (f : T → Mem → Option (T × Mem)) : List T → Mem → Option (List T × Mem)
  | [], M => some ([], M)
  | t :: r, M => match f t M with
    | some (t', M1) => (match frzL f r M1 with
      | some (r', M2) => some (t' :: r', M2)
      | none => none)
    | none => none
def frzF (f : T → Mem → Option (T × Mem)) : List (Str × T) → Mem → Option (List (Str × T) × Mem)
  | [], M => some ([], M)
  | p :: r, M => match f p.2 M with
    | some (t', M1) => (match frzF f r M1 with
      | some (r', M2) => some ((p.1, t') :: r', M2)
      | none => none)
    | none => none
/-- the value read for good: its cells are given up -/
def frz : Nat → T → Mem → Option (T × Mem)
  | 0, _, _ => none
  | n + 1, t, M => match t with
    | .cel i => (match M[i]? with
      | some (.live u) => (match u with
        | .cel _ => none
        | .tup _ => none
        | u => frz n u (M.set i .dead))
      | _ => none)
    | .lst xs => (frzL (frz n) xs M).map fun p => (.lst p.1, p.2)
    | .tup xs => (frzL (frz n) xs M).map fun p => (.tup p.1, p.2)
    | .dct ks => (frzF (frz n) ks M).map fun p => (.dct p.1, p.2)
    | .ins c fs => (frzF (frz n) fs M).map fun p => (.ins c p.1, p.2)
    | t => some (t, M)
def FrOk (C : Cfg) (f : T → Mem → Option (T × Mem)) : Prop := ∀ (t : T) (M M' : Mem) (t' : T) (mu : Mu) (H : Hp) (v : V), RM C mu M H → Rep C mu H t v → f t M = some (t', M') → ∃ mu', RM C mu' M' H ∧ Ext C mu H mu' H ∧ Rep C mu' H t' v
theorem frzL_ok {f : T → Mem → Option (T × Mem)} (hf : FrOk C f) : ∀ {ts ts' : List T} {vs : List V} {M M' : Mem} {mu : Mu}, RM C mu M H → RepL C mu H ts vs → frzL f ts M = some (ts', M') → ∃ mu', RM C mu' M' H ∧ Ext C mu H mu' H ∧ RepL C mu' H ts' vs
  | [], _, _, _, _, _, R, r, e => by
    cases r; cases e; exact ⟨_, R, Ext.refl, .nil⟩
  | t :: ts, _, _, M, _, _, R, r, e => by
    cases r with
    | cons h q =>
      unfold frzL at e
      split at e
      · rename_i t' M1 e1
        split at e
        · rename_i r' M2 e2
          cases e
          obtain ⟨mu1, R1, E1, r1⟩ := hf _ _ _ _ _ _ _ R h e1
          obtain ⟨mu2, R2, E2, r2⟩ := frzL_ok hf R1 (q.mono E1) e2
          exact ⟨mu2, R2, E1.trans E2, .cons (r1.mono E2) r2⟩
        · cases e
      · cases e
theorem frzD_ok {f : T → Mem → Option (T × Mem)} (hf : FrOk C f) : ∀ {ts ts' : List (Str × T)} {vs : List (Key × V)} {M M' : Mem} {mu : Mu}, RM C mu M H → RepD C mu H ts vs → frzF f ts M = some (ts', M') → ∃ mu', RM C mu' M' H ∧ Ext C mu H mu' H ∧ RepD C mu' H ts' vs
  | [], _, _, _, _, _, R, r, e => by
    cases r; cases e; exact ⟨_, R, Ext.refl, .nil⟩
  | t :: ts, _, _, M, _, _, R, r, e => by
    cases r with
    | cons h q =>
      unfold frzF at e
      split at e
      · rename_i t' M1 e1
        split at e
        · rename_i r' M2 e2
          cases e
          obtain ⟨mu1, R1, E1, r1⟩ := hf _ _ _ _ _ _ _ R h e1
          obtain ⟨mu2, R2, E2, r2⟩ := frzD_ok hf R1 (q.mono E1) e2
          exact ⟨mu2, R2, E1.trans E2, .cons (r1.mono E2) r2⟩
        · cases e
      · cases e
theorem frzF_ok {f : T → Mem → Option (T × Mem)} (hf : FrOk C f) : ∀ {ts ts' : List (Str × T)} {vs : List (Str × V)} {M M' : Mem} {mu : Mu}, RM C mu M H → RepF C mu H ts vs → frzF f ts M = some (ts', M') → ∃ mu', RM C mu' M' H ∧ Ext C mu H mu' H ∧ RepF C mu' H ts' vs
  | [], _, _, _, _, _, R, r, e => by
    cases r; cases e; exact ⟨_, R, Ext.refl, .nil⟩
  | t :: ts, _, _, M, _, _, R, r, e => by
    cases r with
    | cons h q =>
      unfold frzF at e
      split at e
      · rename_i t' M1 e1
        split at e
        · rename_i r' M2 e2
          cases e
          obtain ⟨mu1, R1, E1, r1⟩ := hf _ _ _ _ _ _ _ R h e1
          obtain ⟨mu2, R2, E2, r2⟩ := frzF_ok hf R1 (q.mono E1) e2
          exact ⟨mu2, R2, E1.trans E2, .cons (r1.mono E2) r2⟩
        · cases e
      · cases e
theorem frz_ok : ∀ n : Nat, FrOk C (frz n)
  | 0 => fun _ _ _ _ _ _ _ _ _ e => by cases e
  | n + 1 => fun t M M' t' mu H v R r e => by
    have ih : FrOk C (frz n) := frz_ok n
    cases r with
    | lst h r =>
      obtain ⟨⟨xs', M1⟩, h1, h2⟩ := Option.map_eq_some_iff.mp e
      cases h2
      obtain ⟨mu1, R1, E1, r1⟩ := frzL_ok ih R r h1
      exact ⟨mu1, R1, E1, .lst ⟨h.1, E1.av h.1 h.2⟩ r1⟩
    | tup h r =>
      obtain ⟨⟨xs', M1⟩, h1, h2⟩ := Option.map_eq_some_iff.mp e
      cases h2
      obtain ⟨mu1, R1, E1, r1⟩ := frzL_ok ih R r h1
      exact ⟨mu1, R1, E1, .tup (h.elim (fun h => .inl ⟨h.1, E1.av h.1 h.2⟩) .inr) r1⟩
    | dct h r =>
      obtain ⟨⟨xs', M1⟩, h1, h2⟩ := Option.map_eq_some_iff.mp e
      cases h2
      obtain ⟨mu1, R1, E1, r1⟩ := frzD_ok ih R r h1
      exact ⟨mu1, R1, E1, .dct ⟨h.1, E1.avR h.1 h.2⟩ r1⟩
    | ins h r =>
      obtain ⟨⟨xs', M1⟩, h1, h2⟩ := Option.map_eq_some_iff.mp e
      cases h2
      obtain ⟨mu1, R1, E1, r1⟩ := frzF_ok ih R r h1
      exact ⟨mu1, R1, E1, .ins ⟨h.1, E1.avR h.1 h.2⟩ r1⟩
    | cel hi hv =>
      rename_i i
      unfold frz at e
      simp only at e
      split at e
      · rename_i u hu
        obtain ⟨a, o, h1, h2, h3⟩ := R.cell i u hu
        obtain ⟨R1, E1, A1⟩ := R.kill hu h1 h2
        have ev := hv a h1
        subst ev
        have c1 := h3.mono E1
        unfold CU at c1
        split at c1
        · obtain ⟨mu2, R2, E2, r2⟩ := ih _ _ _ _ _ _ _ R1 (.lst ⟨h2, A1⟩ c1) e
          exact ⟨mu2, R2, E1.trans E2, r2⟩
        · obtain ⟨mu2, R2, E2, r2⟩ := ih _ _ _ _ _ _ _ R1 (.dct ⟨.inl h2, A1⟩ c1) e
          exact ⟨mu2, R2, E1.trans E2, r2⟩
        · obtain ⟨rfl, c1⟩ := c1
          obtain ⟨mu2, R2, E2, r2⟩ := ih _ _ _ _ _ _ _ R1 (.ins ⟨.inl h2, A1⟩ c1) e
          exact ⟨mu2, R2, E1.trans E2, r2⟩
        · exact c1.elim
      · cases e
    | non => cases e; exact ⟨mu, R, Ext.refl, .non⟩
    | bl b => cases e; exact ⟨mu, R, Ext.refl, .bl b⟩
    | int i => cases e; exact ⟨mu, R, Ext.refl, .int i⟩
    | str x => cases e; exact ⟨mu, R, Ext.refl, .str x⟩
    | ty n => cases e; exact ⟨mu, R, Ext.refl, .ty n⟩
    | ob x => cases e; exact ⟨mu, R, Ext.refl, .ob x⟩
    | fz h r => cases e; exact ⟨mu, R, Ext.refl, .fz h r⟩
end
def frzDepth : Nat := 20
/-- e, frozen -/
def dFrz (d : DE) : DE := fun s M => (d s M).bind fun t M1 => lift (frz frzDepth t M1)
section
variable {C : Cfg} {X : Cx} {W : WX}
theorem s_frz {e : Expr} {d : DE} (h : PE X e (TEz C W d)) : PE X e (TEz C W (dFrz d)) :=
  pe_weak h fun σ H Q ⟨mu, s, M, R, S, P⟩ => ⟨mu, s, M, R, S, P.bind fun t M1 mu1 x H1 R1 E1 r1 P1 => by
    cases e : frz frzDepth t M1 with
    | none => rw [e] at P1; exact P1.elim
    | some p =>
      obtain ⟨t', M'⟩ := p
      rw [e] at P1
      obtain ⟨mu2, R2, E2, r2⟩ := frz_ok frzDepth _ _ _ _ _ _ _ R1 r1 e
      exact P1 mu2 x H1 R2 E2 r2⟩
end
end Z
end
section
set_option Elab.async false
set_option linter.all false
set_option maxRecDepth 100000
set_option maxHeartbeats 4000000
/-! Zm: defs and calls, nothing of repr under way (guards). -/
namespace Z
open PySem PySem.Spec PyProof.Rows L2 PySem.SeqAt

/-- a def keeps its promise, wherever no repr is under way -/
structure FnG (P : Program) (w : World) (K : PySem.W.Frag) (mg : Str → Option Value) (base : Heap) (CX : CXT) (k : Nat) (f : Addr) (fd : FuncData) (ps : List Str) (sp : Sp) : Prop where
  len : ∀ vs H Q E, sp vs H Q E → vs.length = ps.length
  run : ∀ (A : Around) (outer : List Env) (s : Shared) (H : Hp) (args : Args) (us : List Value) (vs : List V) (Q : VK) (E : XK), Room k A → A.guards = some [] → Env0 P w K mg base A outer s H → BindsTo s fd args (ps.zip us) → Vals vs us → sp vs H Q E →
    codeAny (model P w) A (.call (.ref f) args) (CR CX outer P w H s Q E) s
theorem FnG.mono {P : Program} {w : World} {K : PySem.W.Frag} {mg : Str → Option Value} {base : Heap} {CX : CXT} {j k : Nat} {f : Addr} {fd : FuncData} {ps : List Str} {sp : Sp} (F : FnG P w K mg base CX j f fd ps sp) (h : j ≤ k) : FnG P w K mg base CX k f fd ps sp :=
  ⟨F.len, fun A outer s H args us vs Q E hr => F.run A outer s H args us vs Q E (hr.mono h)⟩
/-- a def of the text by its body -/
theorem fnG_of {CX : CXT} {P : Program} {w : World} {K : PySem.W.Frag} {mg : Str → Option Value} {base : Heap} {k : Nat} {f : Addr} {x qual : Str} {params : Arguments} {body : List Stmt} {scope : Scope} {dvs : List V} {kws : List (Str × V)} {fd : FuncData}
    {N ps : List Str} {sp : Sp} (F : FunD K x qual params body scope dvs kws f fd) (S : FnScope N ps scope) (len : ∀ vs H Q E, sp vs H Q E → vs.length = ps.length)
    (hbody : ∀ (cdv : Value) (A : Around) (outer : List Env) (s : Shared) (H : Hp) (vs : List V) (Q : VK) (E : XK), Room k (A.deeper (envOfC qual scope s.heap.objs.size f cdv)) → A.guards = some [] → sp vs H Q E →
      ∃ t, PSs (cxOf CX P w K mg base N qual scope f cdv A outer s H E) body t ∧ t { nx := fun _ H' => Q .non H', rt := Q } (start N vs) H) : FnG P w K mg base CX (k + 1) f fd ps sp := by
  obtain ⟨oc, od, dV, kV, doc, pm, an, cdv, ct, osl, rfl, lk, hcd, _, _⟩ := F.ex
  refine ⟨len, fun A outer s H args us vs Q E hr hgu e0 hb r hsp => ?_⟩
  have hin : K.In s.heap := e0.mod.kin.keeps fun b o e => (e0.bs b o e).1
  have hpar : ∀ y ∈ ps.zip us, scope.names.lookup y.1 = some .local ∨ (scope.names.lookup y.1 = some .cell ∧ ((cellsFrom (s.heap.objs.size + 1) scope.names []).lookup y.1).isSome = true) := fun y hy => by
    cases S.par y.1 (List.of_mem_zip (a := y.1) (b := y.2) hy).1 with
    | inl q => exact .inl q
    | inr q => exact .inr ⟨q, PySem.W.cellsFrom_some _ _ _ (.inl q)⟩
  refine codeAny_call_function hr.depth (hin _ _ lk) rfl S.co S.gen rfl (PySem.W.codeRec_of hin hcd) (hb _ _ _ _ (wpAny_newFunctionEnv_cells S.kind hpar fun env he s1 x => ?_))
  subst he
  refine ⟨(e0.mod.nolimit.keeps fun b o e => (e0.bs b o e).1).keeps x.toInCall.keep, codeAny_func ?_⟩
  obtain ⟨t, ht, hq⟩ := hbody cdv A outer s H vs Q E (hr.deeper _) hgu hsp
  refine wpAny_mono (ht.run [] s1 (start N vs) H _ (inv_start S hr.hd e0 (len _ _ _ _ hsp) r x) hq) (fun fl s' hs => ?_) fun e s' hs => hs
  cases fl with
  | ret u =>
    obtain ⟨v, _, H', J, rv, q⟩ := hs
    exact ⟨v, H', J.os, J.bare, J.base, J.hok, rv, q⟩
  | next =>
    obtain ⟨_, H', J, q⟩ := hs
    exact ⟨.non, H', J.os, J.bare, J.base, J.hok, rfl, q⟩
  | brk =>
    obtain ⟨_, _, _, q⟩ := hs
    exact q.elim
  | cont =>
    obtain ⟨_, _, _, q⟩ := hs
    exact q.elim
section
variable {X : Cx} {CX : CXT} {k : Nat} {f : Addr} {fd : FuncData} {ps : List Str} {sp : Sp} {ds : List Value} {dvs : List V}
/-- the callee runs -/
theorem run_fnG {E : XK} {pins : List (Addr × Obj)} {σ : L2.St} {H : Hp} {s : Shared} {Q : VK} {us : List Value} {vs : List V} (F : FnG X.prog X.w X.K X.mg X.base CX k f fd ps sp) (hr : Room k X.A) (hgu : X.A.guards = some []) (hb : Binds X.K fd ps ds) (hd : Vals dvs ds)
    (hx : PassesAt CX X σ E) (I : Inv X pins σ H s) (r : Vals vs us) (h : sp (vs ++ dvs) H Q E) : wpAny (model X.prog X.w) X.A (call (.ref f) us) (EP X pins σ Q) X.xe s := by
  have r2 : Vals (vs ++ dvs) (us ++ ds) := r.append hd
  refine wpAny_call (codeAny_mono (F.run X.A X.stack s H ⟨us, []⟩ (us ++ ds) (vs ++ dvs) Q E hr hgu I.env0 (hb s us I.kIn (by rw [← r2.length]; exact F.len _ _ _ _ h)) r2 h) fun r s' hq => ?_)
  cases r with
  | error e => exact hx pins H s e s' I hq
  | ok fl =>
    cases fl with
    | ret u => exact I.after hq
    | next => exact hq.elim
    | brk => exact hq.elim
    | cont => exact hq.elim
end

/-! ### what a def promises: its meaning F -/
abbrev DF := List T → Mem → Out T
abbrev Cfg.with (C : Cfg) (hid : Addr → Prop) : Cfg := ⟨C.K, C.ga, hid⟩
def SpZ (C : Cfg) (n : Nat) (F : DF) : Sp := fun vs H Q E => vs.length = n ∧ ∃ (hid : Addr → Prop) (mu : Mu) (M : Mem) (ts : List T), RM (C.with hid) mu M H ∧ RepL (C.with hid) mu H ts vs ∧ Post (C.with hid) mu H (F ts M) (RV (C.with hid)) Q E
/-- called with all of the caller's cells -/
def dCallM (n : Nat) (F : DF) (dts : List T) (da : DA) : DE := fun s M => (da s M).bind fun ts M1 => if (ts ++ dts).length = n then F (ts ++ dts) M1 else .no
/-- called with none -/
def runP (F : DF) (ts : List T) (M : Mem) : Out T := if noCelL ts = true then (match F ts [] with
  | .ok t _ => if noCel t = true then .ok t M else .no
  | .er e _ => if noCelF e.fs = true then .er e M else .no
  | .no => .no) else .no
def dCallP (n : Nat) (F : DF) (dts : List T) (da : DA) : DE := fun s M => (da s M).bind fun ts M1 => if (ts ++ dts).length = n then runP F (ts ++ dts) M1 else .no
section
variable {C : Cfg} {mu : Mu} {M : Mem} {H : Hp} {n : Nat} {F : DF} {Q : VK} {E : XK}
theorem spz_M {ts : List T} {vs : List V} (hl : ts.length = n) (R : RM C mu M H) (r : RepL C mu H ts vs) (P : Post C mu H (F ts M) (RV C) Q E) : SpZ C n F vs H Q E := ⟨by rw [← r.length]; exact hl, C.hid, mu, M, ts, R, r, P⟩
theorem spz_P {ts : List T} {vs : List V} (hl : ts.length = n) (R : RM C mu M H) (r : RepL C mu H ts vs) (P : Post C mu H (runP F ts M) (RV C) Q E) : SpZ C n F vs H Q E := by
  unfold runP at P
  by_cases c : noCelL ts = true
  · rw [if_pos c] at P
    let hid : Addr → Prop := fun a => C.hid a ∨ some a ∈ mu
    have hA : ∀ (a : Addr) (o : HO), H a = some o → Av C mu a → Av (C.with hid) [] a := fun a o _ n => ⟨by simp, fun z => z.elim n.2 n.1⟩
    have dom : ∀ a : Addr, (C.with hid).hid a → ∃ o, H a = some o := fun a z => z.elim (R.hid a) R.mem
    -- back to the caller
    have back : ∀ {mu' : Mu} {H' : Hp}, Ext (C.with hid) [] H mu' H' → Ext C mu H mu H' ∧ RM C mu M H' := fun {mu' H'} x => by
      have x' : Ext C mu H mu H' := ⟨Nat.le_refl _, fun _ _ _ h => h, fun a u h _ => x.rd a u h (by simp), fun a o h _ d => x.obj a o h (by simp) d, fun a o h _ d => x.hid a o h (by simp) (.inl d), fun _ _ _ n => n⟩
      exact ⟨x', R.keep x' fun a o hm h => x.hid a o h (by simp) (.inr hm)⟩
    have bA : ∀ {mu' : Mu} {H' : Hp}, ∀ (a : Addr) (o : HO), H' a = some o → Av (C.with hid) mu' a → Av C mu a := fun a o _ n => ⟨fun z => n.2 (.inr z), fun z => n.2 (.inl z)⟩
    refine ⟨by rw [← r.length]; exact hl, hid, [], [], ts, RM.nil dom, RepL.pure (C := C) (C' := C.with hid) (mu := mu) (mu' := []) rfl rfl hA c r, ?_⟩
    cases e : F ts [] with
    | ok t M' =>
      rw [e] at P
      simp only at P
      by_cases ct : noCel t = true
      · rw [if_pos ct] at P
        intro mu' v H' R' x rv
        obtain ⟨x', R2⟩ := back x
        exact P mu v H' R2 x' (Rep.pure (C := C.with hid) (C' := C) (mu := mu') rfl rfl (fun a o h n => bA (H' := H') a o h n) ct rv)
      · rw [if_neg ct] at P; exact P.elim
    | er er M' =>
      rw [e] at P
      simp only at P
      by_cases ct : noCelF er.fs = true
      · rw [if_pos ct] at P
        intro mu' cv d H' R' x rv
        obtain ⟨x', R2⟩ := back x
        obtain ⟨h1, a, ws, h2, h3, h4, h5⟩ := rv
        exact P mu cv d H' R2 x' ⟨h1, a, ws, h2, h3, bA (H' := H') a _ h3 h4, RepF.pure (C := C.with hid) (C' := C) (mu := mu') rfl rfl (fun a o h n => bA (H' := H') a o h n) ct h5⟩
      · rw [if_neg ct] at P; exact P.elim
    | no => rw [e] at P; exact P.elim
  · rw [if_neg c] at P; exact P.elim
end

/-! ### a call by name -/
section
variable {X : Cx} {C : Cfg} {W : WX} {CX : CXT} {k n : Nat} {f : Addr} {fd : FuncData} {ps : List Str} {F : DF} {ds : List Value} {dvs : List V} {dts : List T} {x : Str} {p pos : Pos} {es : List Expr} {da : DA}
/-- what a call by name needs -/
structure CalZ (X : Cx) (C : Cfg) (CX : CXT) (x : Str) (n : Nat) (F : DF) (dts : List T) : Prop where
  ex : ∃ (k : Nat) (f : Addr) (fd : FuncData) (ps : List Str) (ds : List Value) (dvs : List V), FnG X.prog X.w X.K X.mg X.base CX k f fd ps (SpZ C n F) ∧ Room k X.A ∧ X.A.guards = some [] ∧ Gl X x ∧ X.mg x = some (.ref f) ∧ PySem.W.keepIn X.K (.ref f) = true ∧
    Binds X.K fd ps ds ∧ Vals dvs ds ∧ (∀ hid mu H, RepL (C.with hid) mu H dts dvs) ∧ (x == ("__debug__" : Str)) = false
theorem call_go {e : Expr} {d2 : List T → Mem → Out T} (c : CalZ X C CX x n F dts) (hd2 : ∀ {mu M H ts vs Q E}, RM C mu M H → RepL C mu H (ts ++ dts) vs → Post C mu H (d2 (ts ++ dts) M) (RV C) Q E → SpZ C n F vs H Q E)
    (hx : ∀ σ, PassesAt CX X σ (WE W σ)) (ha : PA X (e :: es) (TAz C W da)) (he : starEach (e :: es) X.env = (false, eval e X.env) :: starEach es X.env) (hpl : (backTo pos (starEach es X.env)).any (·.1) = false) :
    PE X (.Call (.Name x p) (e :: es) [] pos) (TEz C W fun s M => (da s M).bind fun ts M1 => d2 (ts ++ dts) M1) := by
  obtain ⟨k, f, fd, ps, ds, dvs, hF, hr, hgu, hg, hm, hk, hb, hd, rd, hdb⟩ := c.ex
  refine ⟨fun pins s σ H Q I ⟨mu, sg, M, R, S, P⟩ => wpAny_Call_Name_kw (ld_glob I hg hm ?_ hdb)⟩
  have t : (TAz C W da) σ H fun vs H1 => SpZ C n F (vs ++ dvs) H1 Q (WE W σ) := ⟨mu, sg, M, R, S, P.bind fun ts M1 mu1 xs H1 R1 E1 r1 P1 => hd2 R1 (r1.append (rd C.hid mu1 H1)) P1⟩
  refine PySem.W.callWith_K (h₀ := X.base) I.ok.mod.kin hk (thn (ha.run pos pins s σ H _ I t) fun us s1 ⟨vs, H1, I1, r, q⟩ => ⟨I1.kIn, ?_⟩) he hpl
  exact run_fnG hF hr hgu hb hd (hx σ) I1 r q
theorem call_go0 {d2 : List T → Mem → Out T} (c : CalZ X C CX x n F dts) (hd2 : ∀ {mu M H ts vs Q E}, RM C mu M H → RepL C mu H (ts ++ dts) vs → Post C mu H (d2 (ts ++ dts) M) (RV C) Q E → SpZ C n F vs H Q E)
    (hx : ∀ σ, PassesAt CX X σ (WE W σ)) : PE X (.Call (.Name x p) [] [] pos) (TEz C W fun s M => d2 dts M) := by
  obtain ⟨k, f, fd, ps, ds, dvs, hF, hr, hgu, hg, hm, hk, hb, hd, rd, hdb⟩ := c.ex
  refine ⟨fun pins s σ H Q I ⟨mu, sg, M, R, S, P⟩ => wpAny_Call_Name_kw (ld_glob I hg hm ?_ hdb)⟩
  refine PySem.W.callWith_K0 I.kIn hk (run_fnG (us := []) hF hr hgu hb hd (hx σ) I .nil ?_)
  exact hd2 (ts := []) R (rd C.hid mu H) P
theorem s_callM {e : Expr} (c : CalZ X C CX x n F dts) (hx : ∀ σ, PassesAt CX X σ (WE W σ)) (ha : PA X (e :: es) (TAz C W da)) (he : starEach (e :: es) X.env = (false, eval e X.env) :: starEach es X.env := by rfl) (hpl : (backTo pos (starEach es X.env)).any (·.1) = false := by rfl) :
    PE X (.Call (.Name x p) (e :: es) [] pos) (TEz C W (dCallM n F dts da)) :=
  call_go (d2 := fun ts M => if ts.length = n then F ts M else .no) c (fun {mu M H ts vs Q E} R r P => by
    by_cases c : (ts ++ dts).length = n
    · rw [if_pos c] at P; exact spz_M c R r P
    · rw [if_neg c] at P; exact P.elim) hx ha he hpl
theorem s_callP {e : Expr} (c : CalZ X C CX x n F dts) (hx : ∀ σ, PassesAt CX X σ (WE W σ)) (ha : PA X (e :: es) (TAz C W da)) (he : starEach (e :: es) X.env = (false, eval e X.env) :: starEach es X.env := by rfl) (hpl : (backTo pos (starEach es X.env)).any (·.1) = false := by rfl) :
    PE X (.Call (.Name x p) (e :: es) [] pos) (TEz C W (dCallP n F dts da)) :=
  call_go (d2 := fun ts M => if ts.length = n then runP F ts M else .no) c (fun {mu M H ts vs Q E} R r P => by
    by_cases c : (ts ++ dts).length = n
    · rw [if_pos c] at P; exact spz_P c R r P
    · rw [if_neg c] at P; exact P.elim) hx ha he hpl
def dCallP0 (n : Nat) (F : DF) (dts : List T) : DE := fun _ M => if dts.length = n then runP F dts M else .no
theorem s_callP0 (c : CalZ X C CX x n F dts) (hx : ∀ σ, PassesAt CX X σ (WE W σ)) : PE X (.Call (.Name x p) [] [] pos) (TEz C W (dCallP0 n F dts)) :=
  call_go0 (d2 := fun ts M => if ts.length = n then runP F ts M else .no) c (fun {mu M H ts vs Q E} R r P => by
    by_cases c : (ts ++ dts).length = n
    · rw [if_pos c] at P; exact spz_P c R r P
    · rw [if_neg c] at P; exact P.elim) hx
/-- built-in functions and types by name -/
theorem s_callB {id : String} {g : OpN} {e : Expr} (hc : CallR X (.builtin id) (rN C g)) (hg : Gl X x) (hm : X.mg x = none) (hv : bootBuiltins x = some (.builtin id)) (ha : PA X (e :: es) (TAz C W da)) (hn : x ≠ "__name__" := by decide) (hdb : (x == ("__debug__" : Str)) = false := by decide)
    (he : starEach (e :: es) X.env = (false, eval e X.env) :: starEach es X.env := by rfl) (hpl : (backTo pos (starEach es X.env)).any (·.1) = false := by rfl) : PE X (.Call (.Name x p) (e :: es) [] pos) (TEz C W (dCall g da)) :=
  pe_weak (pe_callB hc hg hm hv ha hn hdb he hpl) fun _ _ _ h => call_read h
theorem s_callTy {id : String} {g : OpN} {e : Expr} (hc : CallR X (.type id) (rN C g)) (hg : Gl X x) (hm : X.mg x = none) (hv : bootBuiltins x = some (.type id)) (ha : PA X (e :: es) (TAz C W da)) (hn : x ≠ "__name__" := by decide) (hdb : (x == ("__debug__" : Str)) = false := by decide)
    (he : starEach (e :: es) X.env = (false, eval e X.env) :: starEach es X.env := by rfl) (hpl : (backTo pos (starEach es X.env)).any (·.1) = false := by rfl) : PE X (.Call (.Name x p) (e :: es) [] pos) (TEz C W (dCall g da)) :=
  pe_weak (pe_callTy hc hg hm hv ha hn hdb he hpl) fun _ _ _ h => call_read h
end

/-! ### methods of built-in values -/
/-- what the receiver is -/
def tyM (M : Mem) (t : T) : Option String := match t with
  | .str _ => some "str"
  | t => (match der M t with
    | .lst _ => some "list"
    | .dct _ => some "dict"
    | _ => none)
def dMeth (ty : String) (g : OpM) (d : DE) (da : DA) : DE := fun s M => (d s M).bind fun t M1 => if tyM M1 t = some ty then (da s M1).bind fun ts M2 => lift (g t ts M2) else .no
theorem tyM_is {X : Cx} {C : Cfg} {mu : Mu} {M : Mem} {H : Hp} {pins : List (Addr × Obj)} {σ : L2.St} {s : Shared} {t : T} {x : V} {v : Value} {ty : String} (I : Inv X pins σ H s) (R : RM C mu M H) (r : Rep C mu H t x) (rx : RelV x v) (e : tyM M t = some ty) :
    s.TypeIs v ty ∧ ∀ a, v = .ref a → ∃ ob, s.heap.get? a = some ob ∧ ob.dict = none := by
  have rest : (match der M t with
    | .lst _ => some "list"
    | .dct _ => some "dict"
    | _ => none) = some ty → s.TypeIs v ty ∧ ∀ a, v = .ref a → ∃ ob, s.heap.get? a = some ob ∧ ob.dict = none := fun e => by
    split at e
    · rename_i hy
      obtain ⟨a, vs, rfl, ha, rl⟩ := der_lst R r hy
      cases e
      exact tyV_is I rx (.inl ⟨rfl, _, .inl ha⟩)
    · rename_i hy
      obtain ⟨a, ws, rfl, ha, rl⟩ := der_dct R r hy
      cases e; cases rx
      obtain ⟨h1, h2, _⟩ := isD_at I (.inl ⟨_, ha⟩)
      exact ⟨h1, h2⟩
    · cases e
  cases t with
  | str z =>
    cases r; cases e
    exact tyV_is I rx rfl
  | _ => exact rest e
section
variable {X : Cx} {C : Cfg} {W : WX} {name : Str} {apos cpos : Pos} {ty id : String} {g : OpM} {o : Expr} {es : List Expr} {d : DE} {da : DA}
theorem s_meth {e : Expr} (pa : PlainAttrs ty) (slot : Slot ty name id) (hty : typeOf (.builtin id) = pure (.type "method_descriptor")) (hm : MtR X id (rM C g)) (ho : PE X o (TEz C W d)) (ha : PA X (e :: es) (TAz C W da))
    (hbase : attributeBase o name X.env (eval o X.env) = eval o X.env := by rfl)
    (hfew : ((backTo cpos (starEach (e :: es) X.env)).all (fun x => !x.1) && (backToKw cpos (keywordEach [] X.env)).all (fun x => x.1.isSome)
      && decide ((e :: es).length + ([] : List Keyword).length + (if ([] : List Keyword).isEmpty then 0 else 1) < 30)) = true := by rfl)
    (hline : (apos.endLine == cpos.line) = true := by rfl) (hs : starEach (e :: es) X.env = (false, eval e X.env) :: starEach es X.env := by rfl) (hplain : (backTo cpos (starEach es X.env)).any (·.1) = false := by rfl) :
    PE X (.Call (.Attribute o name apos) (e :: es) [] cpos) (TEz C W (dMeth ty g d da)) := by
  refine ⟨fun pins s σ H Q I ⟨mu, sg, M, R, S, P⟩ => ?_⟩
  refine wpAny_Call_method_late hbase hfew hline rfl (thn (ho.run pins s σ H (fun x H1 => ∃ mu1 M1 t, RM C mu1 M1 H1 ∧ RS C mu1 H1 sg σ ∧ Rep C mu1 H1 t x ∧ tyM M1 t = some ty ∧ Post C mu1 H1 ((da sg M1).bind fun ts M2 => lift (g t ts M2)) (RV C) Q fun c dd H' => W c dd σ H') I
    ⟨mu, sg, M, R, S, P.bind fun t M1 mu1 x H1 R1 E1 r1 P1 => ?_⟩) fun v s1 ⟨x, H1, I1, r1, mu1, M1, t, R1, S1, rt, ht, P1⟩ => ?_)
  · by_cases c : tyM M1 t = some ty
    · rw [if_pos c] at P1
      exact ⟨mu1, M1, t, R1, S.mono E1, r1, c, P1⟩
    · rw [if_neg c] at P1; exact P1.elim
  · obtain ⟨h1, h2⟩ := tyM_is I1 R1 rt r1 ht
    refine ⟨ty, id, pa, slot, hty, h1, h2, ?_⟩
    have hA := ha.run cpos pins s1 σ H1 (fun xs H2 => rM C g x xs H2 Q) I1 ⟨mu1, sg, M1, R1, S1, P1.bind fun ts M2 mu2 xs H2 R2 E2 r2 P2 => ?_⟩
    · rw [hs] at hA ⊢
      refine Calls.callWith_builtin (by show (false || (backTo cpos (starEach es X.env)).any (·.1)) = false; rw [hplain] <;> rfl) (Calls.evalArgs_plain ?_)
      exact thn hA fun us s2 ⟨vs, H2, I2, r2, q2⟩ => hm pins s2 σ H2 x vs v us Q I2 r1 r2 q2
    · cases e2 : g t ts M2 with
      | none => rw [e2] at P2; exact P2.elim
      | some p =>
        obtain ⟨t', M'⟩ := p
        rw [e2] at P2
        exact ⟨mu2, M2, t, ts, t', M', R2, rt.mono E2, r2, e2, P2⟩
theorem s_meth0 (pa : PlainAttrs ty) (slot : Slot ty name id) (hty : typeOf (.builtin id) = pure (.type "method_descriptor")) (hm : MtR X id (rM C g)) (ho : PE X o (TEz C W d))
    (hbase : attributeBase o name X.env (eval o X.env) = eval o X.env := by rfl) (hline : (apos.endLine == cpos.line) = true := by rfl) : PE X (.Call (.Attribute o name apos) [] [] cpos) (TEz C W (dMeth ty g d dNil)) := by
  refine ⟨fun pins s σ H Q I ⟨mu, sg, M, R, S, P⟩ => ?_⟩
  refine wpAny_Call_method0_late hbase hline (thn (ho.run pins s σ H (fun x H1 => ∃ mu1 M1 t, RM C mu1 M1 H1 ∧ Rep C mu1 H1 t x ∧ tyM M1 t = some ty ∧ Post C mu1 H1 (lift (g t [] M1)) (RV C) Q fun c dd H' => W c dd σ H') I
    ⟨mu, sg, M, R, S, P.bind fun t M1 mu1 x H1 R1 E1 r1 P1 => ?_⟩) fun v s1 ⟨x, H1, I1, r1, mu1, M1, t, R1, rt, ht, P1⟩ => ?_)
  · by_cases c : tyM M1 t = some ty
    · rw [if_pos c] at P1
      exact ⟨mu1, M1, t, R1, r1, c, P1⟩
    · rw [if_neg c] at P1; exact P1.elim
  · obtain ⟨h1, h2⟩ := tyM_is I1 R1 rt r1 ht
    refine ⟨ty, id, pa, slot, hty, h1, h2, Calls.callWith_builtin rfl (PySem.evalArgs_none (hm pins s1 σ H1 x [] v [] Q I1 r1 .nil ?_))⟩
    cases e2 : g t [] M1 with
    | none => rw [e2] at P1; exact P1.elim
    | some p =>
      obtain ⟨t', M'⟩ := p
      rw [e2] at P1
      exact ⟨mu1, M1, t, [], t', M', R1, rt, .nil, e2, P1⟩
end
end Z
end
section
set_option Elab.async false
set_option linter.all false
set_option maxRecDepth 100000
set_option maxHeartbeats 4000000
/-! Zn: statements. -/
namespace Z
open PySem PySem.Spec PyProof.Rows L2 PySem.SeqAt

def Out.toS {α : Type} (o : Out α) (s : Sg) (f : α → Mem → OutS) : OutS := match o with
  | .ok a M => f a M
  | .er e M => .er e s M
  | .no => .no
def OutS.then_ (o : OutS) (f : Sg → Mem → OutS) : OutS := match o with
  | .nx s M => f s M
  | .rt t M => .rt t M
  | .bk s M => .bk s M
  | .ct s M => .ct s M
  | .er e s M => .er e s M
  | .no => .no
section
variable {α β : Type} {C : Cfg} {mu : Mu} {H : Hp} {o : Out α} {Rel : Mu → Hp → α → β → Prop} {kO : β → Hp → Prop} {D : Ends} {W : WX} {s : Sg} {σ : L2.St} {f : α → Mem → OutS}
theorem PostS.bind (h : PostS C mu H (o.toS s f) D W) (S : RS C mu H s σ) (step : ∀ a M1 mu1 b H1, RM C mu1 M1 H1 → Ext C mu H mu1 H1 → Rel mu1 H1 a b → PostS C mu1 H1 (f a M1) D W → kO b H1) :
    Post C mu H o Rel kO (fun c dd H' => W c dd σ H') := by
  cases o with
  | ok a M => exact fun mu' b H' r e q => step a M mu' b H' r e q (PostS.ext h e)
  | er e M => exact fun mu' c d H' r x q => h mu' σ c d H' r x (S.mono x) q
  | no => exact h
end
def dNx : DS := fun s M => .nx s M
def dSeq (a b : DS) : DS := fun s M => (a s M).then_ b
def dNever : DS := fun _ _ => .no
def dAsg (i : Nat) (d : DE) : DS := fun s M => (d s M).toS s fun t M1 => .nx (s.set i (some t)) M1
def dDrop (d : DE) : DS := fun s M => (d s M).toS s fun _ M1 => .nx s M1
def dRet (d : DE) : DS := fun s M => (d s M).toS s fun t M1 => .rt t M1
def dRetN : DS := fun _ M => .rt .non M
def dIf (tc : DT) (a b : DS) : DS := fun s M => (tc s M).toS s fun k M1 => if k = true then a s M1 else b s M1
def dPar (i j : Nat) (da : DA) : DS := fun s M => (da s M).toS s fun ts M1 => match ts with
  | [t, u] => .nx ((s.set i (some t)).set j (some u)) M1
  | _ => .no
def dAug (i : Nat) (g : Op2) (d : DE) : DS := fun s M => match s[i]? with
  | some (some x) => (d s M).toS s fun y M1 => (lift (g x y M1)).toS s fun z M2 => .nx (s.set i (some z)) M2
  | _ => .no
def dBk : DS := fun s M => .bk s M
def dCt : DS := fun s M => .ct s M
def whileF : Nat → DT → DS → DS
  | 0, _, _ => fun _ _ => .no
  | n + 1, tc, b => fun s M => (tc s M).toS s fun k M1 => if k = true then (match b s M1 with
      | .nx s2 M2 => whileF n tc b s2 M2
      | .ct s2 M2 => whileF n tc b s2 M2
      | .bk s2 M2 => .nx s2 M2
      | .rt t M2 => .rt t M2
      | .er e s2 M2 => .er e s2 M2
      | .no => .no) else .nx s M1
def FUEL : Nat := 1000000000000
def dWhile (tc : DT) (b : DS) : DS := whileF FUEL tc b
/-- d[k] = v, d a cell -/
def gPut (t u v : T) (M : Mem) : Option Mem := match u with
  | .str k => (match Z.cellOf M t with
    | some (i, .dct ks) => if ks.length < LIM then some (M.set i (.live (.dct (putT ks k v)))) else none
    | _ => none)
  | _ => none
def dPut (dd dk dv : DE) : DS := fun s M => (dv s M).toS s fun v M1 => (dd s M1).toS s fun t M2 => (dk s M2).toS s fun u M3 => match gPut t u v M3 with
  | some M4 => .nx s M4
  | none => .no
def gIadd : Op2 := fun t u M => match t, u with
  | .int a, .int b => some (.int (a + b), M)
  | .str a, .str b => if a.length + b.length ≤ LIM then some (.str (a ++ b), M) else none
  | _, _ => none
section
variable {X : Cx} {C : Cfg} {W : WX} {pos : Pos}
theorem s_nil : PSs X [] (TSz C W dNx) := pss_weak pss_nil fun D σ H ⟨mu, s, M, R, S, P⟩ => P mu σ H R Ext.refl S
theorem s_cons {st : Stmt} {rest : List Stmt} {a b : DS} (h1 : PS X st (TSz C W a)) (h2 : PSs X rest (TSz C W b)) : PSs X (st :: rest) (TSz C W (dSeq a b)) :=
  pss_weak (pss_cons h1 h2) fun D σ H ⟨mu, s, M, R, S, P⟩ => ⟨mu, s, M, R, S, by
    unfold dSeq OutS.then_ at P
    cases e : a s M with
    | nx s1 M1 =>
      rw [e] at P
      exact fun mu1 σ1 H1 R1 E1 S1 => ⟨mu1, s1, M1, R1, S1, PostS.ext P E1⟩
    | rt t M1 => rw [e] at P; exact P
    | bk s1 M1 => rw [e] at P; exact P
    | ct s1 M1 => rw [e] at P; exact P
    | er e' s1 M1 => rw [e] at P; exact P
    | no => rw [e] at P; exact P⟩
theorem s_one {st : Stmt} {a : DS} (h1 : PS X st (TSz C W a)) : PSs X [st] (TSz C W a) := pss_one h1
theorem s_never {st : Stmt} : PS X st (TSz C W dNever) := ps_weak ps_never fun D σ H ⟨mu, s, M, R, S, P⟩ => P
theorem ss_never {sts : List Stmt} : PSs X sts (TSz C W dNever) := pss_weak pss_never fun D σ H ⟨mu, s, M, R, S, P⟩ => P
theorem se_never {e : Expr} : PE X e (TEz C W fun _ _ => .no) := ⟨fun pins s σ H Q I ⟨mu, sg, M, R, S, P⟩ => P.elim⟩
theorem s_pass : PS X (.Pass pos) (TSz C W dNx) := ps_weak ps_pass fun D σ H ⟨mu, s, M, R, S, P⟩ => P mu σ H R Ext.refl S
theorem s_break : PS X (.Break pos) (TSz C W dBk) := ps_weak ps_break fun D σ H ⟨mu, s, M, R, S, P⟩ => P mu σ H R Ext.refl S
theorem s_cont : PS X (.Continue pos) (TSz C W dCt) := ps_weak ps_continue fun D σ H ⟨mu, s, M, R, S, P⟩ => P mu σ H R Ext.refl S
theorem s_expr {e : Expr} {d : DE} (h : PE X e (TEz C W d)) (hs : swapsWith e none pos.line X.env = pure false := by rfl) : PS X (.Expr e pos) (TSz C W (dDrop d)) :=
  ps_weak (ps_expr h hs) fun D σ H ⟨mu, s, M, R, S, P⟩ => ⟨mu, s, M, R, S, P.bind S fun t M1 mu1 x H1 R1 E1 r1 P1 => P1 mu1 σ H1 R1 Ext.refl (S.mono E1)⟩
theorem s_ret {e : Expr} {d : DE} (h : PE X e (TEz C W d)) : PS X (.Return (some e) pos) (TSz C W (dRet d)) :=
  ps_weak (ps_ret h) fun D σ H ⟨mu, s, M, R, S, P⟩ => ⟨mu, s, M, R, S, P.bind S fun t M1 mu1 x H1 R1 E1 r1 P1 => P1 mu1 x H1 R1 Ext.refl r1⟩
theorem s_retN : PS X (.Return none pos) (TSz C W dRetN) := ps_weak ps_retN fun D σ H ⟨mu, s, M, R, S, P⟩ => P mu .non H R Ext.refl .non
theorem s_if {c : Expr} {p q : List Stmt} {tc : DT} {a b : DS} (hc : PT X c (TTz C W tc)) (ha : PSs X p (TSz C W a)) (hb : PSs X q (TSz C W b)) : PS X (.If c p q pos) (TSz C W (dIf tc a b)) :=
  ps_weak (ps_if hc ha hb) fun D σ H ⟨mu, s, M, R, S, P⟩ => ⟨mu, s, M, R, S, P.bind S fun k M1 mu1 x H1 R1 E1 r1 P1 => by
    cases r1
    cases k with
    | true => exact iteT ⟨mu1, s, M1, R1, S.mono E1, P1⟩
    | false => exact iteF ⟨mu1, s, M1, R1, S.mono E1, P1⟩⟩
theorem s_asg {i : Nat} {x : Str} {e : Expr} {d : DE} {p : Pos} (hN : X.N.Nodup) (hi : X.N[i]? = some x) (hx : Loc X.env.scope x) (hf : X.fn x = true ∨ X.env.scope.names.lookup x = some .local) (h : PE X e (TEz C W d))
    (hs : swapsWith e (some (.Name x p)) pos.line X.env = pure false) : PS X (.Assign [.Name x p] e pos) (TSz C W (dAsg i d)) :=
  ps_weak (ps_set hN hi hx h hs hf) fun D σ H ⟨mu, s, M, R, S, P⟩ => ⟨mu, s, M, R, S, P.bind S fun t M1 mu1 x H1 R1 E1 r1 P1 => P1 mu1 _ H1 R1 Ext.refl ((S.mono E1).set i r1)⟩
theorem s_par {i j : Nat} {x y : Str} {a b : Expr} {da : DA} {px py pt : Pos} {kt k2 pt2} (hc : X.calm = true) (hN : X.N.Nodup) (hi : X.N[i]? = some x) (hj : X.N[j]? = some y) (hij : i ≠ j)
    (hx : X.env.scope.names.lookup x = some .local) (hy : X.env.scope.names.lookup y = some .local) (ha : PA X [a, b] (TAz C W da))
    (hw : swappedStores [.Tuple [.Name x px, .Name y py] kt pt] (.Tuple [a, b] k2 pt2) X.env = pure (some [x, y]))
    (hs : swapsWithSole [.Tuple [.Name x px, .Name y py] kt pt] (.Tuple [a, b] k2 pt2) pos.line X.env = pure false := by rfl) :
    PS X (.Assign [.Tuple [.Name x px, .Name y py] kt pt] (.Tuple [a, b] k2 pt2) pos) (TSz C W (dPar i j da)) :=
  ps_weak (ps_par hc hN hi hj hij hx hy ha hw hs) fun D σ H ⟨mu, s, M, R, S, P⟩ => ⟨mu, s, M, R, S, P.bind S fun ts M1 mu1 xs H1 R1 E1 r1 P1 => by
    match ts, r1, P1 with
    | [t, u], r1, P1 =>
      obtain ⟨v, w, rfl, rv, rw'⟩ := r1.two
      exact ⟨v, w, rfl, P1 mu1 _ H1 R1 Ext.refl (((S.mono E1).set i rv).set j rw')⟩
    | [], _, P1 => exact P1.elim
    | [_], _, P1 => exact P1.elim
    | _ :: _ :: _ :: _, _, P1 => exact P1.elim⟩
theorem s_aug {i : Nat} {x : Str} {e : Expr} {d : DE} {op : Operator} {g : Op2} {p : Pos} (hN : X.N.Nodup) (hi : X.N[i]? = some x) (hx : Loc X.env.scope x) (hf : X.fn x = true ∨ X.env.scope.names.lookup x = some .local) (ho : OpR X (inplaceOp op) (rZ C g)) (h : PE X e (TEz C W d)) :
    PS X (.AugAssign (.Name x p) op e pos) (TSz C W (dAug i g d)) :=
  ps_weak (ps_aug (ti := rZ C g) hN hi hx h ho hf) fun D σ H ⟨mu, s, M, R, S, P⟩ => by
    unfold dAug at P
    split at P
    · rename_i t0 ht
      obtain ⟨v, hv, rv⟩ := S.at_ i t0 ht
      refine ⟨v, hv, mu, s, M, R, S, P.bind S fun t M1 mu1 y H1 R1 E1 r1 P1 => ?_⟩
      cases e2 : g t0 t M1 with
      | none => rw [e2] at P1; exact P1.elim
      | some p =>
        obtain ⟨z, M'⟩ := p
        rw [e2] at P1
        exact ⟨mu1, M1, t0, t, z, M', R1, rv.mono E1, r1, e2, fun mu' w H' R' E' r' => P1 mu' _ H' R' E' (((S.mono E1).mono E').set i r')⟩
    · exact P.elim
theorem s_while {c : Expr} {body : List Stmt} {tc : DT} {b : DS} (hp : PassesOwn (model X.prog X.w) X.A X.env X.xe) (hc : PT X c (TTz C W tc)) (hb : PSs X body (TSz C W b)) : PS X (.While c body [] pos) (TSz C W (dWhile tc b)) :=
  ps_weak (ps_while hp hc hb) fun D σ H ⟨mu, s, M, R, S, P⟩ => by
    refine ⟨fun m σ H => ∃ mu s M, RM C mu M H ∧ RS C mu H s σ ∧ PostS C mu H (whileF m tc b s M) D W, ⟨FUEL, mu, s, M, R, S, P⟩, fun m σ H ⟨mu, s, M, R, S, P⟩ => ?_⟩
    cases m with
    | zero => exact P.elim
    | succ m =>
      refine ⟨mu, s, M, R, S, PostS.bind P S fun k M1 mu1 x H1 R1 E1 r1 P1 => ?_⟩
      cases r1
      cases k with
      | false => exact iteF (P1 mu1 σ H1 R1 Ext.refl (S.mono E1))
      | true =>
        rw [if_pos rfl] at P1
        refine iteT ⟨fun σ' H' => ∃ mu s M, RM C mu M H' ∧ RS C mu H' s σ' ∧ PostS C mu H' (whileF m tc b s M) D W, fun σ' H' h => ⟨m, Nat.lt_succ_self m, h⟩, mu1, s, M1, R1, S.mono E1, ?_⟩
        cases e : b s M1 with
        | nx s1 M2 => rw [e] at P1; exact fun mu2 σ2 H2 R2 E2 S2 => ⟨mu2, s1, M2, R2, S2, PostS.ext P1 E2⟩
        | ct s1 M2 => rw [e] at P1; exact fun mu2 σ2 H2 R2 E2 S2 => ⟨mu2, s1, M2, R2, S2, PostS.ext P1 E2⟩
        | bk s1 M2 => rw [e] at P1; exact P1
        | rt t M2 => rw [e] at P1; exact P1
        | er e' s1 M2 => rw [e] at P1; exact P1
        | no => rw [e] at P1; exact P1
theorem s_put {o i value : Expr} {dd dk dv : DE} {pos' : Pos} (hu : X.A.units + 1 < cLine) (ho : PE X o (TEz C W dd)) (hi : PE X i (TEz C W dk)) (hv : PE X value (TEz C W dv)) (hs : swapsWith value (some (.Subscript o i pos')) pos.line X.env = pure false) :
    PS X (.Assign [.Subscript o i pos'] value pos) (TSz C W (dPut dd dk dv)) :=
  ps_weak (ps_dput hu ho hi hv hs) fun D σ H ⟨mu, s, M, R, S, P⟩ => ⟨mu, s, M, R, S, PostS.bind P S fun v M1 mu1 x1 H1 R1 E1 r1 P1 => by
    refine ⟨mu1, s, M1, R1, S.mono E1, PostS.bind P1 (S.mono E1) fun t M2 mu2 x2 H2 R2 E2 r2 P2 => ?_⟩
    refine ⟨mu2, s, M2, R2, (S.mono E1).mono E2, PostS.bind P2 ((S.mono E1).mono E2) fun u M3 mu3 x3 H3 R3 E3 r3 P3 => ?_⟩
    have S3 := ((S.mono E1).mono E2).mono E3
    have rv := (r1.mono E2).mono E3
    have rt := r2.mono E3
    unfold gPut at P3
    split at P3
    · rename_i M4 h4
      split at h4
      · rename_i k
        split at h4
        · rename_i j ks hc
          split at h4
          · rename_i hz
            cases h4
            obtain ⟨a, ws, rfl, h1, h2, h3, r⟩ := cell_dct R3 rt hc
            cases r3
            obtain ⟨R', E'⟩ := R3.write (t' := .dct (putT ks k v)) (u := .dK (putK ws (.inr k) x1)) h1 h2 (r.put rv)
            exact ⟨a, _, rfl, .inl ⟨ws, .inr k, h3, rfl, by rw [← LIM_eq, ← r.length]; exact hz, rfl⟩, P3 mu3 σ _ R' E' (S3.mono E')⟩
          · cases h4
        · cases h4
      · cases h4
    · exact P3.elim⟩
/-- in place: ints, texts -/
theorem zi_add (hK : C.K = X.K) : OpR X (inplaceOp .Add) (rZ C gIadd) := opR_weak (iop_add.or iop_add_str) fun x y H Q ⟨mu, M, t, u, t', M', R, rt, ru, e, q⟩ => by
  unfold gIadd at e
  split at e
  · cases e
    exact .inl ⟨_, _, rt.intI, ru.intI, q mu _ H R Ext.refl (.int _)⟩
  · split at e
    · rename_i c
      cases e
      exact .inr ⟨_, _, rt.strI, ru.strI, by rw [← LIM_eq]; exact c, q mu _ H R Ext.refl (.str _)⟩
    · cases e
  · cases e
theorem zi_fdiv : OpR X (inplaceOp .FloorDiv) (rZ C gFdiv) := opR_weak iop_fdiv fun x y H Q ⟨mu, M, t, u, t', M', R, rt, ru, e, q⟩ => by
  unfold gFdiv at e
  split at e
  · split at e
    · rename_i c
      cases e
      exact ⟨_, _, rt.intI, ru.intI, fdOk_ok c, q mu _ H R Ext.refl (.int _)⟩
    · cases e
  · cases e
end
end Z
end
section
set_option Elab.async false
set_option linter.all false
set_option maxRecDepth 100000
set_option maxHeartbeats 4000000
/-! Zo: what is walked. -/
namespace Z
open PySem PySem.Spec PyProof.Rows L2 PySem.SeqAt

/-- J yields ts, one after another, as long as what was there at H stays -/
def WkZ (C : Cfg) (mu : Mu) (H : Hp) (ts : List T) (J : It) : Prop := ∀ (i : Nat) (mu2 : Mu) (M2 : Mem) (H2 : Hp), RM C mu2 M2 H2 → Ext C mu H mu2 H2 →
  (i < ts.length → J.go i H2 ∧ ∀ x H3, J.yld i H2 x H3 → ∃ t, ts[i]? = some t ∧ RM C mu2 M2 H3 ∧ Ext C mu2 H2 mu2 H3 ∧ Rep C mu2 H3 t x) ∧ (i = ts.length → J.stop i H2)
/-- .. whatever else may be hidden -/
def WkA (C : Cfg) (mu : Mu) (H : Hp) (ts : List T) (J : It) : Prop := ∀ hid : Addr → Prop, (∀ (a : Addr) (o : HO), H a = some o → Av C mu a → Av (C.with hid) mu a) → WkZ (C.with hid) mu H ts J
def iZ (C : Cfg) (W : WX) (di : DA) : TI := fun σ H R => ∃ mu s M, RM C mu M H ∧ RS C mu H s σ ∧ Post C mu H (di s M) (fun mu' H' ts J => WkA C mu' H' ts J) R fun c dd H' => W c dd σ H'
theorem PI.or {X : Cx} {tg e : Expr} {w1 w2 : TI} (h1 : PI X tg e w1) (h2 : PI X tg e w2) : PI X tg e (fun σ H R => w1 σ H R ∨ w2 σ H R) := ⟨fun pins s σ H R I h => h.elim (h1.run pins s σ H R I) (h2.run pins s σ H R I)⟩
theorem pi_weak {X : Cx} {tg e : Expr} {w1 w2 : TI} (h : PI X tg e w1) (w : ∀ σ H R, w2 σ H R → w1 σ H R) : PI X tg e w2 := ⟨fun pins s σ H R I q => h.run pins s σ H R I (w σ H R q)⟩

section
variable {C : Cfg} {mu mu' : Mu} {M : Mem} {H H' : Hp} {ts : List T} {a : Addr} {vs : List V}
theorem wk_list (h : ∃ u, (H a = some u ∧ (u = .lst vs ∨ ∃ o, u = .frz o (.lst vs))) ∧ Av C mu a) (r : RepL C mu H ts vs) : WkA C mu H ts (Itl C.K a) := fun hid hA i mu2 M2 H2 R2 E2 => by
  obtain ⟨u, ⟨hu, hv⟩, av⟩ := h
  have r2 : RepL (C.with hid) mu2 H2 ts vs := (RepL.hide (C := C) (C' := C.with hid) rfl rfl hA r).mono E2
  have hd : noD u = true := by rcases hv with rfl | ⟨o, rfl⟩ <;> rfl
  have h2 : H2 a = some u := E2.obj a u hu (hA a u hu av).1 hd
  have sq : SqL C.K H2 a vs := by
    rcases hv with rfl | ⟨o, rfl⟩
    · exact .inl (.inl h2)
    · exact .inl (.inr ⟨o, h2⟩)
  refine ⟨fun hi => ?_, fun hi => ⟨vs, sq, by rw [← r.length]; exact Nat.le_of_eq hi.symm⟩⟩
  obtain ⟨v, g1, g2⟩ := r2.get (i := i) (t := ts[i]) (by simp [hi])
  refine ⟨⟨vs, v, sq, g1⟩, fun x H3 ⟨e3, hx⟩ => ?_⟩
  subst e3
  have := hx vs sq
  rw [g1] at this
  cases this
  exact ⟨_, by simp [hi], R2, Ext.refl, g2⟩
theorem wk_tup (h : FT C mu H a vs) (r : RepL C mu H ts vs) : WkA C mu H ts (Itt C.K a) := fun hid hA i mu2 M2 H2 R2 E2 => by
  have r2 : RepL (C.with hid) mu2 H2 ts vs := (RepL.hide (C := C) (C' := C.with hid) rfl rfl hA r).mono E2
  have sq : SqT C.K H2 a vs := by
    rcases h with h | h
    · exact .inl (.inl (E2.obj a _ h.1 (hA a _ h.1 h.2).1 rfl))
    · exact .inr h
  refine ⟨fun hi => ?_, fun hi => ⟨vs, sq, by rw [← r.length]; exact Nat.le_of_eq hi.symm⟩⟩
  obtain ⟨v, g1, g2⟩ := r2.get (i := i) (t := ts[i]) (by simp [hi])
  refine ⟨⟨vs, v, sq, g1⟩, fun x H3 ⟨e3, hx⟩ => ?_⟩
  subst e3
  have := hx vs sq
  rw [g1] at this
  cases this
  exact ⟨_, by simp [hi], R2, Ext.refl, g2⟩
def rngT (lo : Int) (n : Nat) : List T := (List.range n).map fun (k : Nat) => T.int (lo + (k : Int))
theorem wk_rng (lo : Int) (n : Nat) : WkA C mu H (rngT lo n) (Itr lo n) := fun hid hA i mu2 M2 H2 R2 E2 => by
  have hl : (rngT lo n).length = n := by unfold rngT; simp
  refine ⟨fun hi => ?_, fun hi => by rw [hl] at hi; exact Nat.le_of_eq hi.symm⟩
  rw [hl] at hi
  refine ⟨hi, fun x H3 ⟨e3, hx⟩ => ?_⟩
  subst e3 hx
  exact ⟨.int (lo + i), by unfold rngT; simp [hi], R2, Ext.refl, .int _⟩
def chrT (x : Str) : List T := x.cps.toList.map fun c => .str ⟨#[c]⟩
theorem wk_str (x : Str) : WkA C mu H (chrT x) (Its x) := fun hid hA i mu2 M2 H2 R2 E2 => by
  have hl : (chrT x).length = x.cps.size := by unfold chrT; simp
  refine ⟨fun hi => ?_, fun hi => by rw [hl] at hi; exact Nat.le_of_eq hi.symm⟩
  rw [hl] at hi
  refine ⟨hi, fun v H3 ⟨e3, c, hc, hx⟩ => ?_⟩
  subst e3 hx
  refine ⟨.str ⟨#[c]⟩, ?_, R2, Ext.refl, .str _⟩
  unfold chrT
  rw [List.getElem?_map, Array.getElem?_toList, hc]; rfl
/-- a dict that is locked -/
def Lkd (C : Cfg) (mu : Mu) (H : Hp) (t : T) (v : V) : Prop := ∀ ks, t = .dct ks → ∃ a od ws, v = .ref a ∧ H a = some (.frz od (.dK ws)) ∧ Av C mu a ∧ RepD C mu H ks ws
theorem wk_keys {ks : List (Str × T)} {ws : List (Key × V)} {od : Obj} (h : H a = some (.frz od (.dK ws))) (av : Av C mu a) (r : RepD C mu H ks ws) : WkA C mu H (keysT ks) (Itk a od ws) := fun hid hA i mu2 M2 H2 R2 E2 => by
  have h2 : H2 a = some (.frz od (.dK ws)) := E2.obj a _ h (hA a _ h av).1 rfl
  have hl : (keysT ks).length = ws.length := by unfold keysT; rw [List.length_map, r.length]
  refine ⟨fun hi => ?_, fun hi => ⟨h2, by rw [← hl]; exact Nat.le_of_eq hi.symm⟩⟩
  refine ⟨⟨h2, by rw [← hl]; exact hi⟩, fun x H3 ⟨e3, k, v, hk, hx⟩ => ?_⟩
  subst e3 hx
  have rk := r.kv (C := C)
  obtain ⟨w, g1, g2⟩ := rk.get (i := i) (t := (keysT ks)[i]) (by simp [hi])
  rw [List.getElem?_map, hk] at g1
  have : w = kV k := (Option.some.inj g1).symm
  subst this
  have g3 : Rep (C.with hid) mu2 H3 ((keysT ks)[i]) (kV k) := (Rep.hide (C := C) (C' := C.with hid) rfl rfl hA g2).mono E2
  exact ⟨_, by simp [hi], R2, Ext.refl, g3⟩
theorem RepD.at_ : ∀ {ks : List (Str × T)} {ws : List (Key × V)} {i : Nat} {k : Key} {v : V}, RepD C mu H ks ws → ws[i]? = some (k, v) → ∃ k' t, ks[i]? = some (k', t) ∧ k = .inr k' ∧ Rep C mu H t v
  | _, _, _, _, _, .nil, e => by simp at e
  | _, _, 0, _, _, .cons h _, e => by simp at e; obtain ⟨rfl, rfl⟩ := e; exact ⟨_, _, rfl, rfl, h⟩
  | _, _, i + 1, _, _, .cons _ r, e => by
    obtain ⟨k', t, h1, h2, h3⟩ := RepD.at_ (i := i) r (by simpa using e)
    exact ⟨k', t, by simpa using h1, h2, h3⟩
def valsT (ks : List (Str × T)) : List T := ks.map fun p => p.2
def itemsT (ks : List (Str × T)) : List T := ks.map fun p => .tup [.str p.1, p.2]
theorem wk_vals {ks : List (Str × T)} {ws : List (Key × V)} {od : Obj} (h : H a = some (.frz od (.dK ws))) (av : Av C mu a) (r : RepD C mu H ks ws) : WkA C mu H (valsT ks) (Itd a od ws) := fun hid hA i mu2 M2 H2 R2 E2 => by
  have h2 : H2 a = some (.frz od (.dK ws)) := E2.obj a _ h (hA a _ h av).1 rfl
  have hl : (valsT ks).length = ws.length := by unfold valsT; rw [List.length_map, r.length]
  refine ⟨fun hi => ⟨⟨h2, by rw [← hl]; exact hi⟩, fun x H3 ⟨e3, k, hk⟩ => ?_⟩, fun hi => ⟨h2, by rw [← hl]; exact Nat.le_of_eq hi.symm⟩⟩
  subst e3
  obtain ⟨k', t, g1, _, g2⟩ := r.at_ hk
  exact ⟨t, by unfold valsT; rw [List.getElem?_map, g1]; rfl, R2, Ext.refl, (Rep.hide (C := C) (C' := C.with hid) rfl rfl hA g2).mono E2⟩
theorem wk_items {ks : List (Str × T)} {ws : List (Key × V)} {od : Obj} (h : H a = some (.frz od (.dK ws))) (av : Av C mu a) (r : RepD C mu H ks ws) : WkA C mu H (itemsT ks) (Iti a od ws) := fun hid hA i mu2 M2 H2 R2 E2 => by
  have h2 : H2 a = some (.frz od (.dK ws)) := E2.obj a _ h (hA a _ h av).1 rfl
  have hl : (itemsT ks).length = ws.length := by unfold itemsT; rw [List.length_map, r.length]
  refine ⟨fun hi => ⟨⟨h2, by rw [← hl]; exact hi⟩, fun x H3 ⟨p, k, v, hk, hx, hp, e3⟩ => ?_⟩, fun hi => ⟨h2, by rw [← hl]; exact Nat.le_of_eq hi.symm⟩⟩
  subst e3 hx
  obtain ⟨k', t, g1, rfl, g2⟩ := r.at_ hk
  obtain ⟨R3, E3, r3⟩ := tup_ok R2 hp (.cons (.str k') (.cons ((Rep.hide (C := C) (C' := C.with hid) rfl rfl hA g2).mono E2) .nil))
  exact ⟨.tup [.str k', t], by unfold itemsT; rw [List.getElem?_map, g1]; rfl, R3, E3, r3⟩
def enumT (ts : List T) : List T := ts.zipIdx.map fun p => .tup [.int (p.2 : Int), p.1]
theorem wk_enum (h : ∃ u, (H a = some u ∧ (u = .lst vs ∨ ∃ o, u = .frz o (.lst vs))) ∧ Av C mu a) (r : RepL C mu H ts vs) : WkA C mu H (enumT ts) (Ite C.K a) := fun hid hA i mu2 M2 H2 R2 E2 => by
  obtain ⟨u, ⟨hu, hv⟩, av⟩ := h
  have r2 : RepL (C.with hid) mu2 H2 ts vs := (RepL.hide (C := C) (C' := C.with hid) rfl rfl hA r).mono E2
  have hd : noD u = true := by rcases hv with rfl | ⟨o, rfl⟩ <;> rfl
  have h2 : H2 a = some u := E2.obj a u hu (hA a u hu av).1 hd
  have sq : SqL C.K H2 a vs := by
    rcases hv with rfl | ⟨o, rfl⟩
    · exact .inl (.inl h2)
    · exact .inl (.inr ⟨o, h2⟩)
  have hl : (enumT ts).length = ts.length := by unfold enumT; simp
  refine ⟨fun hi => ?_, fun hi => ⟨vs, sq, by rw [← r.length, ← hl]; exact Nat.le_of_eq hi.symm⟩⟩
  rw [hl] at hi
  obtain ⟨v, g1, g2⟩ := r2.get (i := i) (t := ts[i]) (by simp [hi])
  refine ⟨⟨vs, v, sq, g1⟩, fun x H3 ⟨p, y, hx, hp, e3, hy⟩ => ?_⟩
  subst e3 hx
  have := hy vs sq
  rw [g1] at this
  cases this
  obtain ⟨R3, E3, r3⟩ := tup_ok R2 hp (.cons (.int (i : Nat)) (.cons g2 .nil))
  exact ⟨.tup [.int (i : Nat), ts[i]], by unfold enumT; simp [hi], R3, E3, r3⟩
end

/-! ### the rules -/
section
variable {X : Cx} {C : Cfg} {W : WX} {tg : Expr}
/-- the value, a dict locked -/
def tLk (td : TE) : TE := fun σ H Q => td σ H fun x H1 => (∃ d ws, x = .ref d ∧ H1 d = some (.dK ws) ∧ ∀ od, Q x (upd H1 d (.frz od (.dK ws)))) ∨ Q x H1
theorem pe_lk {e : Expr} {td : TE} (he : PE X e td) : PE X e (tLk td) := ⟨fun pins s σ H Q I h => thn (he.run pins s σ H _ I h) fun u s1 ⟨x, H1, I1, r1, q⟩ => by
  rcases q with ⟨d, ws, rfl, hd, q⟩ | q
  · obtain ⟨od, I2⟩ := I1.lock hd trivial
    exact ⟨_, _, I2, r1, q od⟩
  · exact ⟨x, H1, I1, r1, q⟩⟩
def RLk (C : Cfg) : Mu → Hp → T → V → Prop := fun mu H t v => Rep C mu H t v ∧ Lkd C mu H t v
def TEk (C : Cfg) (W : WX) (d : DE) : TE := fun σ H Q => ∃ mu s M, RM C mu M H ∧ RS C mu H s σ ∧ Post C mu H (d s M) (RLk C) Q fun c dd H' => W c dd σ H'
theorem s_lk {e : Expr} {d : DE} (h : PE X e (TEz C W d)) : PE X e (TEk C W d) := pe_weak (pe_lk h) fun σ H Q ⟨mu, s, M, R, S, P⟩ => by
  refine ⟨mu, s, M, R, S, ?_⟩
  cases e : d s M with
  | ok t M1 =>
    rw [e] at P
    intro mu1 x H1 R1 E1 r1
    have r0 := r1
    cases r1 with
    | dct h r =>
      rename_i ks a ws
      rcases h.1 with h1 | ⟨od, h1⟩
      · refine .inl ⟨a, ws, rfl, h1, fun od => ?_⟩
        have E2 : Ext C mu1 H1 mu1 (upd H1 a (.frz od (.dK ws))) := Ext.lock h1 h.2.2
        exact P mu1 _ _ (R1.lockD h1 h.2) (E1.trans E2) ⟨r0.mono E2, fun ks' e' => by cases e'; exact ⟨a, od, ws, rfl, upd_same, h.2, r.mono E2⟩⟩
      · exact .inr (P mu1 _ _ R1 E1 ⟨r0, fun ks' e' => by cases e'; exact ⟨a, od, ws, rfl, h1, h.2, r⟩⟩)
    | _ => exact .inr (P mu1 _ _ R1 E1 ⟨r0, fun _ e' => nomatch e'⟩)
  | er e' M1 => rw [e] at P; exact P
  | no => rw [e] at P; exact P
/-- what a for over the value takes -/
def walkT (t : T) : Option (List T) := match t with
  | .tup xs => some xs
  | .lst xs => some xs
  | .fz xs => some xs
  | .str x => some (chrT x)
  | .dct ks => some (keysT ks)
  | _ => none
def toA (o : Option (List T)) (M : Mem) : Out (List T) := match o with
  | some ts => .ok ts M
  | none => .no
def dWalk (d : DE) : DA := fun s M => (d s M).bind fun t M1 => toA (walkT t) M1
theorem i_val (hK : C.K = X.K) {e : Expr} {d : DE} (h : PE X e (TEz C W d)) : PI X tg e (iZ C W (dWalk d)) := by
  refine pi_weak (PI.or (PI.or (pi_list h) (pi_tup h)) (PI.or (pi_str h) (pi_keys (s_lk h)))) fun σ H R ⟨mu, s, M, R0, S, P⟩ => ?_
  rw [← hK]
  cases e2 : d s M with
  | er e' M1 =>
    have P2 : Post C mu H (d s M) (RV C) (fun x H1 => ∃ a, x = .ref a ∧ (∃ xs, SqL C.K H1 a xs) ∧ R (Itl C.K a) H1) fun c dd H' => W c dd σ H' := by
      unfold dWalk at P; rw [e2] at P ⊢; exact P
    exact .inl (.inl ⟨mu, s, M, R0, S, P2⟩)
  | no => unfold dWalk at P; rw [e2] at P; exact P.elim
  | ok t M1 =>
    unfold dWalk at P
    rw [e2] at P
    simp only [bind_ok] at P
    cases t with
    | tup xs =>
      refine .inl (.inr ⟨mu, s, M, R0, S, ?_⟩)
      rw [e2]
      intro mu1 x H1 R1 E1 r1
      obtain ⟨a, vs, rfl, f, r⟩ := r1.tupI
      exact ⟨a, rfl, ⟨vs, f.sq⟩, P mu1 _ H1 R1 E1 (wk_tup f r)⟩
    | lst xs =>
      refine .inl (.inl ⟨mu, s, M, R0, S, ?_⟩)
      rw [e2]
      intro mu1 x H1 R1 E1 r1
      cases r1 with
      | lst f r => exact ⟨_, rfl, ⟨_, f.sq⟩, P mu1 _ H1 R1 E1 (wk_list ⟨_, ⟨f.1, .inl rfl⟩, f.2⟩ r)⟩
    | fz xs =>
      refine .inl (.inl ⟨mu, s, M, R0, S, ?_⟩)
      rw [e2]
      intro mu1 x H1 R1 E1 r1
      cases r1 with
      | fz f r => exact ⟨_, rfl, ⟨_, .inl (.inr ⟨_, f.1⟩)⟩, P mu1 _ H1 R1 E1 (wk_list ⟨_, ⟨f.1, .inr ⟨_, rfl⟩⟩, f.2⟩ r)⟩
    | str z =>
      refine .inr (.inl ⟨mu, s, M, R0, S, ?_⟩)
      rw [e2]
      intro mu1 x H1 R1 E1 r1
      cases r1
      exact ⟨z, rfl, P mu1 _ H1 R1 E1 (wk_str z)⟩
    | dct ks =>
      refine .inr (.inr ⟨mu, s, M, R0, S, ?_⟩)
      rw [e2]
      intro mu1 x H1 R1 E1 r1
      obtain ⟨a, od, ws, rfl, h1, av, r⟩ := r1.2 ks rfl
      exact ⟨a, od, rfl, .inl ⟨ws, h1, P mu1 _ H1 R1 E1 (wk_keys h1 av r)⟩⟩
    | non => exact P.elim
    | bl => exact P.elim
    | int => exact P.elim
    | ty => exact P.elim
    | ob => exact P.elim
    | ins => exact P.elim
    | cel => exact P.elim
/-- d.values(), d.items() -/
def dVals (d : DE) : DA := fun s M => (d s M).bind fun t M1 => match t with
  | .dct ks => .ok (valsT ks) M1
  | _ => .no
def dItems (d : DE) : DA := fun s M => (d s M).bind fun t M1 => match t with
  | .dct ks => .ok (itemsT ks) M1
  | _ => .no
theorem i_vals {e : Expr} {d : DE} {apos cpos : Pos} (h : PE X e (TEz C W d)) (hbase : attributeBase e "values" X.env (eval e X.env) = eval e X.env := by rfl) (hline : (apos.endLine == cpos.line) = true := by rfl) : PI X tg (.Call (.Attribute e "values" apos) [] [] cpos) (iZ C W (dVals d)) :=
  pi_weak (pi_values (s_lk h) hbase hline) fun σ H R ⟨mu, s, M, R0, S, P⟩ => ⟨mu, s, M, R0, S, P.bind fun t M1 mu1 x H1 R1 E1 r1 P1 => by
    split at P1
    · rename_i ks
      obtain ⟨a, od, ws, rfl, h1, av, r⟩ := r1.2 ks rfl
      exact ⟨a, od, ws, rfl, h1, P1 mu1 _ H1 R1 Ext.refl (wk_vals h1 av r)⟩
    · exact P1.elim⟩
theorem i_items {e : Expr} {d : DE} {apos cpos : Pos} {elts : List Expr} {kk : Nat} {tpos : Pos} (h : PE X e (TEz C W d)) (hbase : attributeBase e "items" X.env (eval e X.env) = eval e X.env := by rfl) (hline : (apos.endLine == cpos.line) = true := by rfl) :
    PI X (.Tuple elts kk tpos) (.Call (.Attribute e "items" apos) [] [] cpos) (iZ C W (dItems d)) :=
  pi_weak (pi_items (s_lk h) hbase hline) fun σ H R ⟨mu, s, M, R0, S, P⟩ => ⟨mu, s, M, R0, S, P.bind fun t M1 mu1 x H1 R1 E1 r1 P1 => by
    split at P1
    · rename_i ks
      obtain ⟨a, od, ws, rfl, h1, av, r⟩ := r1.2 ks rfl
      exact ⟨a, od, ws, rfl, h1, P1 mu1 _ H1 R1 Ext.refl (wk_items h1 av r)⟩
    · exact P1.elim⟩
/-- range(n), range(i, j) (inR said so that it is stuck at once where i is not known) -/
def inR (i : Int) : Bool := match i with
  | .ofNat n => Nat.ble n 4611686018427387903
  | .negSucc n => Nat.ble n 4611686018427387903
def dRange1 (da : DA) : DA := fun s M => (da s M).bind fun ts M1 => match ts with
  | [.int n] => if inR n = true then .ok (rngT 0 n.toNat) M1 else .no
  | _ => .no
def dRange2 (da : DA) : DA := fun s M => (da s M).bind fun ts M1 => match ts with
  | [.int i, .int j] => if inR i = true ∧ inR j = true then .ok (rngT i (j - i).toNat) M1 else .no
  | _ => .no
theorem inR_ok {i : Int} (h : inR i = true) : -(2 ^ 62) ≤ i ∧ i < 2 ^ 62 := by
  cases i with
  | ofNat n =>
    have := Nat.le_of_ble_eq_true (show Nat.ble n 4611686018427387903 = true from h)
    simp only [Int.ofNat_eq_natCast]
    omega
  | negSucc n =>
    have := Nat.le_of_ble_eq_true (show Nat.ble n 4611686018427387903 = true from h)
    omega
theorem i_range1 {a : Expr} {da : DA} {p pos : Pos} (hg : Gl X "range") (hm : X.mg "range" = none) (ha : PA X [a] (TAz C W da)) (hs : starEach [a] X.env = [(false, eval a X.env)] := by rfl) : PI X tg (.Call (.Name "range" p) [a] [] pos) (iZ C W (dRange1 da)) :=
  pi_weak (pi_range1 hg hm ha hs) fun σ H R ⟨mu, s, M, R0, S, P⟩ => by
    refine ⟨mu, s, M, R0, S, ?_⟩
    unfold dRange1 at P
    refine Post.bind P fun ts M1 mu1 xs H1 R1 E1 r1 P1 => ?_
    split at P1
    · rename_i n
      obtain ⟨x, rfl, rx⟩ := r1.one
      cases rx
      split at P1
      · rename_i c
        exact ⟨n, rfl, (inR_ok c).1, (inR_ok c).2, P1 mu1 _ H1 R1 Ext.refl (wk_rng 0 n.toNat)⟩
      · exact P1.elim
    · exact P1.elim
theorem i_range2 {a b : Expr} {da : DA} {p pos : Pos} (hg : Gl X "range") (hm : X.mg "range" = none) (ha : PA X [a, b] (TAz C W da)) (hs : starEach [a, b] X.env = [(false, eval a X.env), (false, eval b X.env)] := by rfl) (hs2 : starEach [b] X.env = [(false, eval b X.env)] := by rfl) :
    PI X tg (.Call (.Name "range" p) [a, b] [] pos) (iZ C W (dRange2 da)) :=
  pi_weak (pi_range2 hg hm ha hs hs2) fun σ H R ⟨mu, s, M, R0, S, P⟩ => by
    refine ⟨mu, s, M, R0, S, ?_⟩
    unfold dRange2 at P
    refine Post.bind P fun ts M1 mu1 xs H1 R1 E1 r1 P1 => ?_
    split at P1
    · rename_i i j
      obtain ⟨x, y, rfl, rx, ry⟩ := r1.two
      cases rx; cases ry
      split at P1
      · rename_i c
        exact ⟨i, j, rfl, ⟨(inR_ok c.1).1, (inR_ok c.1).2, (inR_ok c.2).1, (inR_ok c.2).2⟩, P1 mu1 _ H1 R1 Ext.refl (wk_rng i (j - i).toNat)⟩
      · exact P1.elim
    · exact P1.elim
end
end Z
end
section
set_option Elab.async false
set_option linter.all false
set_option maxRecDepth 100000
set_option maxHeartbeats 4000000
/-! Zp: zip(.., strict=True) of two things of one length; enumerate of a tuple: in the machine. -/
namespace Z
open PySem PySem.Spec PyProof.Rows L2 PySem.SeqAt

/-- a strict zip's object -/
abbrev SZip (h : Heap) (z TI TO : Addr) (f0 : Value) : Prop := h.get? z = some { cls := .type "zip", data := .fields #[f0, .bool false, .bool true, .ref TI, .ref TO] }
section
variable {prog : Program} {w : World} {A : Around} {E : Value → Shared → Prop} {s : Shared} {z TI TO i1 i2 : Addr} {fp1 fp2 : List Addr} {n i : Nat} {P1 P2 : Nat → Value → Prop} {St1 St2 : Nat → Heap → Prop} {a1 a2 : Value}
theorem noe_item {it : Addr} {fp : List Addr} {P : Nat → Value → Prop} {St : Nat → Heap → Prop} {Q : Option Value → Shared → Prop} (D : Draws prog w A it fp n P St) (hi : i < n) (st : St i s.heap)
    (h : ∀ x h' tk, P i x → St (i + 1) h' → Heap.SameBut it s.heap h' → Q (some x) { s with heap := h', toks := tk }) : wpAny (model prog w) A (Builtin.SmallTypes.nextOrEnd (.ref it)) Q E s := by
  unfold Builtin.SmallTypes.nextOrEnd
  exact wpAny_bind (wpAny_attempt (D.item i _ _ _ hi st fun x h' tk a b c => wpAny_pure (h x h' tk a b c)))
theorem noe_end {it : Addr} {fp : List Addr} {P : Nat → Value → Prop} {St : Nat → Heap → Prop} {Q : Option Value → Shared → Prop} (D : Draws prog w A it fp n P St) (st : St n s.heap)
    (h : ∀ h', Heap.ExtBut it s.heap h' → Q none { s with heap := h' }) : wpAny (model prog w) A (Builtin.SmallTypes.nextOrEnd (.ref it)) Q E s := by
  unfold Builtin.SmallTypes.nextOrEnd
  refine wpAny_bind (wpAny_attempt (D.done _ _ _ st fun h' e he hx => ?_))
  obtain ⟨o, ho, hc⟩ := hx
  exact wpAny_bind (wpAny_isInstance (T := "StopIteration") (b := true) ⟨o, ho, hc⟩ isSubtype_stop (wpAny_pure (h h' he)))
/-- StopIteration raised -/
theorem stop_now {α : Type} {Q : α → Shared → Prop} (hh : A.handled = none) (h : ∀ h' e, (∀ b o, s.heap.get? b = some o → h'.get? b = some o) → (∃ o, h'.get? e = some o ∧ o.cls = .type "StopIteration") → E (.ref e) { s with heap := h' }) :
    wpAny (model prog w) A (Builtin.SmallTypes.stopIteration : Sem α) Q E s := by
  unfold Builtin.SmallTypes.stopIteration
  refine wpAny_bind ?_
  simp only [newExc, newTuple]
  refine wpAny_bind (wpAny_newObj_type ?_ (by size_fits))
  refine wpAny_bind (m := firstArgMember _ _) (wpAny_of_eq (a := Value.none) (by first | rfl | (simp only [firstArgMember]; rfl)) ?_)
  refine wpAny_newObj_type ?_ (by size_fits)
  simp only [raiseNew]
  refine wpAny_bind (wpAny_handled ?_)
  rw [hh]
  refine wpAny_bind (wpAny_pure (wpAny_throw ?_))
  exact h _ _ (fun b o e => Heap.get?_push_of_some _ (Heap.get?_push_of_some _ e)) ⟨_, Heap.get?_push_size _ rfl, rfl⟩
/-- the zip's turn: an item of each -/
theorem sz_item {Q : Value → Shared → Prop} (S : ZipSep2 z TI TO i1 i2 fp1 fp2) (D1 : Draws prog w A i1 fp1 n P1 St1) (D2 : Draws prog w A i2 fp2 n P2 St2)
    (hz : SZip s.heap z TI TO .none) (hTI : IsTupOf2 s.heap TI (.ref i1) (.ref i2)) (hTO : IsTupOf2 s.heap TO a1 a2) (st1 : St1 i s.heap) (st2 : St2 i s.heap) (hi : i < n)
    (hQ : ∀ x1 x2 h' tk, P1 i x1 → P2 i x2 → SZip h' z TI TO (rawInt s.heap.objs.size) → IsTupOf2 h' TO x1 x2 → St1 (i + 1) h' → St2 (i + 1) h' → IsTupOf2 h' s.heap.objs.size x1 x2 →
      (∀ c o, c ≠ z → c ≠ TO → c ≠ i1 → c ≠ i2 → s.heap.get? c = some o → h'.get? c = some o) → Q (.ref s.heap.objs.size) { s with heap := h', toks := tk }) :
    wpAny (model prog w) A (Builtin.«zip.__next__» ⟨[.ref z], []⟩) (fun fin s' => ∃ v, fin = .done (.ret v) ∧ Q v s') E s := by
  obtain ⟨hp, gs, dr, tk0, os⟩ := s
  show wpAny _ _ (field (.ref z) 2 >>= _) _ _ _
  refine wpAny_bind (wpAny_field hz rfl (x := .bool true) rfl ?_)
  show wpAny _ _ (field (.ref z) 3 >>= _) _ _ _
  refine wpAny_bind (wpAny_field hz rfl (x := .ref TI) rfl (wpAny_bind (wpAny_seqItems hTI rfl ?_)))
  show wpAny _ _ (Builtin.SmallTypes.ownedTupleIsFree (.ref z) >>= _) _ _ _
  unfold Builtin.SmallTypes.ownedTupleIsFree
  refine wpAny_bind (wpAny_bind (wpAny_field hz rfl (x := .none) rfl (wpAny_pure ?_)))
  simp only [if_true]
  refine wpAny_bind (wpAny_rule (wpAny_bind (wpAny_field hz rfl (x := .ref TO) rfl (wpAny_bind (wpAny_setField_rec hz (by simp) fun b0 hb0 e0 => ?_)))))
  replace hb0 : SZip b0 z TI TO .ellipsis := hb0
  replace e0 : Heap.SameBut z hp b0 := e0
  refine wpAny_bind ?_
  simp only [List.zipIdx_cons, List.zipIdx_nil, List.forIn_cons, List.forIn_nil]
  -- the first
  refine wpAny_bind (wpAny_bind (wpAny_onRaise ?_))
  show wpAny _ _ (Builtin.SmallTypes.nextOrEnd (.ref i1)) _ _ ⟨b0, gs, dr, tk0, os⟩
  refine noe_item D1 hi (D1.over st1 e0 S.zf1) fun x1 c1 t1 hx1 n1 e1 => ?_
  replace e1 : Heap.SameBut i1 b0 c1 := e1
  have u1 : IsTupOf2 c1 TO a1 a2 := e1.extBut _ _ S.Ti1 (e0.extBut _ _ S.TOz hTO)
  refine wpAny_bind (wpAny_seqItems (s := ⟨c1, gs, dr, t1, os⟩) u1 rfl (wpAny_bind (updateSeq_IsTupOf2 (s := ⟨c1, gs, dr, t1, os⟩) u1 fun b1 v1 f1 => ?_)))
  replace v1 : IsTupOf2 b1 TO x1 a2 := v1
  replace f1 : Heap.SameBut TO c1 b1 := f1
  refine wpAny_bind (wpAny_letGo (wpAny_pure ?_))
  -- the second
  refine wpAny_bind (wpAny_bind (wpAny_onRaise ?_))
  show wpAny _ _ (Builtin.SmallTypes.nextOrEnd (.ref i2)) _ _ ⟨b1, gs, dr, t1, os⟩
  refine noe_item D2 hi (D2.over (D2.over (D2.over st2 e0 S.zf2) e1 S.sep1_2) f1 S.Tf2) fun x2 c2 t2 hx2 n2 e2 => ?_
  replace e2 : Heap.SameBut i2 b1 c2 := e2
  have u2 : IsTupOf2 c2 TO x1 a2 := e2.extBut _ _ S.Ti2 v1
  refine wpAny_bind (wpAny_seqItems (s := ⟨c2, gs, dr, t2, os⟩) u2 rfl (wpAny_bind (updateSeq_IsTupOf2 (s := ⟨c2, gs, dr, t2, os⟩) u2 fun b2 v2 f2 => ?_)))
  replace v2 : IsTupOf2 b2 TO x1 x2 := v2
  replace f2 : Heap.SameBut TO c2 b2 := f2
  refine wpAny_bind (wpAny_letGo (wpAny_pure (wpAny_pure ?_)))
  -- the pair
  refine wpAny_bind (wpAny_seqItems (s := ⟨b2, gs, dr, t2, os⟩) v2 rfl (wpAny_bind (wpAny_newTuple ?_)))
  have size : b2.objs.size = hp.objs.size := by rw [f2.1, e2.1, f1.1, e1.1, e0.1]
  have zAt : SZip b2 z TI TO .ellipsis := f2.extBut _ _ S.TOz.symm (e2.extBut _ _ S.zi2 (f1.extBut _ _ S.TOz.symm (e1.extBut _ _ S.zi1 hb0)))
  have k2 : ∀ c o, c ≠ z → c ≠ TO → c ≠ i1 → c ≠ i2 → hp.get? c = some o → b2.get? c = some o := fun c o q0 q1 q2 q3 e =>
    f2.extBut _ _ q1 (e2.extBut _ _ q3 (f1.extBut _ _ q1 (e1.extBut _ _ q2 (e0.extBut _ _ q0 e))))
  have m1 : St1 (i + 1) b2 := D1.over (D1.over (D1.over n1 f1 S.Tf1) e2 S.sep2_1) f2 S.Tf1
  have m2 : St2 (i + 1) b2 := D2.over n2 f2 S.Tf2
  have zlt : z < b2.objs.size := Heap.lt_size zAt
  show wpAny _ _ (Builtin.SmallTypes.ownedTupleHandOut (.ref z) (.ref b2.objs.size) >>= _) _ _ ⟨b2.push { cls := .type "tuple", data := .seq #[x1, x2] }, gs, dr, t2, os⟩
  unfold Builtin.SmallTypes.ownedTupleHandOut
  have z3 : SZip (b2.push { cls := .type "tuple", data := .seq #[x1, x2] }) z TI TO .ellipsis := Heap.get?_push_of_some _ zAt
  refine wpAny_bind (wpAny_bind (wpAny_setField_rec z3 (by simp) fun b4 z4 e4 => ?_))
  replace z4 : SZip b4 z TI TO (rawInt b2.objs.size) := z4
  refine wpAny_setField_rec z4 (by simp) fun b5 z5 e5 => ?_
  replace z5 : SZip b5 z TI TO (rawInt b2.objs.size) := z5
  replace e4 : Heap.SameBut z (b2.push { cls := .type "tuple", data := .seq #[x1, x2] }) b4 := e4
  replace e5 : Heap.SameBut z b4 b5 := e5
  have up : ∀ c o, c ≠ z → b2.get? c = some o → b5.get? c = some o := fun c o q e => e5.extBut _ _ q (e4.extBut _ _ q (Heap.get?_push_of_some _ e))
  have tAt : IsTupOf2 b5 b2.objs.size x1 x2 := e5.extBut _ _ (Nat.ne_of_gt zlt) (e4.extBut _ _ (Nat.ne_of_gt zlt) (Heap.get?_push_size _ rfl))
  rw [size] at z5 tAt
  refine wpAny_pure ⟨_, rfl, ?_⟩
  show Q (.ref b2.objs.size) ⟨b5, gs, dr, t2, os⟩
  rw [size]
  exact hQ x1 x2 b5 t2 hx1 hx2 z5 (up _ _ S.TOz v2) (D1.frame _ _ _ m1 fun b hb o e => up b o (fun q => S.zf1 (q ▸ hb)) e) (D2.frame _ _ _ m2 fun b hb o e => up b o (fun q => S.zf2 (q ▸ hb)) e) tAt fun c o q0 q1 q2 q3 e => up c o q0 (k2 c o q0 q1 q2 q3 e)
/-- the zip's end: both are at their end -/
theorem sz_end {Q : Fin → Shared → Prop} (hh : A.handled = none) (S : ZipSep2 z TI TO i1 i2 fp1 fp2) (D1 : Draws prog w A i1 fp1 n P1 St1) (D2 : Draws prog w A i2 fp2 n P2 St2)
    (hz : SZip s.heap z TI TO .none) (hTI : IsTupOf2 s.heap TI (.ref i1) (.ref i2)) (hTO : IsTupOf2 s.heap TO a1 a2) (st1 : St1 n s.heap) (st2 : St2 n s.heap)
    (hE : ∀ h' e, (∀ c o, c ≠ z → c ≠ TO → c ≠ i1 → c ≠ i2 → s.heap.get? c = some o → h'.get? c = some o) → (∃ o, h'.get? e = some o ∧ o.cls = .type "StopIteration") → E (.ref e) { s with heap := h' }) :
    wpAny (model prog w) A (Builtin.«zip.__next__» ⟨[.ref z], []⟩) Q E s := by
  obtain ⟨hp, gs, dr, tk0, os⟩ := s
  show wpAny _ _ (field (.ref z) 2 >>= _) _ _ _
  refine wpAny_bind (wpAny_field hz rfl (x := .bool true) rfl ?_)
  show wpAny _ _ (field (.ref z) 3 >>= _) _ _ _
  refine wpAny_bind (wpAny_field hz rfl (x := .ref TI) rfl (wpAny_bind (wpAny_seqItems hTI rfl ?_)))
  show wpAny _ _ (Builtin.SmallTypes.ownedTupleIsFree (.ref z) >>= _) _ _ _
  unfold Builtin.SmallTypes.ownedTupleIsFree
  refine wpAny_bind (wpAny_bind (wpAny_field hz rfl (x := .none) rfl (wpAny_pure ?_)))
  simp only [if_true]
  refine wpAny_bind (wpAny_rule (wpAny_bind (wpAny_field hz rfl (x := .ref TO) rfl (wpAny_bind (wpAny_setField_rec hz (by simp) fun b0 hb0 e0 => ?_)))))
  replace hb0 : SZip b0 z TI TO .ellipsis := hb0
  replace e0 : Heap.SameBut z hp b0 := e0
  refine wpAny_bind ?_
  simp only [List.zipIdx_cons, List.zipIdx_nil, List.forIn_cons, List.forIn_nil]
  refine wpAny_bind (wpAny_bind (wpAny_onRaise ?_))
  show wpAny _ _ (Builtin.SmallTypes.nextOrEnd (.ref i1)) _ _ ⟨b0, gs, dr, tk0, os⟩
  refine noe_end D1 (D1.over st1 e0 S.zf1) fun c1 e1 => ?_
  replace e1 : Heap.ExtBut i1 b0 c1 := e1
  have z1 : SZip c1 z TI TO .ellipsis := e1 _ _ S.zi1 hb0
  refine wpAny_bind (wpAny_setField_rec (s := ⟨c1, gs, dr, tk0, os⟩) z1 (by simp) fun b1 z2 e2 => ?_)
  replace e2 : Heap.SameBut z c1 b1 := e2
  have n2 : St2 n b1 := D2.frame _ _ _ st2 fun b hb o e => e2.extBut _ _ (fun q => S.zf2 (q ▸ hb)) (e1 _ _ (fun q => S.sep1_2 (q ▸ hb)) (e0.extBut _ _ (fun q => S.zf2 (q ▸ hb)) e))
  refine wpAny_bind ?_
  show wpAny _ _ (forIn ([(Value.ref i2, 1)] : List (Value × Nat)) PUnit.unit _ >>= _) _ _ _
  simp only [List.forIn_cons, List.forIn_nil]
  refine wpAny_bind (wpAny_bind (wpAny_bind ?_))
  refine noe_end (s := ⟨b1, gs, dr, tk0, os⟩) D2 n2 fun c2 e3 => ?_
  replace e3 : Heap.ExtBut i2 b1 c2 := e3
  simp only [Option.isSome_none, Bool.false_eq_true, if_false]
  refine wpAny_pure (wpAny_pure (wpAny_bind (wpAny_rule (stop_now hh fun h' e hk he => hE h' e (fun c o q0 _ q2 q3 x => hk c o (e3 c o q3 (e2.extBut c o q0 (e1 c o q2 (e0.extBut c o q0 x))))) he))))
theorem sz_next_item {Q : Option Value → Shared → Prop} (S : ZipSep2 z TI TO i1 i2 fp1 fp2) (D1 : Draws prog w A.in1 i1 fp1 n P1 St1) (D2 : Draws prog w A.in1 i2 fp2 n P2 St2)
    (hz : SZip s.heap z TI TO .none) (hTI : IsTupOf2 s.heap TI (.ref i1) (.ref i2)) (hTO : IsTupOf2 s.heap TO a1 a2) (st1 : St1 i s.heap) (st2 : St2 i s.heap) (hi : i < n)
    (hQ : ∀ x1 x2 h' tk, P1 i x1 → P2 i x2 → SZip h' z TI TO (rawInt s.heap.objs.size) → IsTupOf2 h' TO x1 x2 → St1 (i + 1) h' → St2 (i + 1) h' → IsTupOf2 h' s.heap.objs.size x1 x2 →
      (∀ c o, c ≠ z → c ≠ TO → c ≠ i1 → c ≠ i2 → s.heap.get? c = some o → h'.get? c = some o) → Q (some (.ref s.heap.objs.size)) { s with heap := h', toks := tk }) :
    wpAny (model prog w) A (pyNext (.ref z)) Q E s := by
  have hT : s.TypeIs (.ref z) "zip" := ⟨_, hz, rfl⟩
  unfold pyNext
  exact wpAny_bind (wpAny_attempt (wpAny_callSpecial?_slot (name := Str.ofString "__next__") hT F.slot_zip_next
    (wpAny_call_entry F.slot_zip_next hT F.entry_zip_next (sz_item S D1 D2 hz hTI hTO st1 st2 hi fun x1 x2 h' tk y1 y2 b1 b2 d1 d2 b5 b6 => wpAny_pure (hQ x1 x2 h' tk y1 y2 b1 b2 d1 d2 b5 b6)) (F.args_zip_next_1 _))))
theorem sz_next_end {Q : Option Value → Shared → Prop} (hh : A.handled = none) (S : ZipSep2 z TI TO i1 i2 fp1 fp2) (D1 : Draws prog w A.in1 i1 fp1 n P1 St1) (D2 : Draws prog w A.in1 i2 fp2 n P2 St2)
    (hz : SZip s.heap z TI TO .none) (hTI : IsTupOf2 s.heap TI (.ref i1) (.ref i2)) (hTO : IsTupOf2 s.heap TO a1 a2) (st1 : St1 n s.heap) (st2 : St2 n s.heap)
    (hQ : ∀ h', (∀ c o, c ≠ z → c ≠ TO → c ≠ i1 → c ≠ i2 → s.heap.get? c = some o → h'.get? c = some o) → Q none { s with heap := h' }) : wpAny (model prog w) A (pyNext (.ref z)) Q E s := by
  have hT : s.TypeIs (.ref z) "zip" := ⟨_, hz, rfl⟩
  unfold pyNext
  refine wpAny_bind (wpAny_attempt (wpAny_callSpecial?_slot (name := Str.ofString "__next__") hT F.slot_zip_next
    (wpAny_call_entry F.slot_zip_next hT F.entry_zip_next (sz_end (A := A.in1) hh S D1 D2 hz hTI hTO st1 st2 fun h' e hk he => ?_) (F.args_zip_next_1 _))))
  obtain ⟨o, ho, hc⟩ := he
  exact wpAny_bind (wpAny_isInstance (T := "StopIteration") (b := true) ⟨o, ho, hc⟩ isSubtype_stop (wpAny_pure (hQ _ hk)))
theorem sz_go {elts : List Expr} {x1} {pos : Pos} {p : Addr} {Q : Unit → Shared → Prop} (hz : SZip s.heap z TI TO (rawInt p)) (hQ : ∀ h', SZip h' z TI TO .none → Heap.SameBut z s.heap h' → Q () { s with heap := h' }) :
    wpAny (model prog w) A (letOwnedTupleGo (.Tuple elts x1 pos) (.ref z) (.ref p)) Q E s := by
  unfold letOwnedTupleGo
  refine wpAny_bind (wpAny_load hz ?_)
  show wpAny _ _ (if (["enumerate", "zip", "dict_itemiterator", "dict_reverseitemiterator", "odict_iterator", "itertools.zip_longest", "itertools.pairwise"].contains "zip" &&
      (#[rawInt p, .bool false, .bool true, .ref TI, .ref TO] : Array Value)[0]? == some (rawInt p)) = true then _ else _) Q E s
  rw [if_pos (by simp)]
  refine wpAny_bind (wpAny_rule ?_)
  show wpAny _ _ (setField (.ref z) 0 .none) Q E s
  exact wpAny_setField_rec hz (by simp) fun h' hz' hs' => hQ h' hz' hs'
theorem sz_iter {f0 : Value} {Q : Value → Shared → Prop} (hz : SZip s.heap z TI TO f0) (h : Q (.ref z) s) : wpAny (model prog w) A (pyIter (.ref z)) Q E s := by
  have hT : s.TypeIs (.ref z) "zip" := ⟨_, hz, rfl⟩
  refine wpAny_pyIter_slot hT F.slot_zip_iter (wpAny_call_entry F.slot_zip_iter hT F.entry_zip_iter ?_ (F.args_zip_iter_1 _))
  show wpAny _ _ (ret (.ref z)) _ _ s
  exact wpAny_pure ⟨_, rfl, "zip", _, hT, F.slot_zip_next.lookup, h⟩
end
/-! ### zip(v1, v2, strict=True) begins -/
theorem tc_zipS (a b : Value) : checkTypeCall "zip" ⟨[a, b], [(Str.ofString "strict", .bool true)]⟩ = pure () := by kernel_rfl
theorem nc_zipS (a b : Value) : checkBuiltinCall "zip.__new__" ⟨[.type "zip", a, b], [(Str.ofString "strict", .bool true)]⟩ = pure () := by kernel_rfl
theorem ar_zipS (obj a b : Value) : argsOk "object.__init__" ⟨[obj, a, b], [(Str.ofString "strict", .bool true)]⟩ := by unfold argsOk; kernel_rfl
abbrev zsZ (h : Heap) (o1 o2 : Obj) : Heap := (gzO2 h o1 o2).push { cls := .type "zip", data := .fields #[.none, .bool false, .bool true, .ref ((h.push o1).push o2).objs.size, .ref (gzT2 h o1 o2).objs.size] }
theorem meets_zipS {v1 v2 : Value} {o1 o2 : Obj} {H1 H2 : Heap → Prop} (B1 : Begins v1 o1 H1) (B2 : Begins v2 o2 H2) :
    Meets (Builtin.«zip.__new__» ⟨[.type "zip", v1, v2], [(Str.ofString "strict", .bool true)]⟩) (fun _ R s => (H1 s.heap ∧ H2 s.heap) ∧ R (.ok (.ret (.ref (gzO2 s.heap o1 o2).objs.size))) { s with heap := zsZ s.heap o1 o2 }) :=
  .of_wp fun prog w A R s h => by
    obtain ⟨hp, g, d, tk, os⟩ := s; obtain ⟨⟨h1, h2⟩, h⟩ := h
    have hsub := sub_zip
    have e1 : (Str.ofString "strict" == ("strict" : Str)) = true := by decide +kernel
    have e2 : (Str.ofString "strict" != ("strict" : Str)) = false := by decide +kernel
    have q1 : ∀ {A' : Around} {E : Value → Shared → Prop} {Q : Value → Shared → Prop}, Q (.ref hp.objs.size) ⟨(hp.push o1), g, d, tk, os⟩ → wpAny (model prog w) A' (pyIter v1) Q E ⟨hp, g, d, tk, os⟩ :=
      fun q => B1.iter prog w _ _ ⟨hp, g, d, tk, os⟩ _ (B1.keeps _ _ h1 fun b o' e => e) q
    have q2 : ∀ {A' : Around} {E : Value → Shared → Prop} {Q : Value → Shared → Prop}, Q (.ref (hp.push o1).objs.size) ⟨((hp.push o1).push o2), g, d, tk, os⟩ → wpAny (model prog w) A' (pyIter v2) Q E ⟨(hp.push o1), g, d, tk, os⟩ :=
      fun q => B2.iter prog w _ _ ⟨(hp.push o1), g, d, tk, os⟩ _ (B2.keeps _ _ h2 fun b o' e => (Heap.get?_push_of_some _ e)) q
    wp_walk using q1, q2
    trace_state
    exact ⟨_, rfl, h⟩
end Z
end
section
set_option Elab.async false
set_option linter.all false
set_option maxRecDepth 100000
set_option maxHeartbeats 4000000
/-! Zq: zip(text, tuple, strict=True); enumerate of lists and tuples: as walks. -/
namespace Z
open PySem PySem.Spec PyProof.Rows L2 PySem.SeqAt

section
variable {prog : Program} {w : World} {A : Around} {E : Value → Shared → Prop} {s : Shared}
theorem call_zipS {v1 v2 : Value} {o1 o2 : Obj} {H1 H2 : Heap → Prop} {Q : Value → Shared → Prop} (B1 : Begins v1 o1 H1) (B2 : Begins v2 o2 H2) (h1 : H1 s.heap) (h2 : H2 s.heap)
    (h : ∀ h', SZip h' (s.heap.objs.size + 4) (s.heap.objs.size + 2) (s.heap.objs.size + 3) .none → IsTupOf2 h' (s.heap.objs.size + 2) (.ref s.heap.objs.size) (.ref (s.heap.objs.size + 1)) →
      IsTupOf2 h' (s.heap.objs.size + 3) .none .none → h'.get? s.heap.objs.size = some o1 → h'.get? (s.heap.objs.size + 1) = some o2 →
      (∀ c o, s.heap.get? c = some o → h'.get? c = some o) → Q (.ref (s.heap.objs.size + 4)) { s with heap := h' }) :
    wpAny (model prog w) A (call (.type "zip") [v1, v2] [(Str.ofString "strict", .bool true)]) Q E s := by
  refine callType_newKw F.called_zip (by decide) (tc_zipS _ _) (nc_zipS _ _) (fun obj => ar_zipS obj _ _) F.entry_zip_new (meets_zipS B1 B2) ⟨⟨h1, h2⟩, ?_⟩
  have z1 : (s.heap.push o1).objs.size = s.heap.objs.size + 1 := by rw [Heap.size_push]
  have z2 : ((s.heap.push o1).push o2).objs.size = s.heap.objs.size + 2 := by rw [Heap.size_push, z1]
  have zT : (gzT2 s.heap o1 o2).objs.size = s.heap.objs.size + 3 := by rw [Heap.size_push, z2]
  have zO : (gzO2 s.heap o1 o2).objs.size = s.heap.objs.size + 4 := by rw [Heap.size_push, zT]
  have gZ : (zsZ s.heap o1 o2).get? (gzO2 s.heap o1 o2).objs.size = some { cls := .type "zip", data := .fields #[.none, .bool false, .bool true, .ref ((s.heap.push o1).push o2).objs.size, .ref (gzT2 s.heap o1 o2).objs.size] } := Heap.get?_push_size _ rfl
  have gO : (zsZ s.heap o1 o2).get? (gzT2 s.heap o1 o2).objs.size = some { cls := .type "tuple", data := .seq #[.none, .none] } := Heap.get?_push_of_some _ (Heap.get?_push_size _ rfl)
  have gT : (zsZ s.heap o1 o2).get? ((s.heap.push o1).push o2).objs.size = some { cls := .type "tuple", data := .seq #[.ref s.heap.objs.size, .ref (s.heap.push o1).objs.size] } := Heap.get?_push_of_some _ (Heap.get?_push_of_some _ (Heap.get?_push_size _ rfl))
  have g1 : (zsZ s.heap o1 o2).get? s.heap.objs.size = some o1 := Heap.get?_push_of_some _ (Heap.get?_push_of_some _ (Heap.get?_push_of_some _ (Heap.get?_push_of_some _ (Heap.get?_push_size _ B1.free))))
  have g2 : (zsZ s.heap o1 o2).get? (s.heap.push o1).objs.size = some o2 := Heap.get?_push_of_some _ (Heap.get?_push_of_some _ (Heap.get?_push_of_some _ (Heap.get?_push_size _ B2.free)))
  rw [zO, zT, z2] at gZ
  rw [zT] at gO
  rw [z2, z1] at gT
  rw [z1] at g2
  show _ ∧ _
  rw [zO]
  exact ⟨⟨_, gZ, rfl⟩, h _ gZ gT gO g1 g2 fun c o e => Heap.get?_push_of_some _ (Heap.get?_push_of_some _ (Heap.get?_push_of_some _ (Heap.get?_push_of_some _ (Heap.get?_push_of_some _ e))))⟩
/-- a call of a type, with keywords -/
theorem callWith_tyKw {env : Env} {pos : Pos} {ty : String} {e : Expr} {rest : List Expr} {kws : List Keyword} {Q : Value → Shared → Prop} {M : Model}
    (h : wpAny M A (spliced (backTo pos (starEach (e :: rest) env))) (fun vs s₁ => wpAny M A (evalAll ((backToKw pos (keywordEach kws env)).map (·.2)))
      (fun kvs s₂ => wpAny M A (call (.type ty) vs (((backToKw pos (keywordEach kws env)).filterMap (·.1)).zip kvs)) Q E s₂) E s₁) E s)
    (he : backTo pos (starEach (e :: rest) env) = (false, eval e env) :: backTo pos (starEach rest env)) (hplain : (backTo pos (starEach (e :: rest) env)).any (·.1) = false)
    (hall : (backToKw pos (keywordEach kws env)).all (·.1.isSome) = true) (hkw : (backToKw pos (keywordEach kws env)).any (·.1.isNone) = false) :
    wpAny M A (callWith pos (.type ty) [] (backTo pos (starEach (e :: rest) env)) (backToKw pos (keywordEach kws env))) Q E s := by
  have h2 : wpAny M A (evalArgs (.type ty) true (backTo pos (starEach (e :: rest) env)) (backToKw pos (keywordEach kws env))) (fun a s₁ => wpAny M A (call (.type ty) ([] ++ a.pos) a.kw) Q E s₁) E s := by
    rw [he] at h ⊢
    exact evalArgs_kwB hall h
  unfold callWith
  refine wpAny_bind (wpAny_holding (wpAny_mono h2 (fun a s₁ h₁ => wpAny_bind (wpAny_standAt ?_)) fun _ _ x => x))
  simp only [hplain, hkw, Bool.or_false]
  refine wpAny_bind (wpAny_pure ?_)
  exact wpAny_bind (wpAny_mono h₁ (fun r s₂ hr => wpAny_bind (wpAny_holding (wpAny_point (wpAny_pure hr)))) fun _ _ x => x)
end

/-! ### the walk -/
/-- a text and a tuple of one length, pair by pair -/
def Itst (K : PySem.W.Frag) (x : Str) (a : Addr) : It :=
  ⟨fun i H => ∃ ys : List V, SqT K H a ys ∧ x.cps.size = ys.length ∧ i < ys.length,
    fun i H v H' => ∃ (p : Addr) (c : Nat) (y : V), v = .ref p ∧ H p = none ∧ H' = upd H p (.tup [.str ⟨#[c]⟩, y]) ∧ x.cps[i]? = some c ∧ ∀ ys, SqT K H a ys → ys[i]? = some y,
    fun i H => ∃ ys : List V, SqT K H a ys ∧ x.cps.size = ys.length ∧ i = ys.length⟩
theorem turn_zipS {P : Program} {w : World} {K : PySem.W.Frag} {elts : List Expr} {kk : Nat} {tpos : Pos} {a z TI TO i1 i2 : Addr} {x : Str} {t : Tok} (S : ZipSep2 z TI TO i1 i2 [i1] [i2, a]) (hia : a ≠ i2) :
    Turn P w K (.Tuple elts kk tpos) (Itst K x a) [z, TI, TO, i1, i2] z (fun i h => SZip h z TI TO .none ∧ IsTupOf2 h TI (.ref i1) (.ref i2) ∧ (∃ x y, IsTupOf2 h TO x y) ∧ h.IsStrIter i1 (strIterType x) x t i ∧ h.IsTupleIter i2 a i) where
  mem := by simp
  obj := fun i h st c hc => by
    obtain ⟨hz, hTI, ⟨x, y, hTO⟩, h1, ⟨o2, e2, _, d2⟩⟩ := st
    have e' : c = z ∨ c = TI ∨ c = TO ∨ c = i1 ∨ c = i2 := by simpa using hc
    rcases e' with q | q | q | q | q
    · rw [q]; exact ⟨_, hz, fun v q => nomatch q⟩
    · rw [q]; exact ⟨_, hTI, fun v q => nomatch q⟩
    · rw [q]; exact ⟨_, hTO, fun v q => nomatch q⟩
    · rw [q]; obtain ⟨o1, e1, _, d1⟩ := h1; exact ⟨o1, e1, fun v q => by rw [d1] at q; cases q⟩
    · rw [q]; exact ⟨o2, e2, fun v q => by rw [d2] at q; cases q⟩
  keep := fun i h h' st k => by
    obtain ⟨hz, hTI, ⟨x, y, hTO⟩, h1, h2⟩ := st
    exact ⟨k z (by simp) _ hz, k TI (by simp) _ hTI, ⟨x, y, k TO (by simp) _ hTO⟩, (let ⟨o, e, r⟩ := h1; ⟨o, k i1 (by simp) o e, r⟩), h2.at fun o q => k i2 (by simp) o q⟩
  item := by
    intro X hP hw hK hc i pins s σ H E I hf st hg
    subst hP hw hK
    obtain ⟨hz, hTI, ⟨x0, y0, hTO⟩, h1, h2⟩ := st
    obtain ⟨ys, hq, hsz, hi⟩ := hg
    obtain ⟨its, rv, p, _⟩ := I.tuple hq
    have hh := I.ok.hd hc
    have hl : its.toArray.size = x.cps.size := by rw [List.size_toArray, ← rv.length, hsz]
    have D1 := Draws.text (prog := X.prog) (w := X.w) (A := X.A.in1) hh i1 x t
    have D2 := Draws.tuple (prog := X.prog) (w := X.w) (A := X.A.in1) hh i2 a hia its.toArray
    rw [hl] at D2
    have hzl : z < s.heap.objs.size := Heap.lt_size hz
    refine sz_next_item S D1 D2 hz hTI hTO h1 ⟨h2, p⟩ (by rw [hsz]; exact hi) fun x1 x2 h' tk hx1 hx2 z' TO' h1' h2' hT hk => ?_
    obtain ⟨c, u, hc1, rfl⟩ := hx1
    refine ⟨_, rfl, sz_go (s := { s with heap := h', toks := tk }) z' fun h'' z'' sb => ?_⟩
    have hx2' : its[i]? = some x2 := by simpa using hx2
    obtain ⟨y, hy, ry⟩ : ∃ y, ys[i]? = some y ∧ RelV y x2 := by
      have g0 : ys[i]? = some ys[i] := by simp [hi]
      obtain ⟨u2, g1, g2⟩ := rv.get g0
      rw [hx2'] at g1
      cases g1
      exact ⟨_, g0, g2⟩
    have hT2 : h''.get? s.heap.objs.size = some { cls := .type "tuple", data := .seq #[.str ⟨#[c]⟩ u, x2] } := (sb.2 _ (Nat.ne_of_gt hzl)).trans hT
    have new : ObjOk X.prog X.w (upd H s.heap.objs.size (.tup [.str ⟨#[c]⟩, y])) h'' s.heap.objs.size (.tup [.str ⟨#[c]⟩, y]) :=
      ⟨by show 2 ≤ sizeLine; decide, [.str ⟨#[c]⟩ u, x2], .cons ⟨u, rfl⟩ (.cons ry .nil), ⟨_, hT2, rfl, _, rfl⟩⟩
    have I1 : Inv X pins σ (upd H s.heap.objs.size (.tup [.str ⟨#[c]⟩, y])) { s with heap := h'', toks := tk } :=
      I.turnedNew (t' := tk) (ch := [z, TI, TO, i1, i2]) (fun c o hb q => (sb.2 c (fun q' => hb (by simp [q']))).trans (hk c o (fun q' => hb (by simp [q'])) (fun q' => hb (by simp [q'])) (fun q' => hb (by simp [q'])) (fun q' => hb (by simp [q'])) q)) hf (Nat.le_refl _) new
    refine ⟨.ref s.heap.objs.size, _, I1, rfl, ⟨_, c, y, rfl, I.hok.fresh (Nat.le_refl _), rfl, hc1, fun l hl => by rw [I.tuple_inj hl hq]; exact hy⟩, ⟨z'', ?_, ⟨.str ⟨#[c]⟩ u, x2, ?_⟩, ?_, ?_⟩, fun c hcm => ?_⟩
    · exact (sb.2 _ S.TIz).trans (hk _ _ S.TIz S.TITO S.TIi1 S.TIi2 hTI)
    · exact (sb.2 _ S.TOz).trans TO'
    · obtain ⟨o, e, r⟩ := h1'
      exact ⟨o, (sb.2 _ S.zi1.symm).trans e, r⟩
    · exact h2'.1.at fun o q => (sb.2 _ S.zi2.symm).trans q
    · have hlt : c < s.heap.objs.size := by
        have e' : c = z ∨ c = TI ∨ c = TO ∨ c = i1 ∨ c = i2 := by simpa using hcm
        rcases e' with q | q | q | q | q
        · rw [q]; exact hzl
        · rw [q]; exact Heap.lt_size hTI
        · rw [q]; exact Heap.lt_size hTO
        · rw [q]; obtain ⟨_, e1, _⟩ := h1; exact Heap.lt_size e1
        · rw [q]; obtain ⟨_, e2, _⟩ := h2; exact Heap.lt_size e2
      rw [upd_ne (Nat.ne_of_lt hlt)]
      exact (hf c hcm).1
  done := by
    intro X hP hw hK hc i pins s σ H E I hf st hg
    subst hP hw hK
    obtain ⟨hz, hTI, ⟨x0, y0, hTO⟩, h1, h2⟩ := st
    obtain ⟨ys, hq, hsz, hi⟩ := hg
    obtain ⟨its, rv, p, _⟩ := I.tuple hq
    have hh := I.ok.hd hc
    have hl : its.toArray.size = x.cps.size := by rw [List.size_toArray, ← rv.length, hsz]
    have D1 := Draws.text (prog := X.prog) (w := X.w) (A := X.A.in1) hh i1 x t
    have D2 := Draws.tuple (prog := X.prog) (w := X.w) (A := X.A.in1) hh i2 a hia its.toArray
    rw [hl] at D2
    have e : i = x.cps.size := by rw [hsz]; exact hi
    subst e
    exact sz_next_end hh S D1 D2 hz hTI hTO h1 ⟨h2, p⟩ fun h' hk => ⟨rfl, I.turnedL (t' := s.toks) (ch := [z, TI, TO, i1, i2]) (fun c o hb q =>
      hk c o (fun q' => hb (by simp [q'])) (fun q' => hb (by simp [q'])) (fun q' => hb (by simp [q'])) (fun q' => hb (by simp [q'])) q) hf⟩
  self := fun A i s Q E st h => sz_iter st.1 h
def iZipS (K : PySem.W.Frag) (ta : TA) : TI := fun σ H R => ta σ H fun vs H1 => ∃ (x : Str) (a : Addr) (ys : List V), vs = [.str x, .ref a] ∧ SqT K H1 a ys ∧ R (Itst K x a) H1
theorem pi_zipS {X : Cx} {e e2 : Expr} {ta : TA} {p pos tpos p3 p4 : Pos} {j : Nat} {elts : List Expr} {kk : Nat} (hg : Gl X "zip") (hm : X.mg "zip" = none) (ha : PA X [e, e2] ta)
    (he : backTo pos (starEach [e, e2] X.env) = (false, eval e X.env) :: backTo pos (starEach [e2] X.env) := by rfl) (hpl : (backTo pos (starEach [e, e2] X.env)).any (·.1) = false := by rfl) :
    PI X (.Tuple elts kk tpos) (.Call (.Name "zip" p) [e, e2] [⟨some "strict", .Constant (.bool true) j p3, p4⟩] pos) (iZipS X.K ta) := by
  refine ⟨fun pins s σ H R I h => ?_⟩
  refine wpAny_Call_Name_kw (ld_blt I hg hm PyProof.Rows.boot_zip (callWith_tyKw (thn (ha.run pos pins s σ H _ I h) fun us s1 ⟨vs, H1, I1, r1, q1⟩ => ?_) he hpl rfl rfl))
  obtain ⟨x, a, ys, ex, hq, q⟩ := q1
  subst ex
  obtain ⟨u1, u2, rfl, ru, rw2⟩ := vals2 r1
  obtain ⟨t, rfl⟩ := ru
  cases rw2
  have hk : PK X [⟨some "strict", .Constant (.bool true) j p3, p4⟩] (tCons (tC (.bl true)) tNil) := pk_cons pe_bl pk_nil
  refine thn (hk.run pos pins s1 σ H1 (fun zs H2 => zs = [V.bl true] ∧ H2 = H1) I1 ⟨rfl, rfl⟩) fun ws s2 ⟨zs, H2, I2, r2, e1, e2⟩ => ?_
  subst e1 e2
  obtain ⟨b, rfl, rb⟩ := vals1 r2
  cases rb
  obtain ⟨its, rv, pt, _⟩ := I2.tuple hq
  have la : a < s2.heap.objs.size := by obtain ⟨o, e, _⟩ := pt; exact Heap.lt_size e
  show wpAny _ _ (call (.type "zip") [.str x t, .ref a] [(Str.ofString "strict", .bool true)]) _ _ _
  refine call_zipS (begins_text x t) (begins_tuple a its.toArray) trivial pt fun h' hz hTI hTO h1 h2 hk => sz_iter hz ?_
  have I3 : Inv X pins σ H2 { s2 with heap := h' } := I2.kept (t' := s2.toks) hk
  have S : ZipSep2 (s2.heap.objs.size + 4) (s2.heap.objs.size + 2) (s2.heap.objs.size + 3) s2.heap.objs.size (s2.heap.objs.size + 1) [s2.heap.objs.size] [s2.heap.objs.size + 1, a] := zip_sep2 (fp1 := []) (fp2 := [a]) (by simp) (by simpa using la)
  refine ⟨s2.heap.objs.size + 4, [s2.heap.objs.size + 4, s2.heap.objs.size + 2, s2.heap.objs.size + 3, s2.heap.objs.size, s2.heap.objs.size + 1], _, _, H2, rfl, I3, turn_zipS (t := t) S (Nat.ne_of_lt (Nat.lt_succ_of_lt la)), ⟨hz, hTI, ⟨_, _, hTO⟩, ⟨_, h1, rfl, rfl⟩, ⟨_, h2, rfl, rfl⟩⟩, fun c hcm => ?_, q⟩
  have e' : c = s2.heap.objs.size + 4 ∨ c = s2.heap.objs.size + 2 ∨ c = s2.heap.objs.size + 3 ∨ c = s2.heap.objs.size ∨ c = s2.heap.objs.size + 1 := by simpa using hcm
  have hle : s2.heap.objs.size ≤ c := by
    rcases e' with z | z | z | z | z
    · rw [z]; exact Nat.le_add_right _ _
    · rw [z]; exact Nat.le_add_right _ _
    · rw [z]; exact Nat.le_add_right _ _
    · rw [z]; exact Nat.le_refl _
    · rw [z]; exact Nat.le_add_right _ _
  exact I2.fpOk hle (I2.hok.fresh hle)

/-! ### enumerate of a tuple -/
def IteT (K : PySem.W.Frag) (a : Addr) : It :=
  ⟨fun i H => ∃ (xs : List V) (x : V), SqT K H a xs ∧ xs[i]? = some x, fun i H v H' => ∃ p x, v = .ref p ∧ H p = none ∧ H' = upd H p (.tup [.int (i : Nat), x]) ∧ ∀ xs, SqT K H a xs → xs[i]? = some x, fun i H => ∃ xs : List V, SqT K H a xs ∧ xs.length = i⟩
theorem turn_enumT {P : Program} {w : World} {K : PySem.W.Frag} {elts : List Expr} {kk : Nat} {tpos : Pos} {a e it : Addr} (hai : a ≠ it) (hea : e ≠ a) :
    Turn P w K (.Tuple elts kk tpos) (IteT K a) [e, it] e (fun i h => (∃ old, IsEnum h e it ((i : Nat) : Int) old) ∧ h.IsTupleIter it a i ∧ e ≠ it) where
  mem := by simp
  obj := fun i h st b hb => by
    obtain ⟨⟨old, he⟩, ⟨o, ho, hc, hd⟩, _⟩ := st
    have e' : b = e ∨ b = it := by simpa using hb
    rcases e' with z | z
    · rw [z]; exact ⟨_, he, fun v q => nomatch q⟩
    · rw [z]; exact ⟨o, ho, fun v q => by rw [hd] at q; cases q⟩
  keep := fun i h h' st k => let ⟨⟨old, he⟩, hi, hne⟩ := st; ⟨⟨old, k e (by simp) _ he⟩, hi.at fun o q => k it (by simp) o q, hne⟩
  item := by
    intro X hP hw hK hc i pins s σ H E I hf st hg
    subst hP hw hK
    obtain ⟨⟨old, he⟩, hit, hne⟩ := st
    obtain ⟨xs, x, hq, hx⟩ := hg
    obtain ⟨its, rv, p, _⟩ := I.tuple hq
    obtain ⟨u, hu, ru⟩ := rv.get hx
    have hel : e < s.heap.objs.size := Heap.lt_size he
    have hil : it < s.heap.objs.size := by obtain ⟨_, q, _⟩ := hit; exact Heap.lt_size q
    have D := Draws.tuple (prog := X.prog) (w := X.w) (A := X.A.in1) (I.ok.hd hc) it a hai its.toArray
    have hlt : i < its.toArray.size := by
      rw [List.size_toArray]; exact (List.getElem?_eq_some_iff.mp hu).1
    refine wpAny_pyNext_enum_itemC D he ⟨hit, p⟩ hlt hne (by simp [hne, hea]) fun x1 h' tk hx1 ho st' hT hsz hk => ?_
    have e1 : x1 = u := by
      have h2 : its.toArray[i]? = some x1 := hx1
      rw [List.getElem?_toArray, hu] at h2
      exact (Option.some.inj h2).symm
    subst e1
    refine ⟨_, rfl, wpAny_letOwnedTupleGo_enum (s := { s with heap := h', toks := tk + 1 }) ho fun h'' he' sb => ?_⟩
    have hT2 : h''.get? s.heap.objs.size = some { cls := .type "tuple", data := .seq #[.int i tk, x1] } := (sb.2 _ (Nat.ne_of_gt hel)).trans hT
    have new : ObjOk X.prog X.w (upd H s.heap.objs.size (.tup [.int (i : Nat), x])) h'' s.heap.objs.size (.tup [.int (i : Nat), x]) :=
      ⟨by show 2 ≤ sizeLine; decide, [.int i tk, x1], .cons ⟨_, rfl⟩ (.cons ru .nil), ⟨_, hT2, rfl, _, rfl⟩⟩
    have I1 : Inv X pins σ (upd H s.heap.objs.size (.tup [.int (i : Nat), x])) { s with heap := h'', toks := tk + 1 } :=
      I.turnedNew (t' := tk + 1) (ch := [e, it]) (fun b ob hb q => (sb.2 b (fun z => hb (by simp [z]))).trans (hk b ob (fun z => hb (by simp [z])) (fun z => hb (by simp [z])) q)) hf (Nat.le_refl _) new
    refine ⟨.ref s.heap.objs.size, _, I1, rfl, ⟨_, x, rfl, I.hok.fresh (Nat.le_refl _), rfl, fun ys hy => by rw [I.tuple_inj hy hq]; exact hx⟩, ⟨⟨x1, ?_⟩, st'.1.at fun o q => (sb.2 it (Ne.symm hne)).trans q, hne⟩, fun b hb => ?_⟩
    · have e1 : ((i + 1 : Nat) : Int) = (i : Int) + 1 := by omega
      rw [e1]; exact he'
    · have hb' : b < s.heap.objs.size := by
        have e' : b = e ∨ b = it := by simpa using hb
        rcases e' with z | z
        · rw [z]; exact hel
        · rw [z]; exact hil
      rw [upd_ne (Nat.ne_of_lt hb')]
      exact (hf b hb).1
  done := by
    intro X hP hw hK hc i pins s σ H E I hf st hg
    subst hP hw hK
    obtain ⟨⟨old, he⟩, hit, hne⟩ := st
    obtain ⟨xs, hq, hx⟩ := hg
    obtain ⟨its, rv, p, _⟩ := I.tuple hq
    obtain ⟨f0, f1, f2, f3, f4, f5⟩ := hf it (by simp)
    have D := Draws.tuple (prog := X.prog) (w := X.w) (A := X.A.in1) (I.ok.hd hc) it a hai its.toArray
    have e0 : i = its.toArray.size := by rw [List.size_toArray, ← rv.length]; exact hx.symm
    rw [e0] at hit
    exact wpAny_pyNext_enum_endD D he ⟨hit, p⟩ fun h' eb => ⟨rfl, I.turned (t' := s.toks) (fun b o hb q => eb b o hb q) f0 f1 f3 f4 f5⟩
  self := fun A i s Q E st h => let ⟨⟨_, he⟩, _⟩ := st; wpAny_pyIter_enum he h
end Z
end
section
set_option Elab.async false
set_option linter.all false
set_option maxRecDepth 100000
set_option maxHeartbeats 4000000
/-! Zr: enumerate, zip as iterables; for; comprehensions. -/
namespace Z
open PySem PySem.Spec PyProof.Rows L2 PySem.SeqAt

set_option maxHeartbeats 1000000 in
theorem meets_enumB1 {v : Value} {o : Obj} {H : Heap → Prop} (B : Begins v o H) :
    Meets (Builtin.«enumerate.__new__» ⟨[.type "enumerate", v], []⟩) (fun _ R s => H s.heap ∧
      R (.ok (.ret (.ref (s.heap.push o).objs.size))) { s with heap := (s.heap.push o).push { cls := .type "enumerate", data := .fields #[.none, .bool false, .ref s.heap.objs.size, rawInt 0, .none, .none] } }) :=
  .of_wp fun prog w A R s h => by
    obtain ⟨hp, g, d, tk, os⟩ := s; obtain ⟨h1, h⟩ := h
    have hsub := sub_enumerate
    have q1 : ∀ {A' : Around} {E : Value → Shared → Prop} {Q : Value → Shared → Prop}, Q (.ref hp.objs.size) ⟨hp.push o, g, d, tk, os⟩ → wpAny (model prog w) A' (pyIter v) Q E ⟨hp, g, d, tk, os⟩ :=
      fun q => B.iter prog w _ _ ⟨hp, g, d, tk, os⟩ _ h1 q
    wp_walk using q1
    refine wpAny_stack_any fun st => wpAny_pure ?_
    split
    · rename_i c _ _ _ _ _
      cases (c == Value.type "enumerate")
      · wp_walk using q1
        exact ⟨_, rfl, h⟩
      · wp_walk using q1
        exact ⟨_, rfl, h⟩
    · wp_walk using q1
      exact ⟨_, rfl, h⟩
section
variable {prog : Program} {w : World} {A : Around} {E : Value → Shared → Prop} {s : Shared}
theorem call_enumB1 {v : Value} {o : Obj} {H : Heap → Prop} {Q : Value → Shared → Prop} (B : Begins v o H) (h1 : H s.heap)
    (h : ∀ h', IsEnum h' (s.heap.objs.size + 1) s.heap.objs.size 0 .none → h'.get? s.heap.objs.size = some o → (∀ b o, s.heap.get? b = some o → h'.get? b = some o) → Q (.ref (s.heap.objs.size + 1)) { s with heap := h' }) :
    wpAny (model prog w) A (call (.type "enumerate") [v]) Q E s := by
  refine callType_new F.called_enumerate (by decide) (F.typeCall_enumerate_1 _) (F.newCall_enumerate_1 _) (fun obj => F.args_object_init_2 obj _) F.entry_enumerate_new (meets_enumB1 B) ⟨h1, ?_⟩
  have hz : (s.heap.push o).objs.size = s.heap.objs.size + 1 := Heap.size_push ..
  show _ ∧ _
  rw [hz]
  have he : IsEnum ((s.heap.push o).push { cls := .type "enumerate", data := .fields #[.none, .bool false, .ref s.heap.objs.size, rawInt 0, .none, .none] }) (s.heap.objs.size + 1) s.heap.objs.size 0 .none := by
    have := Heap.get?_push_size (s.heap.push o) (o := { cls := .type "enumerate", data := .fields #[.none, .bool false, .ref s.heap.objs.size, rawInt 0, .none, .none] }) rfl
    rw [hz] at this; exact this
  exact ⟨⟨_, he, rfl⟩, h _ he (Heap.get?_push_of_some _ (Heap.get?_push_size _ B.free)) fun b o x => Heap.get?_push_of_some _ (Heap.get?_push_of_some _ x)⟩
end
def iEnumT (K : PySem.W.Frag) (ta : TA) : TI := fun σ H R => ta σ H fun vs H1 => ∃ a xs, vs = [.ref a] ∧ SqT K H1 a xs ∧ R (IteT K a) H1
theorem pi_enumT {X : Cx} {e : Expr} {ta : TA} {p pos tpos : Pos} {elts : List Expr} {kk : Nat} (hg : Gl X "enumerate") (hm : X.mg "enumerate" = none) (ha : PA X [e] ta) (hs : starEach [e] X.env = [(false, eval e X.env)] := by rfl) :
    PI X (.Tuple elts kk tpos) (.Call (.Name "enumerate" p) [e] [] pos) (iEnumT X.K ta) := by
  refine ⟨fun pins s σ H R I h => ?_⟩
  refine Call_ (ld_blt I hg hm boot_enumerate (PyProof.Rows.callWith_type1 (thn (ha.run pos pins s σ H _ I h) fun us s1 ⟨vs, H1, I1, r1, q1⟩ => ?_) hs rfl))
  obtain ⟨a, xs, ex, hq, q⟩ := q1
  subst ex
  obtain ⟨u, rfl, ru⟩ := vals1 r1
  cases ru
  obtain ⟨its, rv, pt, _⟩ := I1.tuple hq
  have la : a < s1.heap.objs.size := by obtain ⟨o, e, _⟩ := pt; exact Heap.lt_size e
  refine call_enumB1 (begins_tuple a its.toArray) pt fun h' he ho hk => wpAny_pyIter_enum he ?_
  have I2 : Inv X pins σ H1 { s1 with heap := h' } := I1.kept (t' := s1.toks) hk
  refine ⟨s1.heap.objs.size + 1, [s1.heap.objs.size + 1, s1.heap.objs.size], _, _, H1, rfl, I2, turn_enumT (Nat.ne_of_lt la) (Nat.ne_of_gt (Nat.lt_succ_of_lt la)), ⟨⟨.none, he⟩, ⟨_, ho, rfl, rfl⟩, Nat.succ_ne_self _⟩, fun b hb => ?_, q⟩
  have e' : b = s1.heap.objs.size + 1 ∨ b = s1.heap.objs.size := by simpa using hb
  have hle : s1.heap.objs.size ≤ b := by
    rcases e' with z | z
    · rw [z]; exact Nat.le_add_right _ _
    · rw [z]; exact Nat.le_refl _
  exact I1.fpOk hle (I1.hok.fresh hle)

section
variable {C : Cfg} {mu : Mu} {H : Hp} {ts : List T} {a : Addr} {vs : List V}
theorem wk_enumT (h : FT C mu H a vs) (r : RepL C mu H ts vs) : WkA C mu H (enumT ts) (IteT C.K a) := fun hid hA i mu2 M2 H2 R2 E2 => by
  have r2 : RepL (C.with hid) mu2 H2 ts vs := (RepL.hide (C := C) (C' := C.with hid) rfl rfl hA r).mono E2
  have sq : SqT C.K H2 a vs := by
    rcases h with h | h
    · exact .inl (.inl (E2.obj a _ h.1 (hA a _ h.1 h.2).1 rfl))
    · exact .inr h
  have hl : (enumT ts).length = ts.length := by unfold enumT; simp
  refine ⟨fun hi => ?_, fun hi => ?_⟩
  · rw [hl] at hi
    obtain ⟨v, g1, g2⟩ := r2.get (i := i) (t := ts[i]) (by simp [hi])
    refine ⟨⟨vs, v, sq, g1⟩, fun x H3 ⟨p, y, hx, hp, e3, hy⟩ => ?_⟩
    subst e3 hx
    have := hy vs sq
    rw [g1] at this
    cases this
    obtain ⟨R3, E3, r3⟩ := tup_ok R2 hp (.cons (.int (i : Nat)) (.cons g2 .nil))
    exact ⟨.tup [.int (i : Nat), ts[i]], by unfold enumT; simp [hi], R3, E3, r3⟩
  · exact ⟨vs, sq, by rw [hi, hl, r.length]⟩
def pairsZ (x : Str) (ts : List T) : List T := List.zipWith (fun c t => T.tup [.str ⟨#[c]⟩, t]) x.cps.toList ts
theorem wk_zipS {x : Str} (h : FT C mu H a vs) (r : RepL C mu H ts vs) (hz : x.cps.size = ts.length) : WkA C mu H (pairsZ x ts) (Itst C.K x a) := fun hid hA i mu2 M2 H2 R2 E2 => by
  have r2 : RepL (C.with hid) mu2 H2 ts vs := (RepL.hide (C := C) (C' := C.with hid) rfl rfl hA r).mono E2
  have sq : SqT C.K H2 a vs := by
    rcases h with h | h
    · exact .inl (.inl (E2.obj a _ h.1 (hA a _ h.1 h.2).1 rfl))
    · exact .inr h
  have hl : (pairsZ x ts).length = ts.length := by unfold pairsZ; simp [hz]
  have hs : x.cps.size = vs.length := by rw [hz, r.length]
  refine ⟨fun hi => ?_, fun hi => ⟨vs, sq, hs, by rw [hi, hl, r.length]⟩⟩
  rw [hl] at hi
  obtain ⟨v, g1, g2⟩ := r2.get (i := i) (t := ts[i]) (by simp [hi])
  refine ⟨⟨vs, sq, hs, by rw [← r.length]; exact hi⟩, fun y H3 ⟨p, c, z, hx, hp, e3, hc, hy⟩ => ?_⟩
  subst e3 hx
  have := hy vs sq
  rw [g1] at this
  cases this
  obtain ⟨R3, E3, r3⟩ := tup_ok R2 hp (.cons (.str ⟨#[c]⟩) (.cons g2 .nil))
  refine ⟨.tup [.str ⟨#[c]⟩, ts[i]], ?_, R3, E3, r3⟩
  unfold pairsZ
  rw [List.getElem?_zipWith, Array.getElem?_toList, hc]
  simp [hi]
end
section
variable {X : Cx} {C : Cfg} {W : WX} {elts : List Expr} {kk : Nat} {tpos : Pos}
def enumW (t : T) : Option (List T) := match t with
  | .tup xs => some (enumT xs)
  | .lst xs => some (enumT xs)
  | .fz xs => some (enumT xs)
  | _ => none
def dEnum (da : DA) : DA := fun s M => (da s M).bind fun ts M1 => match ts with
  | [t] => toA (enumW t) M1
  | _ => .no
theorem i_enum (hK : C.K = X.K) {e : Expr} {da : DA} {p pos : Pos} (hg : Gl X "enumerate") (hm : X.mg "enumerate" = none) (ha : PA X [e] (TAz C W da)) (hs : starEach [e] X.env = [(false, eval e X.env)] := by rfl) :
    PI X (.Tuple elts kk tpos) (.Call (.Name "enumerate" p) [e] [] pos) (iZ C W (dEnum da)) := by
  refine pi_weak (PI.or (pi_enum hg hm ha hs) (pi_enumT hg hm ha hs)) fun σ H R ⟨mu, s, M, R0, S, P⟩ => ?_
  rw [← hK]
  cases e2 : da s M with
  | er e' M1 =>
    refine .inl ⟨mu, s, M, R0, S, ?_⟩
    unfold dEnum at P; rw [e2] at P ⊢; exact P
  | no => unfold dEnum at P; rw [e2] at P; exact P.elim
  | ok ts M1 =>
    unfold dEnum at P
    rw [e2] at P
    simp only [bind_ok] at P
    match ts, e2, P with
    | [t], e2, P =>
      simp only at P
      cases t with
      | tup xs =>
        refine .inr ⟨mu, s, M, R0, S, ?_⟩
        rw [e2]
        intro mu1 x H1 R1 E1 r1
        obtain ⟨y, rfl, ry⟩ := r1.one
        obtain ⟨a, vs, rfl, f, r⟩ := ry.tupI
        exact ⟨a, vs, rfl, f.sq, P mu1 _ H1 R1 E1 (wk_enumT f r)⟩
      | lst xs =>
        refine .inl ⟨mu, s, M, R0, S, ?_⟩
        rw [e2]
        intro mu1 x H1 R1 E1 r1
        obtain ⟨y, rfl, ry⟩ := r1.one
        cases ry with
        | lst f r => exact ⟨_, _, rfl, f.sq, P mu1 _ H1 R1 E1 (wk_enum ⟨_, ⟨f.1, .inl rfl⟩, f.2⟩ r)⟩
      | fz xs =>
        refine .inl ⟨mu, s, M, R0, S, ?_⟩
        rw [e2]
        intro mu1 x H1 R1 E1 r1
        obtain ⟨y, rfl, ry⟩ := r1.one
        cases ry with
        | fz f r => exact ⟨_, _, rfl, .inl (.inr ⟨_, f.1⟩), P mu1 _ H1 R1 E1 (wk_enum ⟨_, ⟨f.1, .inr ⟨_, rfl⟩⟩, f.2⟩ r)⟩
      | non => exact P.elim
      | bl => exact P.elim
      | int => exact P.elim
      | str => exact P.elim
      | ty => exact P.elim
      | ob => exact P.elim
      | ins => exact P.elim
      | cel => exact P.elim
      | dct => exact P.elim
    | [], _, P => exact P.elim
    | _ :: _ :: _, _, P => exact P.elim
def dZipS (da : DA) : DA := fun s M => (da s M).bind fun ts M1 => match ts with
  | [.str x, .tup xs] => if x.cps.size = xs.length then .ok (pairsZ x xs) M1 else .no
  | _ => .no
theorem i_zipS (hK : C.K = X.K) {e e2 : Expr} {da : DA} {p pos p3 p4 : Pos} {j : Nat} (hg : Gl X "zip") (hm : X.mg "zip" = none) (ha : PA X [e, e2] (TAz C W da))
    (he : backTo pos (starEach [e, e2] X.env) = (false, eval e X.env) :: backTo pos (starEach [e2] X.env) := by rfl) (hpl : (backTo pos (starEach [e, e2] X.env)).any (·.1) = false := by rfl) :
    PI X (.Tuple elts kk tpos) (.Call (.Name "zip" p) [e, e2] [⟨some "strict", .Constant (.bool true) j p3, p4⟩] pos) (iZ C W (dZipS da)) := by
  refine pi_weak (pi_zipS hg hm ha he hpl) fun σ H R ⟨mu, s, M, R0, S, P⟩ => ⟨mu, s, M, R0, S, ?_⟩
  unfold dZipS at P
  refine Post.bind P fun ts M1 mu1 xs H1 R1 E1 r1 P1 => ?_
  rw [← hK]
  split at P1
  · rename_i x ys
    obtain ⟨u, v, rfl, ru, rv⟩ := r1.two
    cases ru
    obtain ⟨a, vs, rfl, f, r⟩ := rv.tupI
    split at P1
    · rename_i hz
      exact ⟨x, a, vs, rfl, f.sq, P1 mu1 _ H1 R1 Ext.refl (wk_zipS f r hz)⟩
    · exact P1.elim
  · exact P1.elim

/-! ### for -/
/-- what a turn's item is stored to -/
abbrev DG := T → Sg → Option Sg
def forL (g : DG) (b : DS) : List T → DS
  | [] => fun s M => .nx s M
  | t :: ts => fun s M => match g t s with
    | none => .no
    | some s1 => (match b s1 M with
      | .nx s2 M2 => forL g b ts s2 M2
      | .ct s2 M2 => forL g b ts s2 M2
      | .bk s2 M2 => .nx s2 M2
      | .rt t M2 => .rt t M2
      | .er e s2 M2 => .er e s2 M2
      | .no => .no)
def dFor (di : DA) (g : DG) (b : DS) : DS := fun s M => (di s M).toS s fun ts M1 => forL g b ts s M1
/-- vs: the slots that may change -/
def TGz (C : Cfg) (vs : List Nat) (g : DG) : TG := fun v σ H Q => ∃ mu s M t s', RM C mu M H ∧ RS C mu H s σ ∧ Rep C mu H t v ∧ g t s = some s' ∧ ∀ σ', RS C mu H s' σ' → L2.wipe σ' vs = L2.wipe σ vs → Q σ' H
theorem wipe_set (i : Nat) (x : Option V) : ∀ (vs : List Nat) (σ : L2.St), L2.wipe (σ.set i x) vs = if i ∈ vs then L2.wipe σ vs else (L2.wipe σ vs).set i x
  | [], σ => by simp [L2.wipe]
  | v :: vs, σ => by
    unfold L2.wipe
    rw [wipe_set i x vs σ]
    by_cases h : i ∈ vs
    · rw [if_pos h, if_pos (List.mem_cons_of_mem _ h)]
    · rw [if_neg h]
      by_cases e : i = v
      · subst e
        rw [if_pos (List.mem_cons_self ..), List.set_set]
      · rw [if_neg (by simp [e, h]), List.set_comm _ _ e]
theorem wipe_wipe : ∀ (vs : List Nat) (σ : L2.St) (us : List Nat), (∀ v ∈ vs, v ∈ us) → L2.wipe (L2.wipe σ vs) us = L2.wipe σ us
  | [], _, _, _ => rfl
  | v :: vs, σ, us, h => by
    show L2.wipe ((L2.wipe σ vs).set v none) us = _
    rw [wipe_set, if_pos (h v (List.mem_cons_self ..)), wipe_wipe vs σ us fun w hw => h w (List.mem_cons_of_mem _ hw)]
theorem pg_weak {e : Expr} {t t' : TG} (h : PG X e t) (w : ∀ v σ H Q, t' v σ H Q → t v σ H Q) : PG X e t' := ⟨fun pins s σ H v u Q I r q => h.run pins s σ H v u Q I r (w v σ H Q q)⟩
def gN (i : Nat) : DG := fun t s => some (s.set i (some t))
theorem g_name {i : Nat} {x : Str} {pos : Pos} (hN : X.N.Nodup) (hi : X.N[i]? = some x) (hx : Loc X.env.scope x) (hf : X.fn x = true ∨ X.env.scope.names.lookup x = some .local) {vs : List Nat} (hv : i ∈ vs) : PG X (.Name x pos) (TGz C vs (gN i)) :=
  pg_weak (pg_name hN hi hx hf) fun v σ H Q ⟨mu, s, M, t, s', R, S, r, e, q⟩ => by
    cases e
    exact q _ (S.set i r) (by rw [wipe_set, if_pos hv])
abbrev DGs := List T → Sg → Option Sg
def TGsz (C : Cfg) (ws : List Nat) (g : DGs) : TGs := fun vs σ H Q => ∃ mu s M ts s', RM C mu M H ∧ RS C mu H s σ ∧ RepL C mu H ts vs ∧ g ts s = some s' ∧ ∀ σ', RS C mu H s' σ' → L2.wipe σ' ws = L2.wipe σ ws → Q σ' H
theorem pgs_weak {e : List Expr} {t t' : TGs} (h : PGs X e t) (w : ∀ v σ H Q, t' v σ H Q → t v σ H Q) : PGs X e t' := ⟨fun pins s σ H v u Q I r q => h.run pins s σ H v u Q I r (w v σ H Q q)⟩
def gsNil : DGs := fun ts s => match ts with
  | [] => some s
  | _ => none
def gsCons (g : DG) (gs : DGs) : DGs := fun ts s => match ts with
  | t :: r => (match g t s with
    | some s1 => gs r s1
    | none => none)
  | _ => none
theorem gs_nil {ws : List Nat} : PGs X [] (TGsz C ws gsNil) := pgs_weak pgs_nil fun vs σ H Q ⟨mu, s, M, ts, s', R, S, r, e, q⟩ => by
  cases r with
  | nil => cases e; exact ⟨rfl, q _ S rfl⟩
  | cons => cases e
theorem gs_cons {ws : List Nat} {e : Expr} {es : List Expr} {g : DG} {gs : DGs} (h1 : PG X e (TGz C ws g)) (h2 : PGs X es (TGsz C ws gs)) (hs : (assignEach (e :: es) X.env).map (·.2) = assign e X.env :: (assignEach es X.env).map (·.2) := by rfl) : PGs X (e :: es) (TGsz C ws (gsCons g gs)) :=
  pgs_weak (pgs_cons h1 h2 hs) fun vs σ H Q ⟨mu, s, M, ts, s', R, S, r, e, q⟩ => by
    cases r with
    | nil => cases e
    | @cons t v ts vs h r =>
      unfold gsCons at e
      simp only at e
      split at e
      · rename_i s1 e1
        exact ⟨v, vs, rfl, mu, s, M, t, s1, R, S, h, e1, fun σ' S' hw => ⟨mu, s1, M, ts, s', R, S', r, e, fun σ2 S2 hw2 => q σ2 S2 (hw2.trans hw)⟩⟩
      · cases e
def gTup (gs : DGs) : DG := fun t s => match t with
  | .tup ts => gs ts s
  | _ => none
/-- the target's size -/
theorem g_tup (hK : C.K = X.K) {es : List Expr} {k : Nat} {pos : Pos} {gs : DGs} {n : Nat} (hc : X.calm = true) {ws : List Nat} (h : PGs X es (TGsz C ws gs)) (hn : (assignEach es X.env).length = n) (hgs : ∀ ts s s', gs ts s = some s' → ts.length = n)
    (hst : (assignEach es X.env).findIdx? (·.1) = none := by rfl) : PG X (.Tuple es k pos) (TGz C ws (Z.gTup gs)) :=
  pg_weak (pg_tup hc h hn hst) fun v σ H Q ⟨mu, s, M, t, s', R, S, r, e, q⟩ => by
    unfold Z.gTup at e
    split at e
    · rename_i ts
      obtain ⟨a, vs, rfl, f, rl⟩ := r.tupI
      exact ⟨a, vs, rfl, hK ▸ f.sq, by rw [← rl.length]; exact hgs _ _ _ e, mu, s, M, ts, s', R, S, rl, e, q⟩
    · cases e
theorem gsCons_len {g : DG} {gs : DGs} {n : Nat} (h : ∀ ts s s', gs ts s = some s' → ts.length = n) : ∀ ts s s', gsCons g gs ts s = some s' → ts.length = n + 1 := fun ts s s' e => by
  unfold gsCons at e
  split at e
  · split at e
    · rename_i h1
      rw [List.length_cons, h _ _ _ e]
    · cases e
  · cases e
theorem gsNil_len : ∀ ts s s', gsNil ts s = some s' → ts.length = 0 := fun ts s s' e => by
  unfold gsNil at e
  split at e
  · rfl
  · cases e
theorem s_for {ws : List Nat} {tg iter : Expr} {body : List Stmt} {di : DA} {g : DG} {b : DS} {pos : Pos} (hp : PassesOwn (model X.prog X.w) X.A X.env X.xe) (hc : X.calm = true) (hi : PI X tg iter (iZ C W di)) (hg : PG X tg (TGz C ws g)) (hb : PSs X body (TSz C W b))
    (hs : ∀ x, foldedSetIterable iter X.env x = pure x := by intro _; rfl) : PS X (.For tg iter body [] pos) (TSz C W (dFor di g b)) :=
  ps_weak (ps_for hp hc hi hg hb hs) fun D σ H ⟨mu, s, M, R, S, P⟩ => ⟨mu, s, M, R, S, PostS.bind P S fun ts M1 mu1 J H1 R1 E1 w P1 => by
    refine ⟨fun i m σ H => i + m = ts.length ∧ ∃ mu s M, RM C mu M H ∧ RS C mu H s σ ∧ Ext C mu1 H1 mu H ∧ PostS C mu H (forL g b (ts.drop i) s M) D W, ⟨ts.length, by omega, mu1, s, M1, R1, S.mono E1, Ext.refl, P1⟩, fun i m σ H ⟨hm, mu2, s2, M2, R2, S2, E2, P2⟩ => ?_⟩
    have wk := w C.hid (fun a o _ n => n) i mu2 M2 H R2 E2
    cases m with
    | zero =>
      have e : i = ts.length := by omega
      rw [e, List.drop_length] at P2
      exact .inl ⟨wk.2 e, P2 mu2 σ H R2 Ext.refl S2⟩
    | succ m =>
      have hlt : i < ts.length := by omega
      obtain ⟨hgo, hy⟩ := wk.1 hlt
      refine .inr ⟨hgo, fun σ' H' => (i + 1) + m = ts.length ∧ ∃ mu s M, RM C mu M H' ∧ RS C mu H' s σ' ∧ Ext C mu1 H1 mu H' ∧ PostS C mu H' (forL g b (ts.drop (i + 1)) s M) D W, fun σ' H' h => ⟨m, Nat.lt_succ_self m, h⟩, fun x H3 hyl => ?_⟩
      obtain ⟨t, ht, R3, E3, r3⟩ := hy x H3 hyl
      have ed : ts.drop i = t :: ts.drop (i + 1) := by
        rw [List.drop_eq_getElem_cons hlt]
        congr 1
        rw [List.getElem?_eq_getElem hlt] at ht
        exact Option.some.inj ht
      rw [ed] at P2
      unfold forL at P2
      cases eg : g t s2 with
      | none => simp only [eg] at P2; exact P2.elim
      | some s3 =>
        simp only [eg] at P2
        refine ⟨mu2, s2, M2, t, s3, R3, S2.mono E3, r3, eg, fun σ' S' _ => ⟨mu2, s3, M2, R3, S', ?_⟩⟩
        have hE := E2.trans E3
        have P3 := PostS.ext P2 E3
        cases eb : b s3 M2 with
        | nx s4 M4 => rw [eb] at P3; exact fun mu4 σ4 H4 R4 E4 S4 => ⟨by omega, mu4, s4, M4, R4, S4, hE.trans E4, PostS.ext P3 E4⟩
        | ct s4 M4 => rw [eb] at P3; exact fun mu4 σ4 H4 R4 E4 S4 => ⟨by omega, mu4, s4, M4, R4, S4, hE.trans E4, PostS.ext P3 E4⟩
        | bk s4 M4 => rw [eb] at P3; exact P3
        | rt t4 M4 => rw [eb] at P3; exact P3
        | er e4 s4 M4 => rw [eb] at P3; exact P3
        | no => rw [eb] at P3; exact P3⟩
end
end Z
end
section
set_option Elab.async false
set_option linter.all false
set_option maxRecDepth 100000
set_option maxHeartbeats 4000000
/-! Zs: comprehensions. -/
namespace Z
open PySem PySem.Spec PyProof.Rows L2 PySem.SeqAt

/-! ### a hidden object: the list that grows -/
abbrev Cfg.and (C : Cfg) (D : Addr) : Cfg := C.with fun a => C.hid a ∨ a = D
section
variable {C : Cfg} {mu mu' : Mu} {M : Mem} {H H' : Hp} {D : Addr} {o : HO}
theorem hA_new (hD : H D = none) : ∀ (a : Addr) (o : HO), H a = some o → Av C mu a → Av (C.and D) mu a := fun a o e n => ⟨n.1, fun z => z.elim n.2 fun q => by rw [q, hD] at e; cases e⟩
theorem hA_out : ∀ (a : Addr) (o : HO), H a = some o → Av (C.and D) mu a → Av C mu a := fun a o _ n => ⟨n.1, fun z => n.2 (.inl z)⟩
theorem CU.hide {C' : Cfg} (hK : C'.K = C.K) (hg : C'.ga = C.ga) (hA : ∀ (a : Addr) (o : HO), H a = some o → Av C mu a → Av C' mu a) : ∀ {t : T} {u : HO}, CU C mu H t u → CU C' mu H t u := fun {t u} h => by
  unfold CU at h ⊢
  split at h
  · exact RepL.hide (C := C) (C' := C') hK hg hA h
  · exact RepD.hide (C := C) (C' := C') hK hg hA h
  · exact ⟨by rw [hg]; exact h.1, RepF.hide (C := C) (C' := C') hK hg hA h.2⟩
  · exact h.elim
theorem Ext.hideNew (x : Ext C mu H mu' H') (hD : H D = none) : Ext (C.and D) mu H mu' H' := ⟨x.len, x.keep, x.rd, x.obj, fun a o e n z => z.elim (x.hid a o e n) (fun q => by rw [q, hD] at e; cases e), x.own⟩
theorem Ext.unhide (x : Ext (C.and D) mu H mu' H') : Ext C mu H mu' H' := ⟨x.len, x.keep, x.rd, x.obj, fun a o e n z => x.hid a o e n (.inl z), x.own⟩
theorem RM.hideNew (R : RM C mu M H) (hD : H D = none) : RM (C.and D) mu M (upd H D o) := by
  have E : Ext (C.and D) mu H mu (upd H D o) := Ext.new hD
  have k : ∀ b q, H b = some q → upd H D o b = some q := fun b q e => by rw [upd_ne (ne_of_none e hD)]; exact e
  refine ⟨R.len, fun i t h => ?_, fun i t h => ?_, R.dead, R.inj, fun a z => ?_, fun a ha z => ?_⟩
  · obtain ⟨a, u, h1, h2, h3⟩ := R.cell i t h
    exact ⟨a, u, h1, k a u h2, (CU.hide (C := C) (C' := C.and D) rfl rfl (hA_new hD) h3).mono E⟩
  · obtain ⟨a, od, u, h1, h2, h3⟩ := R.lock i t h
    exact ⟨a, od, u, h1, k a _ h2, (CU.hide (C := C) (C' := C.and D) rfl rfl (hA_new hD) h3).mono E⟩
  · rcases z with z | z
    · obtain ⟨q, e⟩ := R.hid a z
      exact ⟨q, k a q e⟩
    · exact ⟨o, by rw [z]; exact upd_same⟩
  · rcases z with z | z
    · exact R.nh a ha z
    · subst z; exact R.fresh hD ha
theorem RM.unhide (R : RM (C.and D) mu M H) : RM C mu M H :=
  ⟨R.len, fun i t h => let ⟨a, u, h1, h2, h3⟩ := R.cell i t h; ⟨a, u, h1, h2, CU.hide (C := C.and D) (C' := C) rfl rfl hA_out h3⟩,
    fun i t h => let ⟨a, od, u, h1, h2, h3⟩ := R.lock i t h; ⟨a, od, u, h1, h2, CU.hide (C := C.and D) (C' := C) rfl rfl hA_out h3⟩, R.dead, R.inj, fun a z => R.hid a (.inl z), fun a ha z => R.nh a ha (.inl z)⟩
theorem Ext.updNew (x : Ext C mu H mu' H') (hD : H D = none) : Ext C mu H mu' (upd H' D o) := by
  have k : ∀ b q u, H b = some q → H' b = some u → upd H' D o b = some u := fun b q u e h => by rw [upd_ne (ne_of_none e hD)]; exact h
  refine ⟨x.len, x.keep, fun a u h n => ?_, fun a q e n d => k a q q e (x.obj a q e n d), fun a q e n d => k a q q e (x.hid a q e n d), x.own⟩
  obtain ⟨q, e⟩ := Rd.some_ h
  rcases x.rd a u h n with r | ⟨o', r⟩
  · exact .inl (k a q _ e r)
  · exact .inr ⟨o', k a q _ e r⟩
/-! a hidden object is written: what is read stays -/
theorem upd_hid (hh : C.hid D) {a : Addr} {q : HO} (h : H a = some q) (n : Av C mu a) : upd H D o a = some q := by rw [upd_ne (fun z => n.2 (by rw [z]; exact hh))]; exact h
theorem rd_hid (hh : C.hid D) {a : Addr} {q : HO} (h : Rd H a q) (n : Av C mu a) : Rd (upd H D o) a q := by
  rcases h with h | ⟨x, h⟩
  · exact .inl (upd_hid hh h n)
  · exact .inr ⟨x, upd_hid hh h n⟩
mutual
theorem Rep.updH (hh : C.hid D) : ∀ {t : T} {v : V}, Rep C mu H t v → Rep C mu (upd H D o) t v
  | _, _, .non => .non
  | _, _, .bl b => .bl b
  | _, _, .int i => .int i
  | _, _, .str x => .str x
  | _, _, .ty n => .ty n
  | _, _, .ob x => .ob x
  | _, _, .tup h r => .tup (h.elim (fun q => .inl ⟨upd_hid hh q.1 q.2, q.2⟩) .inr) (RepL.updH hh r)
  | _, _, .lst h r => .lst ⟨upd_hid hh h.1 h.2, h.2⟩ (RepL.updH hh r)
  | _, _, .fz h r => .fz ⟨upd_hid hh h.1 h.2, h.2⟩ (RepL.updH hh r)
  | _, _, .dct h r => .dct ⟨rd_hid hh h.1 h.2, h.2⟩ (RepD.updH hh r)
  | _, _, .ins h r => .ins ⟨rd_hid hh h.1 h.2, h.2⟩ (RepF.updH hh r)
  | _, _, .cel h q => .cel h q
theorem RepL.updH (hh : C.hid D) : ∀ {t : List T} {v : List V}, RepL C mu H t v → RepL C mu (upd H D o) t v
  | _, _, .nil => .nil
  | _, _, .cons h r => .cons (Rep.updH hh h) (RepL.updH hh r)
theorem RepD.updH (hh : C.hid D) : ∀ {t : List (Str × T)} {v : List (Key × V)}, RepD C mu H t v → RepD C mu (upd H D o) t v
  | _, _, .nil => .nil
  | _, _, .cons h r => .cons (Rep.updH hh h) (RepD.updH hh r)
theorem RepF.updH (hh : C.hid D) : ∀ {t : List (Str × T)} {v : List (Str × V)}, RepF C mu H t v → RepF C mu (upd H D o) t v
  | _, _, .nil => .nil
  | _, _, .cons h r => .cons (Rep.updH hh h) (RepF.updH hh r)
end
theorem RM.updH (hh : C.hid D) (R : RM C mu M H) : RM C mu M (upd H D o) := by
  have k : ∀ b q, some b ∈ mu → H b = some q → upd H D o b = some q := fun b q hb e => by rw [upd_ne (fun z => R.nh b hb (by rw [z]; exact hh))]; exact e
  have cu : ∀ {t : T} {u : HO}, CU C mu H t u → CU C mu (upd H D o) t u := fun {t u} h => by
    unfold CU at h ⊢
    split at h
    · exact RepL.updH hh h
    · exact RepD.updH hh h
    · exact ⟨h.1, RepF.updH hh h.2⟩
    · exact h.elim
  refine ⟨R.len, fun i t h => ?_, fun i t h => ?_, R.dead, R.inj, fun a z => ?_, R.nh⟩
  · obtain ⟨a, u, h1, h2, h3⟩ := R.cell i t h
    exact ⟨a, u, h1, k a u (List.mem_of_getElem? h1) h2, cu h3⟩
  · obtain ⟨a, od, u, h1, h2, h3⟩ := R.lock i t h
    exact ⟨a, od, u, h1, k a _ (List.mem_of_getElem? h1) h2, cu h3⟩
  · by_cases e : a = D
    · subst e; exact ⟨o, upd_same⟩
    · obtain ⟨q, h⟩ := R.hid a z
      exact ⟨q, by rw [upd_ne e]; exact h⟩
/-! more cells, others hidden -/
section
variable {C' : Cfg}
mutual
theorem Rep.mv (hK : C'.K = C.K) (hg : C'.ga = C.ga) (hl : mu.length ≤ mu'.length) (hk : ∀ (i : Nat) (a : Addr), i < mu.length → mu'[i]? = some (some a) → mu[i]? = some (some a)) (hA : ∀ (a : Addr) (o : HO), H a = some o → Av C mu a → Av C' mu' a) : ∀ {t : T} {v : V}, Rep C mu H t v → Rep C' mu' H t v
  | _, _, .non => .non
  | _, _, .bl b => .bl b
  | _, _, .int i => .int i
  | _, _, .str x => .str x
  | _, _, .ty n => .ty n
  | _, _, .ob x => by rw [← hg]; exact .ob x
  | _, _, .tup h r => .tup (by
      rcases h with h | h
      · exact .inl ⟨h.1, hA _ _ h.1 h.2⟩
      · rw [← hK] at h; exact .inr h) (RepL.mv hK hg hl hk hA r)
  | _, _, .lst h r => .lst ⟨h.1, hA _ _ h.1 h.2⟩ (RepL.mv hK hg hl hk hA r)
  | _, _, .fz h r => .fz ⟨h.1, hA _ _ h.1 h.2⟩ (RepL.mv hK hg hl hk hA r)
  | _, _, .dct h r => .dct ⟨h.1, Av.chg hA h.1 h.2⟩ (RepD.mv hK hg hl hk hA r)
  | _, _, .ins h r => .ins (by rw [hg]; exact ⟨h.1, Av.chg hA h.1 h.2⟩) (RepF.mv hK hg hl hk hA r)
  | _, _, .cel h q => .cel (Nat.lt_of_lt_of_le h hl) fun a e => q a (hk _ a h e)
theorem RepL.mv (hK : C'.K = C.K) (hg : C'.ga = C.ga) (hl : mu.length ≤ mu'.length) (hk : ∀ (i : Nat) (a : Addr), i < mu.length → mu'[i]? = some (some a) → mu[i]? = some (some a)) (hA : ∀ (a : Addr) (o : HO), H a = some o → Av C mu a → Av C' mu' a) : ∀ {t : List T} {v : List V}, RepL C mu H t v → RepL C' mu' H t v
  | _, _, .nil => .nil
  | _, _, .cons h r => .cons (Rep.mv hK hg hl hk hA h) (RepL.mv hK hg hl hk hA r)
theorem RepD.mv (hK : C'.K = C.K) (hg : C'.ga = C.ga) (hl : mu.length ≤ mu'.length) (hk : ∀ (i : Nat) (a : Addr), i < mu.length → mu'[i]? = some (some a) → mu[i]? = some (some a)) (hA : ∀ (a : Addr) (o : HO), H a = some o → Av C mu a → Av C' mu' a) : ∀ {t : List (Str × T)} {v : List (Key × V)}, RepD C mu H t v → RepD C' mu' H t v
  | _, _, .nil => .nil
  | _, _, .cons h r => .cons (Rep.mv hK hg hl hk hA h) (RepD.mv hK hg hl hk hA r)
theorem RepF.mv (hK : C'.K = C.K) (hg : C'.ga = C.ga) (hl : mu.length ≤ mu'.length) (hk : ∀ (i : Nat) (a : Addr), i < mu.length → mu'[i]? = some (some a) → mu[i]? = some (some a)) (hA : ∀ (a : Addr) (o : HO), H a = some o → Av C mu a → Av C' mu' a) : ∀ {t : List (Str × T)} {v : List (Str × V)}, RepF C mu H t v → RepF C' mu' H t v
  | _, _, .nil => .nil
  | _, _, .cons h r => .cons (Rep.mv hK hg hl hk hA h) (RepF.mv hK hg hl hk hA r)
end
theorem CU.mv (hK : C'.K = C.K) (hg : C'.ga = C.ga) (hl : mu.length ≤ mu'.length) (hk : ∀ (i : Nat) (a : Addr), i < mu.length → mu'[i]? = some (some a) → mu[i]? = some (some a)) (hA : ∀ (a : Addr) (o : HO), H a = some o → Av C mu a → Av C' mu' a) {t : T} {u : HO} (h : CU C mu H t u) : CU C' mu' H t u := by
  unfold CU at h ⊢
  split at h
  · exact RepL.mv hK hg hl hk hA h
  · exact RepD.mv hK hg hl hk hA h
  · exact ⟨by rw [hg]; exact h.1, RepF.mv hK hg hl hk hA h.2⟩
  · exact h.elim
end
theorem app_keep : ∀ (i : Nat) (a : Addr), i < mu.length → (mu ++ [some D])[i]? = some (some a) → mu[i]? = some (some a) := fun i a hi q => by rw [List.getElem?_append_left hi] at q; exact q
theorem hA_app : ∀ (a : Addr) (o : HO), H a = some o → Av (C.and D) mu a → Av C (mu ++ [some D]) a := fun a o _ n => ⟨fun z => by
  rcases List.mem_append.mp z with z | z
  · exact n.1 z
  · have e : a = D := by simpa using z
    exact n.2 (.inr e), fun z => n.2 (.inl z)⟩
/-- the hidden object becomes the caller's own: a cell -/
theorem RM.adopt {t : T} {u : HO} (R : RM (C.and D) mu M H) (hD : H D = some u) (nD : ¬ C.hid D) (c : CU (C.and D) mu H t u) : RM C (mu ++ [some D]) (M ++ [.live t]) H := by
  have nm : some D ∉ mu := fun z => R.nh D z (.inr rfl)
  have cm : ∀ {t : T} {u : HO}, CU (C.and D) mu H t u → CU C (mu ++ [some D]) H t u := fun {t u} h => CU.mv (C := C.and D) (C' := C) (mu := mu) (mu' := mu ++ [some D]) rfl rfl (by simp) app_keep hA_app h
  have lem : ∀ (i : Nat) (x : Cell), (M ++ [Cell.live t])[i]? = some x → (M[i]? = some x) ∨ (i = M.length ∧ x = .live t) := fun i x q => by
    by_cases hi : i < M.length
    · rw [List.getElem?_append_left hi] at q; exact .inl q
    · rw [List.getElem?_append_right (Nat.le_of_not_lt hi)] at q
      by_cases h0 : i - M.length = 0
      · rw [h0] at q
        have q' : Cell.live t = x := by simpa using q
        exact .inr ⟨by omega, q'.symm⟩
      · have : ([Cell.live t] : List Cell)[i - M.length]? = none := by rw [List.getElem?_eq_none_iff]; simp; omega
        rw [this] at q; cases q
  have old : ∀ (i : Nat) (a : Option Addr), mu[i]? = some a → (mu ++ [some D])[i]? = some a := fun i a q => by
    rw [List.getElem?_append_left (List.getElem?_eq_some_iff.mp q).1]; exact q
  have cas : ∀ (b : Addr) (i : Nat), (mu ++ [some D])[i]? = some (some b) → mu[i]? = some (some b) ∨ (i = mu.length ∧ b = D) := fun b i q => by
    by_cases hi : i < mu.length
    · rw [List.getElem?_append_left hi] at q; exact .inl q
    · rw [List.getElem?_append_right (Nat.le_of_not_lt hi)] at q
      by_cases h0 : i - mu.length = 0
      · rw [h0] at q
        have q' : D = b := by simpa using q
        exact .inr ⟨by omega, q'.symm⟩
      · have : ([some D] : List (Option Addr))[i - mu.length]? = none := by rw [List.getElem?_eq_none_iff]; simp; omega
        rw [this] at q; cases q
  refine ⟨by simp [R.len], fun i t' q => ?_, fun i t' q => ?_, fun i q => ?_, fun i j b h1 h2 => ?_, fun a ha => R.hid a (.inl ha), fun a ha hh => ?_⟩
  · rcases lem i _ q with q | ⟨ei, q⟩
    · obtain ⟨b, w', h1, h2, h3⟩ := R.cell i t' q
      exact ⟨b, w', old _ _ h1, h2, cm h3⟩
    · injection q with q
      subst q
      exact ⟨D, u, by rw [ei, ← R.len]; simp, hD, cm c⟩
  · rcases lem i _ q with q | ⟨_, q⟩
    · obtain ⟨b, od, w', h1, h2, h3⟩ := R.lock i t' q
      exact ⟨b, od, w', old _ _ h1, h2, cm h3⟩
    · cases q
  · rcases lem i _ q with q | ⟨_, q⟩
    · exact old _ _ (R.dead i q)
    · cases q
  · rcases cas b i h1 with h1 | ⟨h1, e1⟩
    · rcases cas b j h2 with h2 | ⟨h2, e2⟩
      · exact R.inj i j b h1 h2
      · rw [e2] at h1; exact absurd (List.mem_of_getElem? h1) nm
    · rcases cas b j h2 with h2 | ⟨h2, e2⟩
      · rw [e1] at h2; exact absurd (List.mem_of_getElem? h2) nm
      · omega
  · rcases List.mem_append.mp ha with z | z
    · exact R.nh a z (.inl hh)
    · have e2 : a = D := by simpa using z
      subst e2
      exact nD hh
theorem Ext.adopt (x : Ext C mu H mu' H') (hD : H D = none) : Ext C mu H (mu' ++ [some D]) H' :=
  ⟨by have := x.len; simp; omega, fun i a hi q => x.keep i a hi (app_keep i a (Nat.lt_of_lt_of_le hi x.len) q), x.rd, x.obj, x.hid, fun a o e n z => by
    rcases List.mem_append.mp z with z | z
    · exact x.own a o e n z
    · have e2 : a = D := by simpa using z
      rw [e2, hD] at e; cases e⟩
/-- at the end: a new object, a cell or a frozen value -/
theorem mk_hid (m : Bool) {mu1 : Mu} {H1 : Hp} {t : T} {u : HO} (R : RM (C.and D) mu M H) (x : Ext C mu1 H1 mu H) (h1 : H1 D = none) (nD : ¬ C.hid D) (hD : H D = some u) (c : CU (C.and D) mu H t u) :
    ∃ mu', RM C mu' (mk m t M).2 H ∧ Ext C mu1 H1 mu' H ∧ Rep C mu' H (mk m t M).1 (.ref D) := by
  cases m with
  | true =>
    refine ⟨mu ++ [some D], R.adopt hD nD c, x.adopt h1, .cel (by rw [← R.len]; simp) fun a h => ?_⟩
    rw [← R.len] at h
    have : some D = some a := by simpa using h
    rw [Option.some.inj this]
  | false =>
    have av : Av C mu D := ⟨fun z => R.nh D z (.inr rfl), nD⟩
    have c' : CU C mu H t u := CU.hide (C := C.and D) (C' := C) rfl rfl hA_out c
    refine ⟨mu, R.unhide, x, ?_⟩
    unfold CU at c'
    split at c'
    · exact .lst ⟨hD, av⟩ c'
    · exact .dct ⟨.inl hD, av⟩ c'
    · obtain ⟨e, c'⟩ := c'
      subst e
      exact .ins ⟨.inl hD, av⟩ c'
    · exact c'.elim
end
end Z
end
section
set_option Elab.async false
set_option linter.all false
set_option maxRecDepth 100000
set_option maxHeartbeats 4000000
/-! Zt: list and dict comprehensions. -/
namespace Z
open PySem PySem.Spec PyProof.Rows L2 PySem.SeqAt

def Out.noEr {α : Type} (o : Out α) : Out α := match o with
  | .er _ _ => .no
  | o => o
def wipeS (s : Sg) : List Nat → Sg
  | [] => s
  | v :: vs => (wipeS s vs).set v none
def lcL (g : DG) (tt : DT) (de : DE) (s0 : Sg) : List T → Mem → Out (List T)
  | [], M => .ok [] M
  | t :: ts, M => match g t s0 with
    | none => .no
    | some s1 => (tt s1 M).noEr.bind fun k M1 => if k = true then (de s1 M1).noEr.bind fun y M2 => (lcL g tt de s0 ts M2).bind fun ys M3 => .ok (y :: ys) M3 else lcL g tt de s0 ts M1
def dLc (m : Bool) (di : DA) (g : DG) (tt : DT) (de : DE) (vs : List Nat) : DE := fun s M => (di s M).bind fun ts M1 => if ts.length ≤ LIM then (lcL g tt de (wipeS s vs) ts M1).bind fun ys M2 => lift (some (mk m (.lst ys) M2)) else .no
def dcL (g : DG) (tt : DT) (dk de : DE) (s0 : Sg) : List T → List (Str × T) → Mem → Out (List (Str × T))
  | [], ks, M => .ok ks M
  | t :: ts, ks, M => match g t s0 with
    | none => .no
    | some s1 => (tt s1 M).noEr.bind fun k M1 => if k = true then (dk s1 M1).noEr.bind fun x M2 => (de s1 M2).noEr.bind fun y M3 => match x with
        | .str z => if ks.length < LIM then dcL g tt dk de s0 ts (putT ks z y) M3 else .no
        | _ => .no
      else dcL g tt dk de s0 ts ks M1
def dDc (m : Bool) (di : DA) (g : DG) (tt : DT) (dk de : DE) (vs : List Nat) : DE := fun s M => (di s M).bind fun ts M1 => (dcL g tt dk de (wipeS s vs) ts [] M1).bind fun ks M2 => lift (some (mk m (.dct ks) M2))
def WF : WX := fun _ _ _ _ => False
theorem RS.wipes {C : Cfg} {mu : Mu} {H : Hp} {s : Sg} {σ : L2.St} (R : RS C mu H s σ) : ∀ vs : List Nat, RS C mu H (wipeS s vs) (L2.wipe σ vs)
  | [] => R
  | v :: vs => (R.wipes vs).wipe v
theorem RS.hideNew {C : Cfg} {mu : Mu} {H : Hp} {s : Sg} {σ : L2.St} {D : Addr} (R : RS C mu H s σ) (hD : H D = none) : RS (C.and D) mu H s σ :=
  ⟨R.len, fun i t h => let ⟨v, a, b⟩ := R.at_ i t h; ⟨v, a, Rep.hide (C := C) (C' := C.and D) rfl rfl (hA_new hD) b⟩⟩
def tYesD : DT := fun _ M => .ok true M
section
variable {X : Cx} {C : Cfg} {W : WX}
/-- what is wanted at the end, K of the answer -/
def Fin {α : Type} (o : Out α) (K : α → Mem → Prop) : Prop := match o with
  | .ok a M => K a M
  | _ => False
theorem Fin.bind {α β γ : Type} {C' : Cfg} {mu : Mu} {H : Hp} {o : Out α} {f : α → Mem → Out β} {K : β → Mem → Prop} {Rel : Mu → Hp → α → γ → Prop} {kO : γ → Hp → Prop} {σ : L2.St} (h : Fin (o.noEr.bind f) K)
    (step : ∀ a M1 mu1 b H1, RM C' mu1 M1 H1 → Ext C' mu H mu1 H1 → Rel mu1 H1 a b → Fin (f a M1) K → kO b H1) : Post C' mu H o Rel kO fun c d H' => WF c d σ H' := by
  cases o with
  | ok a M => exact fun mu' b H' r e q => step a M mu' b H' r e q h
  | er e M => exact False.elim h
  | no => exact False.elim h
theorem Fin.then_ {α β : Type} {o : Out α} {f : α → Mem → Out β} {K : β → Mem → Prop} (h : Fin (o.bind f) K) : Fin o fun a M => Fin (f a M) K := by
  cases o with
  | ok a M => exact h
  | er e M => exact h
  | no => exact h
theorem fin_imp {α : Type} {o : Out α} {K K' : α → Mem → Prop} (h : Fin o K) (w : ∀ a M, K a M → K' a M) : Fin o K' := by
  cases o with
  | ok a M => exact w a M h
  | er e M => exact h
  | no => exact h
/-- the loop's reading, for every hidden object -/
def tAny {α : Type} (t : (Addr → Prop) → α → Prop) : α → Prop := fun a => ∃ hid, t hid a
theorem lc_go (hK : C.K = X.K) {di : DA} {g : DG} {tt : DT} {de : DE} {vs : List Nat} {m : Bool} {σ : L2.St} {H : Hp} {Q : VK} (h : TEz C W (dLc m di g tt de vs) σ H Q) :
    tLc (iZ C W di) (fun v σ H Q => ∃ hid, TGz (C.with hid) vs g v σ H Q) (fun σ H Q => ∃ hid, TTz (C.with hid) WF tt σ H Q) (fun σ H Q => ∃ hid, TEz (C.with hid) WF de σ H Q) vs σ H Q := by
  obtain ⟨mu, s, M, R, S, P⟩ := h
  refine ⟨mu, s, M, R, S, Post.bind P fun ts M1 mu1 J H1 R1 E1 w P1 D hD => ?_⟩
  by_cases hz : ts.length ≤ LIM
  · rw [if_pos hz] at P1
    have nD : ¬ C.hid D := fun z => by
      obtain ⟨o, e⟩ := R1.hid D z
      rw [hD] at e; cases e
    have hhD : (C.and D).hid D := .inr rfl
    have S1 : RS (C.and D) mu1 H1 (wipeS s vs) (L2.wipe σ vs) := ((S.mono E1).wipes vs).hideNew hD
    -- what the end is to give
    let K : List T → List T → Mem → Prop := fun done ys M' => ∀ mu' H' acc, RM (C.and D) mu' M' H' → Ext C mu1 H1 mu' H' → H' D = some (.lst acc) → RepL (C.and D) mu' H' (done ++ ys) acc → Q (.ref D) H'
    have P0 : Fin (lcL g tt de (wipeS s vs) ts M1) (K []) := by
      cases e : lcL g tt de (wipeS s vs) ts M1 with
      | ok ys M' =>
        rw [e] at P1
        intro mu' H' acc R' x hD' r
        obtain ⟨mu2, R2, x2, r2⟩ := mk_hid (t := .lst ys) (u := .lst acc) m R' x hD nD hD' r
        exact P1 mu2 (.ref D) H' R2 x2 r2
      | er er M' =>
        -- no exception comes out of the block
        exfalso
        have : ∀ (l : List T) (M : Mem) (er : Er) (M' : Mem), lcL g tt de (wipeS s vs) l M = .er er M' → False := by
          intro l
          induction l with
          | nil => intro M er M' h; cases h
          | cons t l ih =>
            intro M er M' h
            unfold lcL at h
            split at h
            · cases h
            · rename_i s1 _
              cases h1 : tt s1 M with
              | ok k Mk =>
                rw [h1] at h
                simp only [Out.noEr, bind_ok] at h
                split at h
                · cases h2 : de s1 Mk with
                  | ok y My =>
                    rw [h2] at h
                    simp only [Out.noEr, bind_ok] at h
                    cases h3 : lcL g tt de (wipeS s vs) l My with
                    | ok ys Ms => rw [h3] at h; cases h
                    | er e2 Ms => exact ih _ _ _ h3
                    | no => rw [h3] at h; cases h
                  | er e2 Ms => rw [h2] at h; cases h
                  | no => rw [h2] at h; cases h
                · exact ih _ _ _ h
              | er e2 Ms => rw [h1] at h; cases h
              | no => rw [h1] at h; cases h
        exact this _ _ _ _ e
      | no => rw [e] at P1; exact P1.elim
    refine ⟨fun i m H => i + m = ts.length ∧ ∃ mu2 M2 acc done, RM (C.and D) mu2 M2 H ∧ Ext C mu1 H1 mu2 H ∧ H D = some (.lst acc) ∧ acc.length ≤ i ∧ RepL (C.and D) mu2 H done acc ∧ Fin (lcL g tt de (wipeS s vs) (ts.drop i) M2) (K done),
      ⟨ts.length, by omega, mu1, M1, [], [], R1.hideNew hD, Ext.updNew Ext.refl hD, upd_same, Nat.le_refl _, .nil, P0⟩, fun i m H ⟨hm, mu2, M2, acc, done, R2, E2, hD2, hl, r2, P2⟩ => ?_⟩
    have wk := w (C.and D).hid (hA_new hD) i mu2 M2 H R2 (E2.hideNew hD)
    cases m with
    | zero =>
      have e : i = ts.length := by omega
      rw [e, List.drop_length] at P2
      exact .inl ⟨wk.2 e, P2 mu2 H acc R2 E2 hD2 (by rw [List.append_nil]; exact r2)⟩
    | succ m =>
      have hlt : i < ts.length := by omega
      obtain ⟨hgo, hy⟩ := wk.1 hlt
      refine .inr ⟨hgo, fun H' => (i + 1) + m = ts.length ∧ ∃ mu2 M2 acc done, RM (C.and D) mu2 M2 H' ∧ Ext C mu1 H1 mu2 H' ∧ H' D = some (.lst acc) ∧ acc.length ≤ i + 1 ∧ RepL (C.and D) mu2 H' done acc ∧ Fin (lcL g tt de (wipeS s vs) (ts.drop (i + 1)) M2) (K done), fun H' h => ⟨m, Nat.lt_succ_self m, h⟩, fun x H3 hyl => ?_⟩
      obtain ⟨t, ht, R3, E3, r3⟩ := hy x H3 hyl
      have ed : ts.drop i = t :: ts.drop (i + 1) := by
        rw [List.drop_eq_getElem_cons hlt]
        congr 1
        rw [List.getElem?_eq_getElem hlt] at ht
        exact Option.some.inj ht
      rw [ed] at P2
      unfold lcL at P2
      cases eg : g t (wipeS s vs) with
      | none => simp only [eg] at P2; exact P2.elim
      | some s3 =>
        simp only [eg] at P2
        have F3 : Ext C mu1 H1 mu2 H3 := E2.trans E3.unhide
        have hD3 : H3 D = some (.lst acc) := E3.hid D _ hD2 (fun z => R2.nh D z hhD) hhD
        refine ⟨(C.and D).hid, mu2, wipeS s vs, M2, t, s3, R3, S1.mono (F3.hideNew hD), r3, eg, fun σ' S' hw => ⟨by rw [hw, wipe_wipe vs σ vs fun _ h => h], (C.and D).hid, mu2, s3, M2, R3, S', P2.bind fun k M4 mu4 b H4 R4 E4 r4 P4 => ?_⟩⟩
        cases r4
        have F4 : Ext C mu1 H1 mu4 H4 := F3.trans E4.unhide
        have hD4 : H4 D = some (.lst acc) := E4.hid D _ hD3 (fun z => R3.nh D z hhD) hhD
        have S4 := S'.mono E4
        cases k with
        | false =>
          exact iteF ⟨by omega, mu4, M4, acc, done, R4, F4, hD4, by omega, (r2.mono E3).mono E4, P4⟩
        | true =>
          rw [if_pos rfl] at P4
          refine iteT ⟨(C.and D).hid, mu4, s3, M4, R4, S4, P4.bind fun y M5 mu5 v H5 R5 E5 r5 P5 => ?_⟩
          have F5 : Ext C mu1 H1 mu5 H5 := F4.trans E5.unhide
          have hD5 : H5 D = some (.lst acc) := E5.hid D _ hD4 (fun z => R4.nh D z hhD) hhD
          refine ⟨acc, hD5, by rw [← LIM_eq]; omega, by omega, mu5, M5, acc ++ [v], done ++ [y], R5.updH hhD, F5.updNew hD, upd_same, by simp; omega, ?_, ?_⟩
          · exact RepL.updH hhD ((((r2.mono E3).mono E4).mono E5).append (.cons r5 .nil))
          · refine fin_imp P5.then_ fun ys M6 q mu' H' acc' R' x hD' r => q mu' H' acc' R' x hD' ?_
            rw [List.append_assoc] at r
            exact r
  · rw [if_neg hz] at P1; exact P1.elim
/-- what a block's parts need -/
structure BlkZ (X : Cx) (C : Cfg) (scope : Scope) (own : List (Str × Nat)) (tg : Expr) (ifs : List Expr) (g : DG) (tt : DT) : Prop where
  hN : X.N.Nodup
  ok : BlkOk X.N X.env.scope scope own
  hg : ∀ (s : Shared) (H : Hp) (D : Addr) (cl : List (Str × Addr)) (fp : List Addr) (hid : Addr → Prop), PG (X.blk s H scope (compEnvC scope cl D X.env) fp) tg (TGz (C.with hid) (own.map (·.2)) g)
  ht : ∀ (s : Shared) (H : Hp) (D : Addr) (cl : List (Str × Addr)) (fp : List Addr) (hid : Addr → Prop), PTs (X.blk s H scope (compEnvC scope cl D X.env) fp) ifs (TTz (C.with hid) WF tt)
theorem ts_none {X : Cx} {C : Cfg} : PTs X [] (TTz C WF tYesD) := ⟨fun pins s σ H Q I ⟨mu, sg, M, R, S, P⟩ => pts_nil.run pins s σ H Q I (P mu true H R Ext.refl rfl)⟩
theorem ts_one {X : Cx} {C : Cfg} {c : Expr} {t : DT} (h : PT X c (TTz C WF t)) : PTs X [c] (TTz C WF t) := pts_one h
theorem s_lc (hK : C.K = X.K) (hc : X.calm = true) (m : Bool) {elt tg iter : Expr} {ifs : List Expr} {scope : Scope} {own : List (Str × Nat)} {pos : Pos} {di : DA} {g : DG} {tt : DT} {de : DE} (hi : PI X tg iter (iZ C W di)) (B : BlkZ X C scope own tg ifs g tt)
    (he : ∀ (s : Shared) (H : Hp) (D : Addr) (cl : List (Str × Addr)) (fp : List Addr) (hid : Addr → Prop), PE (X.blk s H scope (compEnvC scope cl D X.env) fp) elt (TEz (C.with hid) WF de)) (hs : ∀ x, foldedSetIterable iter X.env x = pure x := by intro _; rfl) :
    PE X (.ListComp elt [⟨tg, iter, ifs, 0⟩] scope pos) (TEz C W (dLc m di g tt de (own.map (·.2)))) :=
  pe_weak (pe_lc hc B.hN hi B.ok (fun s H D cl fp => ⟨fun pins s2 σ H2 v u Q I r ⟨hid, q⟩ => (B.hg s H D cl fp hid).run pins s2 σ H2 v u Q I r q⟩) (fun s H D cl fp => ⟨fun pins s2 σ H2 Q I ⟨hid, q⟩ => (B.ht s H D cl fp hid).run pins s2 σ H2 Q I q⟩)
    (fun s H D cl fp => ⟨fun pins s2 σ H2 Q I ⟨hid, q⟩ => (he s H D cl fp hid).run pins s2 σ H2 Q I q⟩) hs) fun _ _ _ h => lc_go hK h
/-- name = [..] on one line -/
theorem s_setLc (hK : C.K = X.K) (hc : X.calm = true) (m : Bool) {i : Nat} {y : Str} {py spos : Pos} {elt tg iter : Expr} {ifs : List Expr} {scope : Scope} {own : List (Str × Nat)} {pos : Pos} {di : DA} {g : DG} {tt : DT} {de : DE} (hy : X.N[i]? = some y) (hyl : X.env.scope.names.lookup y = some .local)
    (hsw : swapsWith (.ListComp elt [⟨tg, iter, ifs, 0⟩] scope pos) (some (.Name y py)) spos.line X.env = pure true) (hi : PI X tg iter (iZ C W di)) (B : BlkZ X C scope own tg ifs g tt)
    (he : ∀ (s : Shared) (H : Hp) (D : Addr) (cl : List (Str × Addr)) (fp : List Addr) (hid : Addr → Prop), PE (X.blk s H scope (compEnvC scope cl D X.env) fp) elt (TEz (C.with hid) WF de)) (hs : ∀ x, foldedSetIterable iter X.env x = pure x := by intro _; rfl) :
    PS X (.Assign [.Name y py] (.ListComp elt [⟨tg, iter, ifs, 0⟩] scope pos) spos) (TSz C W (dAsg i (dLc m di g tt de (own.map (·.2))))) :=
  ps_weak (ps_setLc hc B.hN hy hyl hsw hi B.ok (fun s H D cl fp => ⟨fun pins s2 σ H2 v u Q I r ⟨hid, q⟩ => (B.hg s H D cl fp hid).run pins s2 σ H2 v u Q I r q⟩) (fun s H D cl fp => ⟨fun pins s2 σ H2 Q I ⟨hid, q⟩ => (B.ht s H D cl fp hid).run pins s2 σ H2 Q I q⟩)
    (fun s H D cl fp => ⟨fun pins s2 σ H2 Q I ⟨hid, q⟩ => (he s H D cl fp hid).run pins s2 σ H2 Q I q⟩) hs) fun D σ H ⟨mu, s, M, R, S, P⟩ =>
      lc_go (W := W) (m := m) hK ⟨mu, s, M, R, S, P.bind S fun t M1 mu1 x H1 R1 E1 r1 P1 => P1 mu1 _ H1 R1 Ext.refl ((S.mono E1).set i r1)⟩
/-- dict comprehensions -/
theorem dc_no_er {g : DG} {tt : DT} {dk de : DE} {s0 : Sg} : ∀ (l : List T) (ks : List (Str × T)) (M : Mem) (er : Er) (M' : Mem), dcL g tt dk de s0 l ks M = .er er M' → False := by
  intro l
  induction l with
  | nil => intro ks M er M' h; cases h
  | cons t l ih =>
    intro ks M er M' h
    unfold dcL at h
    split at h
    · cases h
    · rename_i s1 _
      cases h1 : tt s1 M with
      | ok k Mk =>
        rw [h1] at h
        simp only [Out.noEr, bind_ok] at h
        split at h
        · cases h2 : dk s1 Mk with
          | ok y My =>
            rw [h2] at h
            simp only [Out.noEr, bind_ok] at h
            cases h3 : de s1 My with
            | ok z Mz =>
              rw [h3] at h
              simp only [Out.noEr, bind_ok] at h
              split at h
              · split at h
                · exact ih _ _ _ _ h
                · cases h
              · cases h
            | er e2 Ms => rw [h3] at h; cases h
            | no => rw [h3] at h; cases h
          | er e2 Ms => rw [h2] at h; cases h
          | no => rw [h2] at h; cases h
        · exact ih _ _ _ _ h
      | er e2 Ms => rw [h1] at h; cases h
      | no => rw [h1] at h; cases h
theorem dc_go (hK : C.K = X.K) {di : DA} {g : DG} {tt : DT} {dk de : DE} {vs : List Nat} {m : Bool} {σ : L2.St} {H : Hp} {Q : VK} (h : TEz C W (dDc m di g tt dk de vs) σ H Q) :
    tDc (iZ C W di) (fun v σ H Q => ∃ hid, TGz (C.with hid) vs g v σ H Q) (fun σ H Q => ∃ hid, TTz (C.with hid) WF tt σ H Q) (fun σ H Q => ∃ hid, TEz (C.with hid) WF dk σ H Q) (fun σ H Q => ∃ hid, TEz (C.with hid) WF de σ H Q) vs σ H Q := by
  obtain ⟨mu, s, M, R, S, P⟩ := h
  refine ⟨mu, s, M, R, S, Post.bind P fun ts M1 mu1 J H1 R1 E1 w P1 D hD => ?_⟩
  have nD : ¬ C.hid D := fun z => by
    obtain ⟨o, e⟩ := R1.hid D z
    rw [hD] at e; cases e
  have hhD : (C.and D).hid D := .inr rfl
  have S1 : RS (C.and D) mu1 H1 (wipeS s vs) (L2.wipe σ vs) := ((S.mono E1).wipes vs).hideNew hD
  let K : List (Str × T) → Mem → Prop := fun ks M' => ∀ mu' H' ws, RM (C.and D) mu' M' H' → Ext C mu1 H1 mu' H' → H' D = some (.dK ws) → RepD (C.and D) mu' H' ks ws → Q (.ref D) H'
  have P0 : Fin (dcL g tt dk de (wipeS s vs) ts [] M1) K := by
    cases e : dcL g tt dk de (wipeS s vs) ts [] M1 with
    | ok ys M' =>
      rw [e] at P1
      intro mu' H' acc R' x hD' r
      obtain ⟨mu2, R2, x2, r2⟩ := mk_hid (t := .dct ys) (u := .dK acc) m R' x hD nD hD' r
      exact P1 mu2 (.ref D) H' R2 x2 r2
    | er er M' => exact (dc_no_er _ _ _ _ _ e).elim
    | no => rw [e] at P1; exact P1.elim
  refine ⟨fun i m H => i + m = ts.length ∧ ∃ mu2 M2 acc done, RM (C.and D) mu2 M2 H ∧ Ext C mu1 H1 mu2 H ∧ H D = some (.dK acc) ∧ RepD (C.and D) mu2 H done acc ∧ Fin (dcL g tt dk de (wipeS s vs) (ts.drop i) done M2) K,
    ⟨ts.length, by omega, mu1, M1, [], [], R1.hideNew hD, Ext.updNew Ext.refl hD, upd_same, .nil, P0⟩, fun i m H ⟨hm, mu2, M2, acc, done, R2, E2, hD2, r2, P2⟩ => ?_⟩
  have wk := w (C.and D).hid (hA_new hD) i mu2 M2 H R2 (E2.hideNew hD)
  cases m with
  | zero =>
    have e : i = ts.length := by omega
    rw [e, List.drop_length] at P2
    exact .inl ⟨wk.2 e, P2 mu2 H acc R2 E2 hD2 r2⟩
  | succ m =>
    have hlt : i < ts.length := by omega
    obtain ⟨hgo, hy⟩ := wk.1 hlt
    refine .inr ⟨hgo, fun H' => (i + 1) + m = ts.length ∧ ∃ mu2 M2 acc done, RM (C.and D) mu2 M2 H' ∧ Ext C mu1 H1 mu2 H' ∧ H' D = some (.dK acc) ∧ RepD (C.and D) mu2 H' done acc ∧ Fin (dcL g tt dk de (wipeS s vs) (ts.drop (i + 1)) done M2) K, fun H' h => ⟨m, Nat.lt_succ_self m, h⟩, fun x H3 hyl => ?_⟩
    obtain ⟨t, ht, R3, E3, r3⟩ := hy x H3 hyl
    have ed : ts.drop i = t :: ts.drop (i + 1) := by
      rw [List.drop_eq_getElem_cons hlt]
      congr 1
      rw [List.getElem?_eq_getElem hlt] at ht
      exact Option.some.inj ht
    rw [ed] at P2
    unfold dcL at P2
    cases eg : g t (wipeS s vs) with
    | none => simp only [eg] at P2; exact P2.elim
    | some s3 =>
      simp only [eg] at P2
      have F3 : Ext C mu1 H1 mu2 H3 := E2.trans E3.unhide
      have hD3 : H3 D = some (.dK acc) := E3.hid D _ hD2 (fun z => R2.nh D z hhD) hhD
      refine ⟨(C.and D).hid, mu2, wipeS s vs, M2, t, s3, R3, S1.mono (F3.hideNew hD), r3, eg, fun σ' S' hw => ⟨by rw [hw, wipe_wipe vs σ vs fun _ h => h], (C.and D).hid, mu2, s3, M2, R3, S', P2.bind fun k M4 mu4 b H4 R4 E4 r4 P4 => ?_⟩⟩
      cases r4
      have F4 : Ext C mu1 H1 mu4 H4 := F3.trans E4.unhide
      have hD4 : H4 D = some (.dK acc) := E4.hid D _ hD3 (fun z => R3.nh D z hhD) hhD
      have S4 := S'.mono E4
      cases k with
      | false => exact iteF ⟨by omega, mu4, M4, acc, done, R4, F4, hD4, (r2.mono E3).mono E4, P4⟩
      | true =>
        rw [if_pos rfl] at P4
        refine iteT ⟨(C.and D).hid, mu4, s3, M4, R4, S4, P4.bind fun y M5 mu5 v H5 R5 E5 r5 P5 => ?_⟩
        have F5 : Ext C mu1 H1 mu5 H5 := F4.trans E5.unhide
        have hD5 : H5 D = some (.dK acc) := E5.hid D _ hD4 (fun z => R4.nh D z hhD) hhD
        refine ⟨(C.and D).hid, mu5, s3, M5, R5, S4.mono E5, P5.bind fun y2 M6 mu6 v2 H6 R6 E6 r6 P6 => ?_⟩
        have F6 : Ext C mu1 H1 mu6 H6 := F5.trans E6.unhide
        have hD6 : H6 D = some (.dK acc) := E6.hid D _ hD5 (fun z => R5.nh D z hhD) hhD
        have rd := (((r2.mono E3).mono E4).mono E5).mono E6
        split at P6
        · rename_i z
          cases r5
          split at P6
          · rename_i hz
            exact ⟨acc, .inr z, rfl, hD6, by rw [← LIM_eq, ← rd.length]; exact hz, by omega, mu6, M6, putK acc (.inr z) v2, putT done z y2, R6.updH hhD, F6.updNew hD, upd_same, RepD.updH hhD (rd.put r6), P6⟩
          · exact P6.elim
        · exact P6.elim
theorem s_dc (hK : C.K = X.K) (hc : X.calm = true) (m : Bool) {kx vx tg iter : Expr} {ifs : List Expr} {scope : Scope} {own : List (Str × Nat)} {pos : Pos} {di : DA} {g : DG} {tt : DT} {dk de : DE} (hi : PI X tg iter (iZ C W di)) (B : BlkZ X C scope own tg ifs g tt)
    (hk : ∀ (s : Shared) (H : Hp) (D : Addr) (cl : List (Str × Addr)) (fp : List Addr) (hid : Addr → Prop), PE (X.blk s H scope (compEnvC scope cl D X.env) fp) kx (TEz (C.with hid) WF dk))
    (he : ∀ (s : Shared) (H : Hp) (D : Addr) (cl : List (Str × Addr)) (fp : List Addr) (hid : Addr → Prop), PE (X.blk s H scope (compEnvC scope cl D X.env) fp) vx (TEz (C.with hid) WF de)) (hs : ∀ x, foldedSetIterable iter X.env x = pure x := by intro _; rfl) :
    PE X (.DictComp kx vx [⟨tg, iter, ifs, 0⟩] scope pos) (TEz C W (dDc m di g tt dk de (own.map (·.2)))) :=
  pe_weak (pe_dc hc B.hN hi B.ok (fun s H D cl fp => ⟨fun pins s2 σ H2 v u Q I r ⟨hid, q⟩ => (B.hg s H D cl fp hid).run pins s2 σ H2 v u Q I r q⟩) (fun s H D cl fp => ⟨fun pins s2 σ H2 Q I ⟨hid, q⟩ => (B.ht s H D cl fp hid).run pins s2 σ H2 Q I q⟩)
    (fun s H D cl fp => ⟨fun pins s2 σ H2 Q I ⟨hid, q⟩ => (hk s H D cl fp hid).run pins s2 σ H2 Q I q⟩) (fun s H D cl fp => ⟨fun pins s2 σ H2 Q I ⟨hid, q⟩ => (he s H D cl fp hid).run pins s2 σ H2 Q I q⟩) hs) fun _ _ _ h => dc_go hK h
end
end Z
end
section
set_option Elab.async false
set_option linter.all false
set_option maxRecDepth 100000
set_option maxHeartbeats 4000000
/-! Zu: repr. -/
namespace Z
open PySem PySem.Spec PyProof.Rows L2 PySem.SeqAt

mutual
def toD : T → Option PyData
  | .non => some .none
  | .bl b => some (.bool b)
  | .int i => some (.int i)
  | .str x => some (.str x)
  | .tup xs => (toDL xs).map PyData.tuple
  | .lst xs => (toDL xs).map PyData.list
  | .fz xs => (toDL xs).map PyData.list
  | .dct ks => (toDK ks).map PyData.dict
  | _ => none
def toDL : List T → Option (List PyData)
  | [] => some []
  | t :: r => (toD t).bind fun d => (toDL r).map fun ds => d :: ds
def toDK : List (Str × T) → Option (List (PyData × PyData))
  | [] => some []
  | p :: r => (toD p.2).bind fun d => (toDK r).map fun ds => (.str p.1, d) :: ds
end
section
variable {X : Cx} {C : Cfg} {mu : Mu} {M : Mem} {H : Hp} {pins : List (Addr × Obj)} {σ : L2.St} {s : Shared}
theorem not1 (h1 : H sysModules = none) {a : Addr} {o : HO} (h : H a = some o) : a ≠ sysModules := fun e => by rw [e, h1] at h; cases h
mutual
theorem reads_rep (hK : C.K = X.K) (I : Inv X pins σ H s) (h1 : H sysModules = none) : ∀ {t : T} {x : V} {v : Value} {d : PyData}, Rep C mu H t x → RelV x v → toD t = some d → ∃ as, Reads s.heap v d as ∧ sysModules ∉ as
  | _, _, _, _, .non, r, e => by cases e; cases r; exact ⟨_, .none, by simp⟩
  | _, _, _, _, .bl b, r, e => by cases e; cases r; exact ⟨_, .bool b, by simp⟩
  | _, _, _, _, .int i, r, e => by cases e; obtain ⟨t, rfl⟩ := r; exact ⟨_, .int i t, by simp⟩
  | _, _, _, _, .str z, r, e => by cases e; obtain ⟨t, rfl⟩ := r; exact ⟨_, .str z t, by simp⟩
  | _, _, _, _, .tup f q, r, e => by
    obtain ⟨ds, e1, rfl⟩ := Option.map_eq_some_iff.mp e
    cases r
    have sq := f.sq
    rw [hK] at sq
    obtain ⟨its, rv, ⟨o, ho, hc, n, hd⟩, _⟩ := I.tuple sq
    obtain ⟨as, hr, hn⟩ := reads_repL hK I h1 q rv e1
    exact ⟨_, .tuple ho hc hd hr, hn⟩
  | _, _, _, _, .lst f q, r, e => by
    obtain ⟨ds, e1, rfl⟩ := Option.map_eq_some_iff.mp e
    cases r
    obtain ⟨its, rv, ⟨o, n, ho, hc, _, hd⟩, _⟩ := I.list (X := X) (.inl (.inl f.1))
    obtain ⟨as, hr, hn⟩ := reads_repL hK I h1 q rv e1
    exact ⟨_, .list ho hc hd hr, by simp [hn, (not1 h1 f.1).symm]⟩
  | _, _, _, _, .fz f q, r, e => by
    obtain ⟨ds, e1, rfl⟩ := Option.map_eq_some_iff.mp e
    cases r
    obtain ⟨its, rv, ⟨o, n, ho, hc, _, hd⟩, _⟩ := I.list (X := X) (.inl (.inr ⟨_, f.1⟩))
    obtain ⟨as, hr, hn⟩ := reads_repL hK I h1 q rv e1
    exact ⟨_, .list ho hc hd hr, by simp [hn, (not1 h1 f.1).symm]⟩
  | _, _, _, _, .dct f q, r, e => by
    obtain ⟨ds, e1, rfl⟩ := Option.map_eq_some_iff.mp e
    cases r
    obtain ⟨_, hs, vs, kv, o, es, ep, ho, hx, hd, _, pr, _⟩ := dk_rd I.hok f.1
    obtain ⟨as, bs, r1, r2, n1, n2⟩ := reads_repK hK I h1 q kv pr e1
    refine ⟨_, .dict ho hx.1 hd r1 r2, ?_⟩
    intro z
    rcases List.mem_append.mp z with z | z
    · rcases List.mem_cons.mp z with z | z
      · rw [← z] at hs; simp at hs
      · exact n1 z
    · exact n2 z
  | _, _, _, _, .ins _ _, _, e => by cases e
  | _, _, _, _, .ty _, _, e => by cases e
  | _, _, _, _, .ob _, _, e => by cases e
  | _, _, _, _, .cel _ _, _, e => by cases e
theorem reads_repL (hK : C.K = X.K) (I : Inv X pins σ H s) (h1 : H sysModules = none) : ∀ {ts : List T} {xs : List V} {vs : List Value} {ds : List PyData}, RepL C mu H ts xs → Vals xs vs → toDL ts = some ds → ∃ as, ReadsAll s.heap vs ds as ∧ sysModules ∉ as
  | _, _, _, _, .nil, .nil, e => by cases e; exact ⟨_, .nil, by simp⟩
  | _, _, _, _, .cons h q, .cons r rr, e => by
    obtain ⟨d, e1, e2⟩ := Option.bind_eq_some_iff.mp e
    obtain ⟨ds, e3, rfl⟩ := Option.map_eq_some_iff.mp e2
    obtain ⟨as, r1, n1⟩ := reads_rep hK I h1 h r e1
    obtain ⟨bs, r2, n2⟩ := reads_repL hK I h1 q rr e3
    exact ⟨_, .cons r1 r2, by simp [n1, n2]⟩
theorem reads_repK (hK : C.K = X.K) (I : Inv X pins σ H s) (h1 : H sysModules = none) : ∀ {ks : List (Str × T)} {ws : List (Key × V)} {vs : List (Key × Value)} {es : List DictEntry} {ds : List (PyData × PyData)}, RepD C mu H ks ws → KV ws vs → Pairs (mixKind X.prog X.w) es vs → toDK ks = some ds →
    ∃ as bs, ReadsAll s.heap (es.map (·.key)) (ds.map (·.1)) as ∧ ReadsAll s.heap (es.map (·.val)) (ds.map (·.2)) bs ∧ sysModules ∉ as ∧ sysModules ∉ bs
  | _, _, _, _, _, .nil, kv, pp, e => by
    cases kv; cases pp; cases e
    exact ⟨_, _, .nil, .nil, by simp, by simp⟩
  | _, _, _, _, _, @RepD.cons _ _ _ k t x ks ws h q, kv, pp, e => by
    obtain ⟨d, e1, e2⟩ := Option.bind_eq_some_iff.mp e
    obtain ⟨ds, e3, rfl⟩ := Option.map_eq_some_iff.mp e2
    cases kv with
    | cons rk rr =>
      cases pp with
      | @cons en kv2 es2 kvs2 hk hv pp =>
        obtain ⟨as, bs, r1, r2, n1, n2⟩ := reads_repK hK I h1 q rr pp e3
        obtain ⟨ek, ev⟩ := rk
        obtain ⟨cs, r3, n3⟩ := reads_rep hK I h1 h ev e1
        have hk' : keyIs (.inr k) en.key = true := by rw [← ek] at hk; exact hk
        obtain ⟨u, hu⟩ : ∃ u, en.key = .str k u := relV_key hk'
        rw [← hv] at r3
        refine ⟨_, _, .cons (as := []) ?_ r1, .cons r3 r2, by simpa using n1, by simp [n2, n3]⟩
        show Reads s.heap en.key (.str k) []
        rw [hu]
        exact .str _ u
end
/-- the module table is there, so it is nobody's -/
def Sys (X : Cx) : Prop := ∃ o, X.base.get? sysModules = some o
theorem Sys.none_ {X : Cx} (S : Sys X) (I : Inv X pins σ H s) : H sysModules = none := let ⟨_, e⟩ := S; (I.bs _ _ e).2
/-- the data of a value, a cell read -/
def dataT (M : Mem) (t : T) : Option PyData := match t with
  | .cel i => (match M[i]? with
    | some (.live u) => (match u with
      | .lst xs => toD (.lst xs)
      | .dct ks => toD (.dct ks)
      | _ => none)
    | _ => none)
  | t => toD t
theorem dataT_ok (hK : C.K = X.K) (S : Sys X) (I : Inv X pins σ H s) {t : T} {x : V} {v : Value} {d : PyData} (R : RM C mu M H) (r : Rep C mu H t x) (rx : RelV x v) (e : dataT M t = some d) : ∃ as, Reads s.heap v d as ∧ sysModules ∉ as := by
  have h1 := S.none_ I
  cases t with
  | cel i =>
    unfold dataT at e
    simp only at e
    split at e
    · rename_i u hu
      obtain ⟨a, o, g1, g2, g3⟩ := R.cell i u hu
      cases r with
      | cel hi hv =>
        have ev := hv a g1
        subst ev
        cases rx
        split at e
        · rename_i xs
          obtain ⟨ds, e1, rfl⟩ := Option.map_eq_some_iff.mp e
          unfold CU at g3
          split at g3
          · rename_i q; cases q
            obtain ⟨its, rv, ⟨o, n, ho, hc, _, hd⟩, _⟩ := I.list (X := X) (.inl (.inl g2))
            obtain ⟨as, hr, hn⟩ := reads_repL hK I h1 g3 rv e1
            exact ⟨_, .list ho hc hd hr, by simp [hn, (not1 h1 g2).symm]⟩
          · rename_i q; cases q
          · rename_i q; cases q
          · exact g3.elim
        · rename_i ks
          obtain ⟨ds, e1, rfl⟩ := Option.map_eq_some_iff.mp e
          unfold CU at g3
          split at g3
          · rename_i q; cases q
          · rename_i q; cases q
            obtain ⟨_, hs, vs, kv, o, es, ep, ho, hx, hd, _, pr, _⟩ := dk_rd I.hok (.inl g2)
            obtain ⟨as, bs, r1, r2, n1, n2⟩ := reads_repK hK I h1 g3 kv pr e1
            refine ⟨_, .dict ho hx.1 hd r1 r2, ?_⟩
            intro z
            rcases List.mem_append.mp z with z | z
            · rcases List.mem_cons.mp z with z | z
              · rw [← z] at hs; simp at hs
              · exact n1 z
            · exact n2 z
          · rename_i q; cases q
          · exact g3.elim
        · cases e
    · cases e
  | _ => exact reads_rep hK I h1 r rx e
/-- what repr shows -/
def gRepr : OpN := fun ts M => match ts with
  | [t] => (match dataT M t with
    | some d => if d.showable = true ∧ d.depth ≤ 40 ∧ d.shown.length ≤ LIM then some (.str d.shown, M) else none
    | none => none)
  | _ => none
theorem c_repr (hK : C.K = X.K) (S : Sys X) (hg : X.A.guards = some []) (hu : X.A.units + 64 < cLine) : CallR X (.builtin "repr") (rN C gRepr) := fun pins s σ H xs us Q I rs ⟨mu, M, ts, t', M', R, r, e, q⟩ => by
  unfold gRepr at e
  split at e
  · rename_i t
    obtain ⟨x, rfl, rt⟩ := r.one
    obtain ⟨u, rfl, rx⟩ := vals1 rs
    split at e
    · rename_i d hd
      split at e
      · rename_i hc
        cases e
        obtain ⟨h1, h2, h3⟩ := hc
        rw [LIM_eq] at h3
        obtain ⟨as, hr, hn⟩ := dataT_ok hK S I R rt rx hd
        have fin : ∀ h' u tk, (∀ b o, s.heap.get? b = some o → h'.get? b = some o) → EP X pins σ Q (.str d.shown u) { s with heap := h', toks := tk } := fun h' u tk hk => ⟨.str d.shown, H, I.kept (t' := tk) hk, ⟨u, rfl⟩, q mu _ H R Ext.refl (.str _)⟩
        cases hr with
        | none => exact PySem.P.repr_of_none (fin s.heap s.toks _ fun _ _ e => e)
        | bool b => exact PySem.P.repr_of_bool (fin s.heap s.toks _ fun _ _ e => e)
        | int i t => exact PySem.P.repr_of_int (by simpa [PyData.showable] using h1) (fin s.heap s.toks _ fun _ _ e => e)
        | str z t => exact PySem.P.repr_of_str (fin s.heap s.toks _ fun _ _ e => e) h3
        | list a b c d => exact repr_of_reads' (.list a b c d) h1 (fun _ => hn) hg (by omega) (fun _ _ e => e) fin h3
        | tuple a b c d => exact repr_of_reads' (.tuple a b c d) h1 (fun _ => hn) hg (by omega) (fun _ _ e => e) fin h3
        | dict a b c d f => exact repr_of_reads' (.dict a b c d f) h1 (fun _ => hn) hg (by omega) (fun _ _ e => e) fin h3
      · cases e
    · cases e
  · cases e
end
end Z
end
section
set_option Elab.async false
set_option linter.all false
set_option maxRecDepth 100000
set_option maxHeartbeats 4000000
/-! Zv: a def by its body; the law's call. -/
namespace Z
open PySem PySem.Spec PyProof.Rows L2 PySem.SeqAt

def startS (k : Nat) (ts : List T) : Sg := ts.map some ++ List.replicate (k - ts.length) none
/-- a def's meaning by its body's -/
def runD (k : Nat) (b : DS) : DF := fun ts M => match b (startS k ts) M with
  | .nx _ M' => .ok .non M'
  | .rt t M' => .ok t M'
  | .er e _ M' => .er e M'
  | _ => .no
theorem RepL.getO {C : Cfg} {mu : Mu} {H : Hp} {ts : List T} {vs : List V} (r : RepL C mu H ts vs) (N : List Str) : RS C mu H (startS N.length ts) (L2.start N vs) := by
  refine ⟨by unfold startS L2.start; simp [r.length], fun i t h => ?_⟩
  unfold startS at h
  unfold L2.start
  by_cases hi : i < ts.length
  · rw [List.getElem?_append_left (by simpa using hi)] at h
    rw [List.getElem?_map, List.getElem?_eq_getElem hi] at h
    have e : ts[i] = t := by simpa using h
    obtain ⟨v, h1, h2⟩ := r.get (i := i) (t := t) (by rw [List.getElem?_eq_getElem hi, e])
    refine ⟨v, ?_, h2⟩
    rw [List.getElem?_append_left (by rw [List.length_map, ← r.length]; exact hi), List.getElem?_map, h1]
    rfl
  · rw [List.getElem?_append_right (by simpa using hi)] at h
    have : (List.replicate (N.length - ts.length) (none : Option T))[i - (ts.map some).length]? = some (some t) := h
    rw [List.getElem?_replicate] at this
    split at this <;> cases this
section
variable {CX : CXT} {P : Program} {w : World} {K : PySem.W.Frag} {mg : Str → Option Value} {base : Heap} {k n : Nat} {f : Addr} {x qual : Str} {params : Arguments} {body : List Stmt} {scope : Scope} {dvs : List V} {kws : List (Str × V)} {fd : FuncData} {N ps : List Str} {C : Cfg}
/-- what may leave the def -/
abbrev WD (E : XK) : WX := fun c d _ H' => E c d H'
theorem def_z {b : DS} (F : FunD K x qual params body scope dvs kws f fd) (S : FnScope N ps scope) (hn : ps.length = n)
    (hbody : ∀ (cdv : Value) (A : Around) (outer : List Env) (s : Shared) (H : Hp) (E : XK) (hid : Addr → Prop), Room k (A.deeper (envOfC qual scope s.heap.objs.size f cdv)) → A.guards = some [] →
      PSs (cxOf CX P w K mg base N qual scope f cdv A outer s H E) body (TSz (C.with hid) (WD E) b)) : FnG P w K mg base CX (k + 1) f fd ps (SpZ C n (runD N.length b)) := by
  refine fnG_of F S (fun vs H Q E h => h.1.trans hn.symm) fun cdv A outer s H vs Q E hr hg h => ⟨fun D σ H => ∃ hid, TSz (C.with hid) (WD E) b D σ H, ?_, ?_⟩
  · exact ⟨fun pins s2 σ H2 D I ⟨hid, q⟩ => (hbody cdv A outer s H E hid hr hg).run pins s2 σ H2 D I q⟩
  · obtain ⟨_, hid, mu, M, ts, R, r, Po⟩ := h
    refine ⟨hid, mu, startS N.length ts, M, R, r.getO N, ?_⟩
    unfold runD at Po
    cases e : b (startS N.length ts) M with
    | nx s1 M1 => rw [e] at Po; exact fun mu' σ' H' R' E' _ => Po mu' .non H' R' E' .non
    | rt t M1 => rw [e] at Po; exact fun mu' v H' R' E' r' => Po mu' v H' R' E' r'
    | bk s1 M1 => rw [e] at Po; exact Po.elim
    | ct s1 M1 => rw [e] at Po; exact Po.elim
    | er er s1 M1 => rw [e] at Po; exact fun mu' σ' c d H' R' E' _ r' => Po mu' c d H' R' E' r'
    | no => rw [e] at Po; exact Po.elim
end
/-! ### the law's call: nothing is tracked but the script -/
theorem law_callG {P : Program} {w : World} {K : PySem.W.Frag} {mg mb : Str → Option Value} {k : Nat} {fa a : Addr} {fd : FuncData} {x : Str} {sp : Sp} {s₁ : Shared} {vs : List Value} {ns : List Int}
    (KX : K.In s₁.heap) (hns : s₁.heap.Ns mainGlobals mg) (hb : s₁.heap.Ns builtinsNs mb) (hbb : ∀ x : Str, x ≠ "__name__" → mb x = bootBuiltins x) (hlim : s₁.heap.NoLimit) (hg : s₁.gens = #[])
    (ha : s₁.heap.get? a = some { cls := .type "list", data := .seq vs.toArray }) (hi : IntsAre vs ns) (hl : ns.length ≤ sizeLine) (hr : Room k callerA) (hK : K.lookup a = none) (hsys : ∃ o, s₁.heap.get? sysModules = some o ∧ o.cls ≠ .type "list")
    (F : ∀ base : Heap, K.In base → base.Ns mainGlobals mg → (∃ o, base.get? sysModules = some o) → FnG P w K mg base CX0 k fa fd [x] sp) (hbind : ∀ (s : Shared) (u : Value), BindsTo s fd ⟨[u], []⟩ [(x, u)])
    (hsp : ∀ (H : Hp) (od : Obj), H a = some (.frz od (.lst (ns.map V.int))) → sp [.ref a] H (fun v _ => v = .bl true) fun _ _ _ => False) :
    codeAny (model P w) callerA (.call (.ref fa) ⟨[.ref a], []⟩) (fun r s' => r = .ok (.ret (.bool true)) ∧ OldK s₁.heap s'.heap ∧ s'.os = s₁.os ∧ AllBare s'.gens) s₁ := by
  have rv := vals_ints hi
  let sc : HO := .frz { cls := .type "list", data := .seq vs.toArray } (.lst (ns.map V.int))
  let H : Hp := fun b => if b = a then some sc else none
  have Ha : H a = some sc := if_pos rfl
  have Hn : ∀ b, b ≠ a → H b = none := fun b h => if_neg h
  have Hs : ∀ b u, H b = some u → b = a ∧ u = sc := fun b u e => by
    by_cases h : b = a
    · subst h; rw [Ha] at e; exact ⟨rfl, (Option.some.inj e).symm⟩
    · rw [Hn b h] at e; cases e
  have hok : HOk P w H s₁.heap := fun b u e => by
    obtain ⟨rfl, rfl⟩ := Hs b u e
    exact ⟨ha, by rw [List.length_map]; exact hl, vs, _, rv, ha⟩
  -- the rest of the heap
  have inB : ∀ {b : Addr} {o : Obj}, s₁.heap.get? b = some o → b ≠ a → (hidT s₁.heap H).get? b = some o := fun e n => hidT_get e (Hn _ n)
  have dictN : ∀ {b : Addr} {o : Obj} {es : Array DictEntry} {ep : Nat}, s₁.heap.get? b = some o → o.data = .dict es ep → b ≠ a := fun {b o es ep} e d z => by
    subst z
    rw [ha] at e; cases e; cases d
  have nsB : ∀ {b : Addr} {m : Str → Option Value}, s₁.heap.Ns b m → (hidT s₁.heap H).Ns b m := fun {b m} ⟨o, es, ep, e, d, r⟩ => ⟨o, es, ep, inB e (dictN e d), d, r⟩
  have KB : K.In (hidT s₁.heap H) := fun b o e => inB (KX b o e) fun z => by subst z; rw [hK] at e; cases e
  have sysB : ∃ o, (hidT s₁.heap H).get? sysModules = some o := by
    obtain ⟨o, e, hc⟩ := hsys
    refine ⟨o, inB e fun z => hc ?_⟩
    rw [z, ha] at e; cases e; rfl
  have hM : Mod K mg (hidT s₁.heap H) := ⟨KB, nsB hns, ⟨mb, nsB hb, hbb⟩, let ⟨mc, h1, h2⟩ := hlim; ⟨mc, nsB h1, h2⟩⟩
  have e0 : Env0 P w K mg (hidT s₁.heap H) callerA [] s₁ H := ⟨rfl, hM, fun b o e => of_hidT e, Nat.le_of_eq (hidT_size _ _), trivial, fun b hb => absurd (show b ∈ ([] : List Addr) from hb) (by simp), hok, .of_eq hg⟩
  refine codeAny_mono ((F _ KB (nsB hns) sysB).run callerA [] s₁ H ⟨[.ref a], []⟩ [.ref a] [.ref a] _ _ hr rfl e0 (hbind s₁ (.ref a)) (.cons rfl .nil) (hsp H _ Ha)) fun r s' h => ?_
  cases r with
  | error e => exact h.elim
  | ok fl =>
    cases fl with
    | next => exact h.elim
    | brk => exact h.elim
    | cont => exact h.elim
    | ret u =>
      obtain ⟨v, H', os, bare, un, hok', r', q⟩ := h
      have q' : v = .bl true := q
      subst q'
      obtain rfl : u = Value.bool true := r'
      refine ⟨rfl, OldK.of_keep fun b o e => ?_, os, bare⟩
      by_cases h : b = a
      · subst h
        obtain ⟨e1, _⟩ := hok b _ Ha
        obtain ⟨e2, _⟩ := hok' b _ (un.frzs b _ _ Ha)
        rw [e] at e1; cases e1
        exact e2
      · exact un.keep b o e (Hn b h) (fun z => absurd (show b ∈ ([] : List Addr) from z) (by simp)) (by simp)
end Z
end
section
set_option Elab.async false
set_option linter.all false
set_option maxRecDepth 100000
set_option maxHeartbeats 4000000
/-! Zw: the head's hook, the law's walk. -/
namespace Z
open PySem PySem.Spec PyProof.Rows L2 PySem.SeqAt

def noList (K : PySem.W.Frag) : Bool := K.all fun p => !(p.2.cls == .type "list")
def sysOk (g : Addr → Option Obj) : Bool := match g sysModules with
  | some o => !(o.cls == .type "list")
  | none => false
/-- the module's tables: texts by texts -/
abbrev TabS : Type := Str × List (Str × Str)
def tabT (tabs : List TabS) : List He.Tab := tabs.map fun p => ((fun K => He.ga K p.1), p.2.map (·.1))
def tabV (tabs : List TabS) (K : PySem.W.Frag) : Bool := tabs.all fun p => He.valsB K (He.ga K p.1) (p.2.map fun q => (q.1, He.Dv.str q.2))
abbrev AlZ : Type := (He.AlT × Bool × Bool) × Bool
def obsK (fa : List He.Fa) (fn : List He.DefD) (tabs : List TabS) (K : PySem.W.Frag) : He.AlT × Bool × Bool := (He.obsT fa fn (tabT tabs) K, tabV tabs K, noList K)
def obsZ (n : Nat) (fa : List He.Fa) (fn : List He.DefD) (tabs : List TabS) (g : Addr → Option Obj) : AlZ := (obsK fa fn tabs (He.frG g (He.asD g n)), sysOk g)
/-- what the head tells of the module -/
structure ModK (fa : List He.Fa) (fn : List He.DefD) (tabs : List TabS) (w : World) (K : PySem.W.Frag) : Prop where
  says : He.SaysT fa fn (tabT tabs) w K
  vals : tabV tabs K = true
  nl : noList K = true
def SaysZ (fa : List He.Fa) (fn : List He.DefD) (tabs : List TabS) (w : World) (h : Heap) : Prop := ∃ K : PySem.W.Frag, K.In h ∧ ModK fa fn tabs w K ∧ ∃ o, h.get? sysModules = some o ∧ o.cls ≠ .type "list"
def hookZ (n : Nat) (fa : List He.Fa) (fn : List He.DefD) (tabs : List TabS) : PySem.W.Hook where
  α := AlZ
  obs := fun s => obsZ n fa fn tabs s.heap.get?
  val := fun w => ((He.valT fn (tabT tabs) w, true, true), true)
  says := fun w h => SaysZ fa fn tabs w h
  of := fun _ _ e => by
    injection e with e0 e3
    injection e0 with e1 e2
    injection e2 with e2 e4
    refine ⟨_, He.frG_in, ⟨e1, e2, e4⟩, ?_⟩
    unfold sysOk at e3
    split at e3
    · rename_i o ho
      exact ⟨o, ho, fun z => by rw [z] at e3; simp at e3⟩
    · cases e3
  keeps := fun _ _ _ ⟨K, hK, c, o, ho, hc⟩ k => ⟨K, PySem.W.Frag.In.keeps hK k, c, o, k _ _ ho, hc⟩
theorem obsZ_eq {n : Nat} {fa : List He.Fa} {fn : List He.DefD} {tabs : List TabS} {g : Addr → Option Obj} {s : Shared} (h : ∀ a, g a = s.heap.get? a) : obsZ n fa fn tabs g = (hookZ n fa fn tabs).obs s := by
  have e : g = s.heap.get? := funext h
  rw [e] <;> rfl
/-- a table of the module at a -/
structure KT (K : PySem.W.Frag) (w : World) (a : Addr) (ks : List (Str × Str)) : Prop where
  ex : ∃ es n, KDict K w a es n ∧ ∀ z : Str, match ks.lookup z with
    | some y => ∃ t, findBy Value.isStrOf es z = some (.str y t)
    | none => findBy Value.isStrOf es z = none
theorem keysIn_of {P : Params} : ∀ {l : List DictEntry} {ks : List Str}, l.map He.keyOf = He.keysIn P ks → l.map (·.key) = l.map (·.key) ∧ ∀ e ∈ l, ∃ x t, e.key = .str x t ∧ x ∈ ks
  | [], _, _ => ⟨rfl, fun e h => by cases h⟩
  | e :: r, [], h => by cases h
  | e :: r, k :: ks, h => by
    have h1 : He.keyOf e :: r.map He.keyOf = some (k, PyData.keyHash P k) :: He.keysIn P ks := h
    injection h1 with h2 h3
    refine ⟨rfl, fun e' he => ?_⟩
    rcases List.mem_cons.mp he with rfl | he
    · unfold He.keyOf at h2
      split at h2
      · rename_i x t q
        have h4 := Option.some.inj h2
        obtain ⟨h5, h6⟩ := Prod.mk.inj h4
        exact ⟨x, t, q, by rw [h5]; exact List.mem_cons_self ..⟩
      · cases h2
    · obtain ⟨x, t, q, hm⟩ := (keysIn_of h3).2 e' he
      exact ⟨x, t, q, List.mem_cons_of_mem _ hm⟩
theorem ModK.tab {fa : List He.Fa} {fn : List He.DefD} {tabs : List TabS} {w : World} {K : PySem.W.Frag} (M : ModK fa fn tabs w K) (i : Nat) {x : Str} {ks : List (Str × Str)} (h : tabs[i]? = some (x, ks)) : KT K w (He.ga K x) ks := by
  have ht : (tabT tabs)[i]? = some ((fun K => He.ga K x), ks.map (·.1)) := by unfold tabT; rw [List.getElem?_map, h]; rfl
  have e : (tabT tabs).map (fun t => He.dicW K (t.1 K)) = (tabT tabs).map fun t => some (He.keysIn w.params t.2) := congrArg (fun z : He.AlT => z.2) M.says
  have e2 : ((tabT tabs).map fun t => He.dicW K (t.1 K))[i]? = ((tabT tabs).map fun t => some (He.keysIn w.params t.2))[i]? := by rw [e]
  rw [List.getElem?_map, List.getElem?_map, ht] at e2
  have e3 : He.dicW K (He.ga K x) = some (He.keysIn w.params (ks.map (·.1))) := Option.some.inj e2
  obtain ⟨es, n, kd⟩ := He.dicW_ok e3
  have vb : He.valsB K (He.ga K x) (ks.map fun q => (q.1, He.Dv.str q.2)) = true := List.all_eq_true.mp M.vals (x, ks) (List.mem_of_getElem? h)
  have ek : es.toList.map He.keyOf = He.keysIn w.params (ks.map (·.1)) := by
    have q := e3
    unfold He.dicW at q
    rw [kd.at_] at q
    have low := kd.low
    simp only [low] at q
    simpa using q
  refine ⟨es, n, kd, fun z => ?_⟩
  cases hz : ks.lookup z with
  | some y =>
    have hm : (z, y) ∈ ks := by
      clear h e e2 e3 vb ek kd ht M
      induction ks with
      | nil => simp at hz
      | cons p r ih =>
        rw [List.lookup_cons] at hz
        by_cases c : z = p.1
        · rw [c] at hz ⊢
          simp at hz
          rw [← hz]
          exact List.mem_cons_self ..
        · have c' : (z == p.1) = false := by simpa using c
          rw [c'] at hz
          exact List.mem_cons_of_mem _ (ih hz)
    obtain ⟨u, h1, t, rfl⟩ := He.valsB_ok vb (q := (z, .str y)) (List.mem_map.mpr ⟨(z, y), hm, rfl⟩)
    exact ⟨t, PySem.W.find_K kd.at_ h1⟩
  | none =>
    show findBy Value.isStrOf es z = none
    have no : ∀ e ∈ es.toList, Value.isStrOf z e.key = false := fun e he => by
      obtain ⟨k, t, q, hm⟩ := (keysIn_of ek).2 e he
      rw [q]
      show (k == z) = false
      rw [beq_eq_false_iff_ne]
      intro c
      subst c
      have : (ks.lookup k).isSome = true := by
        clear h e2 e3 vb ek kd ht M he hz
        induction ks with
        | nil => simp at hm
        | cons p r ih =>
          rw [List.lookup_cons]
          by_cases c : k = p.1
          · have c' : (k == p.1) = true := by simpa using c
            rw [c']; rfl
          · have c' : (k == p.1) = false := by simpa using c
            rw [c']
            rw [List.map_cons, List.mem_cons] at hm
            exact ih (hm.resolve_left c)
      rw [hz] at this; cases this
    unfold findBy
    rw [Option.map_eq_none_iff]
    rw [← Array.find?_toList]
    rw [List.find?_eq_none]
    intro e he
    rw [no e he]
    simp
theorem mem_look {a : Addr} {o : Obj} : ∀ {K : PySem.W.Frag}, K.lookup a = some o → (a, o) ∈ K
  | [], e => nomatch (show (none : Option Obj) = some o from e)
  | (b, u) :: r, e => by
    by_cases h : a = b
    · subst h
      have : (some u : Option Obj) = some o := by simpa [List.lookup_cons] using e
      cases this
      exact List.mem_cons_self ..
    · have hb : (a == b) = false := by simpa using h
      rw [List.lookup_cons, hb] at e
      exact List.mem_cons_of_mem _ (mem_look e)
theorem noList_at {K : PySem.W.Frag} (h : noList K = true) {a : Addr} {o : Obj} (e : K.lookup a = some o) : o.cls ≠ .type "list" := fun z => by
  have hm : (a, o) ∈ K := mem_look e
  have := List.all_eq_true.mp h (a, o) hm
  simp [z] at this
/-- the law's walk -/
theorem walk_ofG {l : PySem.W.OpenLaw} {n k : Nat} {q : Program} {loose : List Str} {XP : (Str → Option Value) → Heap → Prop} {fa : List He.Fa} {fn : List He.DefD} {tabs : List TabS} {d : DefRec} {x : Str}
    (hn : l.most = some n) (hn2 : n ≤ sizeLine) (hdf : d.params.defaults = []) (hr : Room k callerA)
    (F : ∀ (w : World) (mg : Str → Option Value) (f : Addr) (h : Heap) (K : PySem.W.Frag), K.In h → ModK fa fn tabs w K → h.Ns mainGlobals mg → mg d.name = some (.ref f) →
      ∃ (fd : FuncData) (sp : Sp), (∀ (s : Shared) (u : Value), BindsTo s fd ⟨[u], []⟩ [(x, u)]) ∧
        (∀ (H : Hp) (a : Addr) (ns : List Int) (od : Obj), ns.length ≤ n → H a = some (.frz od (.lst (ns.map V.int))) → sp [.ref a] H (fun v _ => v = .bl true) fun _ _ _ => False) ∧
        ∀ base : Heap, K.In base → base.Ns mainGlobals mg → (∃ o, base.get? sysModules = some o) → FnG l.prog w K mg base CX0 k f fd [x] sp) :
    PySem.W.WalkO q loose XP (fun w h => SaysZ fa fn tabs w h) l.row.toRowW d [] (fun f vs => PySem.call f vs) := by
  refine Att.attach_call hn hdf fun w s₀ s₁ mg mb f o pm cd doc a vs ns G Y ho hd hcd hmg hobj hints hlen hg => ?_
  obtain ⟨K, KX, c, sys⟩ := Y
  obtain ⟨fd, sp, hb, hsp, hF⟩ := F w mg f _ K KX c G.T.g hmg
  have hKa : K.lookup a = none := by
    cases e : K.lookup a with
    | none => rfl
    | some oa =>
      exfalso
      have e2 := KX a oa e
      rw [hobj] at e2
      cases e2
      exact noList_at c.nl e rfl
  exact law_callG KX G.T.g G.T.b G.T.builtins G.T.nolimit hg hobj hints (Nat.le_trans hlen hn2) hr hKa sys hF hb fun H od hH => hsp H a ns od hlen hH
end Z
end
section
set_option Elab.async false
set_option linter.all false
set_option maxRecDepth 100000
set_option maxHeartbeats 4000000
/-! Zx: a call with no cells whose answer is a new cell. -/
namespace Z
open PySem PySem.Spec PyProof.Rows L2 PySem.SeqAt

/-- called with none of the caller's cells; a cell that comes back is the caller's from now on -/
def runN (F : DF) (ts : List T) (M : Mem) : Out T := if noCelL ts = true then (match F ts [] with
  | .ok (.cel i) M' => (match M'[i]? with
    | some (.live u) => if noCel u = true then .ok (.cel M.length) (M ++ [.live u]) else .no
    | _ => .no)
  | .er e _ => if noCelF e.fs = true then .er e M else .no
  | _ => .no) else .no
def dCallN (n : Nat) (F : DF) (dts : List T) (da : DA) : DE := fun s M => (da s M).bind fun ts M1 => if (ts ++ dts).length = n then runN F (ts ++ dts) M1 else .no
section
variable {C : Cfg} {mu mu' : Mu} {M : Mem} {H : Hp} {n : Nat} {F : DF} {Q : VK} {E : XK}
theorem CU.pure {C' : Cfg} (hK : C'.K = C.K) (hg : C'.ga = C.ga) (hA : ∀ (a : Addr) (o : HO), H a = some o → Av C mu a → Av C' mu' a) {t : T} {u : HO} (c : noCel t = true) (h : CU C mu H t u) : CU C' mu' H t u := by
  unfold CU at h ⊢
  split at h
  · exact RepL.pure (C := C) (C' := C') hK hg hA c h
  · exact RepD.pure (C := C) (C' := C') hK hg hA c h
  · exact ⟨by rw [hg]; exact h.1, RepF.pure (C := C) (C' := C') hK hg hA c h.2⟩
  · exact h.elim
theorem spz_N {ts : List T} {vs : List V} (hl : ts.length = n) (R : RM C mu M H) (r : RepL C mu H ts vs) (P : Post C mu H (runN F ts M) (RV C) Q E) : SpZ C n F vs H Q E := by
  unfold runN at P
  by_cases c : noCelL ts = true
  · rw [if_pos c] at P
    let hid : Addr → Prop := fun a => C.hid a ∨ some a ∈ mu
    have hA : ∀ (a : Addr) (o : HO), H a = some o → Av C mu a → Av (C.with hid) [] a := fun a o _ n => ⟨by simp, fun z => z.elim n.2 n.1⟩
    have dom : ∀ a : Addr, (C.with hid).hid a → ∃ o, H a = some o := fun a z => z.elim (R.hid a) R.mem
    have back : ∀ {mu' : Mu} {H' : Hp}, Ext (C.with hid) [] H mu' H' → Ext C mu H mu H' ∧ RM C mu M H' := fun {mu' H'} x => by
      have x' : Ext C mu H mu H' := ⟨Nat.le_refl _, fun _ _ _ h => h, fun a u h _ => x.rd a u h (by simp), fun a o h _ d => x.obj a o h (by simp) d, fun a o h _ d => x.hid a o h (by simp) (.inl d), fun _ _ _ n => n⟩
      exact ⟨x', R.keep x' fun a o hm h => x.hid a o h (by simp) (.inr hm)⟩
    have bA : ∀ {mu' : Mu} {H' : Hp}, ∀ (a : Addr) (o : HO), H' a = some o → Av (C.with hid) mu' a → Av C mu a := fun a o _ n => ⟨fun z => n.2 (.inr z), fun z => n.2 (.inl z)⟩
    refine ⟨by rw [← r.length]; exact hl, hid, [], [], ts, RM.nil dom, RepL.pure (C := C) (C' := C.with hid) (mu := mu) (mu' := []) rfl rfl hA c r, ?_⟩
    cases e : F ts [] with
    | ok t M' =>
      rw [e] at P
      cases t with
      | cel i =>
        simp only at P
        split at P
        · rename_i u hu
          split at P
          · rename_i cu
            intro mu' v H' R' x rv
            obtain ⟨x', R2⟩ := back x
            obtain ⟨a, o, g1, g2, g3⟩ := R'.cell i u hu
            have ev : v = .ref a := by
              cases rv with
              | cel hi hv => exact hv a g1
            subst ev
            have hm : some a ∈ mu' := List.mem_of_getElem? g1
            have nh := R'.nh a hm
            have nm : some a ∉ mu := fun z => nh (.inr z)
            have nc : ¬ C.hid a := fun z => nh (.inl z)
            have old : H a = none := by
              cases q : H a with
              | none => rfl
              | some w => exact absurd hm (x.own a w q (by simp))
            -- what lies in the callee's cell is nobody's cell
            have cu2 : CU (C.and a) mu H' u o := CU.pure (C := C.with hid) (C' := C.and a) (mu := mu') (mu' := mu) rfl rfl (fun b w _ nb => ⟨fun z => nb.2 (.inr z), fun z => z.elim (fun z => nb.2 (.inl z)) fun z => nb.1 (by rw [z]; exact hm)⟩) cu g3
            have R3 : RM (C.and a) mu M H' := by
              have xh : Ext (C.and a) mu H mu H' := x'.hideNew old
              refine ⟨R2.len, fun j t h => ?_, fun j t h => ?_, R2.dead, R2.inj, fun b z => ?_, fun b hb z => ?_⟩
              · obtain ⟨b, w, h1, h2, h3⟩ := R.cell j t h
                exact ⟨b, w, h1, x.hid b w h2 (by simp) (.inr (List.mem_of_getElem? h1)), (CU.hide (C := C) (C' := C.and a) rfl rfl (hA_new old) h3).mono xh⟩
              · obtain ⟨b, od, w, h1, h2, h3⟩ := R.lock j t h
                exact ⟨b, od, w, h1, x.hid b _ h2 (by simp) (.inr (List.mem_of_getElem? h1)), (CU.hide (C := C) (C' := C.and a) rfl rfl (hA_new old) h3).mono xh⟩
              · rcases z with z | z
                · exact R2.hid b z
                · exact ⟨o, by rw [z]; exact g2⟩
              · rcases z with z | z
                · exact R2.nh b hb z
                · rw [z] at hb; exact nm hb
            refine P (mu ++ [some a]) (.ref a) H' (R3.adopt g2 nc cu2) (x'.adopt old) (.cel (by rw [← R.len]; simp) fun b h => ?_)
            rw [← R.len] at h
            have : some a = some b := by simpa using h
            rw [Option.some.inj this]
          · exact P.elim
        · exact P.elim
      | _ => exact P.elim
    | er er M' =>
      rw [e] at P
      simp only at P
      by_cases ct : noCelF er.fs = true
      · rw [if_pos ct] at P
        intro mu' cv d H' R' x rv
        obtain ⟨x', R2⟩ := back x
        obtain ⟨h1, a, ws, h2, h3, h4, h5⟩ := rv
        exact P mu cv d H' R2 x' ⟨h1, a, ws, h2, h3, bA (H' := H') a _ h3 h4, RepF.pure (C := C.with hid) (C' := C) (mu := mu') rfl rfl (fun a o h n => bA (H' := H') a o h n) ct h5⟩
      · rw [if_neg ct] at P; exact P.elim
    | no => rw [e] at P; exact P.elim
  · rw [if_neg c] at P; exact P.elim
end
section
variable {X : Cx} {C : Cfg} {W : WX} {CX : CXT} {n : Nat} {F : DF} {dts : List T} {x : Str} {p pos : Pos} {es : List Expr} {da : DA}
theorem s_callN {e : Expr} (c : CalZ X C CX x n F dts) (hx : ∀ σ, PassesAt CX X σ (WE W σ)) (ha : PA X (e :: es) (TAz C W da)) (he : starEach (e :: es) X.env = (false, eval e X.env) :: starEach es X.env := by rfl) (hpl : (backTo pos (starEach es X.env)).any (·.1) = false := by rfl) :
    PE X (.Call (.Name x p) (e :: es) [] pos) (TEz C W (dCallN n F dts da)) :=
  call_go (d2 := fun ts M => if ts.length = n then runN F ts M else .no) c (fun {mu M H ts vs Q E} R r P => by
    by_cases c : (ts ++ dts).length = n
    · rw [if_pos c] at P; exact spz_N c R r P
    · rw [if_neg c] at P; exact P.elim) hx ha he hpl
end
end Z
end
section
set_option Elab.async false
set_option linter.all false
set_option maxRecDepth 100000
set_option maxHeartbeats 4000000
/-! Zy: names of the module; tables; try; what a call needs. -/
namespace Z
open PySem PySem.Spec PyProof.Rows L2 PySem.SeqAt

section
variable {X : Cx} {C : Cfg} {W : WX} {x : Str} {pos : Pos}
/-- a constant of the module -/
theorem s_gc {t : T} {v : V} (hg : Gl X x) (h : ∃ u, X.mg x = some u ∧ RelV v u) (r : ∀ mu H, Rep C mu H t v) (hd : (x == ("__debug__" : Str)) = false := by decide) : PE X (.Name x pos) (TEz C W (dC t)) :=
  s_c (by obtain ⟨u, hm, rr⟩ := h; exact pe_glob hg hm rr hd) r
/-- a built-in type's name -/
theorem s_ty {n : String} (hg : Gl X x) (hm : X.mg x = none) (hv : bootBuiltins x = some (.type n)) (hn : x ≠ "__name__" := by decide) (hd : (x == ("__debug__" : Str)) = false := by decide) : PE X (.Name x pos) (TEz C W (dC (.ty n))) :=
  ⟨fun pins s σ H Q I ⟨mu, sg, M, R, S, P⟩ => ld_blt I hg hm hv ⟨.ty n, H, I, rfl, P mu (.ty n) H R Ext.refl (.ty n)⟩ hn hd⟩
/-- a table of the module, d.get(k) -/
def dKget (ks : List (Str × Str)) (de : DE) : DE := fun s M => (de s M).bind fun t M1 => match t with
  | .str z => .ok (match ks.lookup z with
    | some y => .str y
    | none => .non) M1
  | _ => .no
theorem s_kget {a : Addr} {ks : List (Str × Str)} {e : Expr} {de : DE} {p apos cpos : Pos} (hu : X.A.units + 1 < cLine) (kt : KT X.K X.w a ks) (hg : Gl X x) (hm : X.mg x = some (.ref a)) (he : PE X e (TEz C W de)) (m : M1 X (.Name x p) "get" apos e cpos) (hd : (x == ("__debug__" : Str)) = false := by decide) :
    PE X (.Call (.Attribute (.Name x p) "get" apos) [e] [] cpos) (TEz C W (dKget ks de)) := by
  refine ⟨fun pins s σ H Q I ⟨mu, sg, M, R, S, P⟩ => ?_⟩
  obtain ⟨es, n, kd, hks⟩ := kt.ex
  refine wpAny_Call_method m.base m.few m.line PySem.F.plainAttrs_dict PySem.F.slot_dict_get PySem.F.type_dict_get (ld_glob I hg hm ?_ hd)
  have hty : s.TypeIs (.ref a) "dict" := kd_type kd I
  refine ⟨hty, fun b q => ?_, ?_⟩
  · cases q
    exact ⟨_, I.kIn _ _ kd.at_, rfl⟩
  · rw [m.trees]
    refine Calls.callWith_builtin rfl (Calls.evalArgs_plain (Calls.spliced_cons (thn (he.run pins s σ H (fun y H2 => ∃ z, y = .str z ∧ Q (match ks.lookup z with
      | some y => .str y
      | none => .non) H2) I ⟨mu, sg, M, R, S, P.bind fun t M1 mu1 y H1 R1 E1 r1 P1 => ?_⟩) fun iv s2 ⟨y, H2, I2, ry, z, ey, q2⟩ => Calls.spliced_nil ?_)))
    · split at P1
      · rename_i z
        cases r1
        refine ⟨z, rfl, P1 mu1 _ H1 R1 Ext.refl ?_⟩
        cases ks.lookup z with
        | some y => exact .str y
        | none => exact .non
      · exact P1.elim
    · subst ey
      obtain ⟨t, rfl⟩ := ry
      have mp := PySem.W.mapOf_K (prog := X.prog) (w := X.w) I2.kIn kd.at_ kd.lit
      refine call_meetsIn PySem.F.slot_dict_get (kd_type kd I2) PySem.F.entry_dict_get (PySem.F.args_dict_get_2 _ _) (meets_dict_get (PySem.strKind X.prog X.w) a (PySem.strKind_is X.prog X.w z t) kd.low) ⟨_, mp, ?_⟩
      have hz := hks z
      cases e : ks.lookup z with
      | some y =>
        rw [e] at hz q2
        obtain ⟨t2, hz⟩ := hz
        rw [hz]
        exact ⟨.str y, H2, I2.tok _, ⟨t2, rfl⟩, q2⟩
      | none =>
        rw [e] at hz q2
        rw [hz]
        exact ⟨.non, H2, I2.tok _, rfl, q2⟩
/-- a try whose body raises nothing -/
def dTry (b : DS) : DS := fun s M => match b s M with
  | .er _ _ _ => .no
  | o => o
theorem s_try {body : List Stmt} {h₀ : ExceptHandler} {hs : List ExceptHandler} {b : DS} (hb : PSs X.nox body (TSz C WF b)) : PS X (.Try body (h₀ :: hs) [] [] pos) (TSz C W (dTry b)) :=
  ps_weak (ps_try_thru0 hb) fun D σ H ⟨mu, s, M, R, S, P⟩ => ⟨mu, s, M, R, S, by
    unfold dTry at P
    cases e : b s M with
    | nx s1 M1 => rw [e] at P; exact P
    | rt t M1 => rw [e] at P; exact P
    | bk s1 M1 => rw [e] at P; exact P
    | ct s1 M1 => rw [e] at P; exact P
    | er er s1 M1 => rw [e] at P; exact P.elim
    | no => rw [e] at P; exact P⟩
end
/-! ### what a call needs -/
structure CalG (P : Program) (w : World) (K : PySem.W.Frag) (mg : Str → Option Value) (base : Heap) (C : Cfg) (x : Str) (k n : Nat) (F : DF) (dts : List T) : Prop where
  ex : ∃ (f : Addr) (fd : FuncData) (ps : List Str) (ds : List Value) (dvs : List V), FnG P w K mg base CX0 k f fd ps (SpZ C n F) ∧ mg x = some (.ref f) ∧ PySem.W.keepIn K (.ref f) = true ∧
    Binds K fd ps ds ∧ Vals dvs ds ∧ (∀ hid mu H, RepL (C.with hid) mu H dts dvs)
theorem CalG.z {X : Cx} {C : Cfg} {x : Str} {j k n : Nat} {F : DF} {dts : List T} (c : CalG X.prog X.w X.K X.mg X.base C x k n F dts) (hr : Room j X.A) (hk : k ≤ j) (hgu : X.A.guards = some []) (hg : Gl X x) (hid : Addr → Prop) (hd : (x == ("__debug__" : Str)) = false := by decide) : CalZ X (C.with hid) CX0 x n F dts := by
  obtain ⟨f, fd, ps, ds, dvs, h1, h2, h3, h4, h5, h6⟩ := c.ex
  exact ⟨k, f, fd, ps, ds, dvs, h1, hr.mono hk, hgu, hg, h2, h3, h4, h5, fun hid' mu H => h6 hid' mu H, hd⟩
theorem pass0s {X : Cx} {W : WX} : ∀ σ, PassesAt CX0 X σ (WE W σ) := fun _ _ _ _ _ _ _ h => h.elim
end Z
end
section
set_option Elab.async false
set_option linter.all false
set_option maxRecDepth 100000
set_option maxHeartbeats 4000000
/-! Zz: a loop's turn leaves no cells behind; freezing at a statement; name = {..} on one line; max with default; displays. -/
namespace L2
open PySem PySem.Spec PyProof.Rows
theorem Room.units1 {k : Nat} {A : Around} (r : Room k A) : A.units + 1 < cLine := by have := r.un; omega
/-- name = {k: v for ..} on one line, the name a local -/
theorem ps_setDc {X : Cx} {i : Nat} {y : Str} {py : Pos} {kx vx tg iter : Expr} {ifs : List Expr} {scope : Scope} {own : List (Str × Nat)} {pos spos : Pos} {wi : TI} {g : TG} {tt : TT} {tk tv : TE} (hc : X.calm = true) (hN : X.N.Nodup) (hy : X.N[i]? = some y) (hyl : X.env.scope.names.lookup y = some .local)
    (hsw : swapsWith (.DictComp kx vx [⟨tg, iter, ifs, 0⟩] scope pos) (some (.Name y py)) spos.line X.env = pure true) (hi : PI X tg iter wi) (ok : BlkOk X.N X.env.scope scope own)
    (hg : ∀ (s : Shared) (H : Hp) (C : Addr) (cl : List (Str × Addr)) (fp : List Addr), PG (X.blk s H scope (compEnvC scope cl C X.env) fp) tg g) (ht : ∀ (s : Shared) (H : Hp) (C : Addr) (cl : List (Str × Addr)) (fp : List Addr), PTs (X.blk s H scope (compEnvC scope cl C X.env) fp) ifs tt)
    (hk : ∀ (s : Shared) (H : Hp) (C : Addr) (cl : List (Str × Addr)) (fp : List Addr), PE (X.blk s H scope (compEnvC scope cl C X.env) fp) kx tk)
    (he : ∀ (s : Shared) (H : Hp) (C : Addr) (cl : List (Str × Addr)) (fp : List Addr), PE (X.blk s H scope (compEnvC scope cl C X.env) fp) vx tv) (hs : ∀ x, foldedSetIterable iter X.env x = pure x := by intro _; rfl) :
    PS X (.Assign [.Name y py] (.DictComp kx vx [⟨tg, iter, ifs, 0⟩] scope pos) spos) (tAsg (tDc wi g tt tk tv (own.map (·.2))) (gName i)) := by
  refine ⟨fun pins s σ H D I h => ?_⟩
  rw [exec_Assign_Name_used _ _ _ _ hsw]
  refine wpAny_bind (wpAny_standAt (wpAny_bind ?_))
  show wpAny _ X.A (do let _ ← comprehension (.DictComp kx vx [⟨tg, iter, ifs, 0⟩] scope pos) scope X.env (firstIterPos [⟨tg, iter, ifs, 0⟩] pos) newDict false (eval iter X.env) (some (assign (.Name y py) X.env))) _ _ s
  have h : tDc wi g tt tk tv (own.map (·.2)) σ H (fun x H1 => gName i x σ H1 D.nx) := h
  refine wpAny_bind (thn (dc_core (Qf := fun _ s' => SP X pins D .next s') hc hN I hi ok hg ht hk he hs h fun L C s' m H' I' q hn f => ?_) fun _ s' hq => wpAny_pure (wpAny_pure hq))
  show wpAny _ _ (assign (.Name y py) X.env (.ref L)) _ _ _
  refine wpAny_assign_Name (store_ok2 (v := V.ref L) I' hN hy (.inl hyl) rfl (fun s2 I2 ⟨a, sb, ha⟩ => ?_) (.inr hyl))
  obtain ⟨f0, f1, f2, f3, f4, f5⟩ := f
  have haC : C ≠ a := by
    rcases ha with z | z
    · rw [z]; exact f1
    · exact fun e => f4 y a z e.symm
  refine ⟨m, hn.sameBut sb haC, fun h3 sb3 => ?_⟩
  exact ⟨_, H', I2.turned (t' := s2.toks) (fun b o hb e => (sb3.2 b hb).trans e) f0 f1 f3 f4 f5, q⟩
theorem sw_trueD {kx vx : Expr} {gs : List Comprehension} {scope : Scope} {pos py : Pos} {y : Str} {l : Nat} {env : Env} (hk : env.scope.kind = .function) (hy : env.scope.names.lookup y = some .local) (hl : (py.line == pos.line) = true)
    (ha : (scope.names.any fun (n, k) => n == y && (k == .local || k == .cell)) = false) : swapsWith (.DictComp kx vx gs scope pos) (some (.Name y py)) l env = pure true := by
  have ky : env.kindOf y = some .local := hy
  have hb : env.blockKind = .function := by unfold Env.blockKind; rw [hk]; rfl
  unfold swapsWith
  simp only [hb, ky, ha, Expr.pos, hl]
  rfl
end L2
namespace Z
open PySem PySem.Spec PyProof.Rows L2 PySem.SeqAt
section
variable {X : Cx} {C : Cfg} {W : WX}
theorem s_setDc (hK : C.K = X.K) (hc : X.calm = true) (m : Bool) {i : Nat} {y : Str} {py spos : Pos} {kx vx tg iter : Expr} {ifs : List Expr} {scope : Scope} {own : List (Str × Nat)} {pos : Pos} {di : DA} {g : DG} {tt : DT} {dk de : DE} (hy : X.N[i]? = some y) (hyl : X.env.scope.names.lookup y = some .local)
    (hsw : swapsWith (.DictComp kx vx [⟨tg, iter, ifs, 0⟩] scope pos) (some (.Name y py)) spos.line X.env = pure true) (hi : PI X tg iter (iZ C W di)) (B : BlkZ X C scope own tg ifs g tt)
    (hk : ∀ (s : Shared) (H : Hp) (D : Addr) (cl : List (Str × Addr)) (fp : List Addr) (hid : Addr → Prop), PE (X.blk s H scope (compEnvC scope cl D X.env) fp) kx (TEz (C.with hid) WF dk))
    (he : ∀ (s : Shared) (H : Hp) (D : Addr) (cl : List (Str × Addr)) (fp : List Addr) (hid : Addr → Prop), PE (X.blk s H scope (compEnvC scope cl D X.env) fp) vx (TEz (C.with hid) WF de)) (hs : ∀ x, foldedSetIterable iter X.env x = pure x := by intro _; rfl) :
    PS X (.Assign [.Name y py] (.DictComp kx vx [⟨tg, iter, ifs, 0⟩] scope pos) spos) (TSz C W (dAsg i (dDc m di g tt dk de (own.map (·.2))))) :=
  ps_weak (ps_setDc hc B.hN hy hyl hsw hi B.ok (fun s H D cl fp => ⟨fun pins s2 σ H2 v u Q I r ⟨hid, q⟩ => (B.hg s H D cl fp hid).run pins s2 σ H2 v u Q I r q⟩) (fun s H D cl fp => ⟨fun pins s2 σ H2 Q I ⟨hid, q⟩ => (B.ht s H D cl fp hid).run pins s2 σ H2 Q I q⟩)
    (fun s H D cl fp => ⟨fun pins s2 σ H2 Q I ⟨hid, q⟩ => (hk s H D cl fp hid).run pins s2 σ H2 Q I q⟩) (fun s H D cl fp => ⟨fun pins s2 σ H2 Q I ⟨hid, q⟩ => (he s H D cl fp hid).run pins s2 σ H2 Q I q⟩) hs) fun D σ H ⟨mu, s, M, R, S, P⟩ =>
      dc_go (W := W) (m := m) hK ⟨mu, s, M, R, S, P.bind S fun t M1 mu1 x H1 R1 E1 r1 P1 => P1 mu1 _ H1 R1 Ext.refl ((S.mono E1).set i r1)⟩
/-! ### freezing ahead of a statement -/
def dFrzV (i : Nat) (b : DS) : DS := fun s M => match s[i]? with
  | some (some t) => (match frz frzDepth t M with
    | some (t', M') => b (s.set i (some t')) M'
    | none => .no)
  | _ => .no
theorem RS.setT {mu : Mu} {H : Hp} {s : Sg} {σ : L2.St} {t : T} {v : V} {i : Nat} (R : RS C mu H s σ) (hv : σ[i]? = some (some v)) (r : Rep C mu H t v) : RS C mu H (s.set i (some t)) σ := by
  refine ⟨by simpa using R.len, fun j t2 h => ?_⟩
  by_cases hj : j = i
  · subst hj
    have hl : j < s.length := by
      have := (List.getElem?_eq_some_iff.mp h).1
      simpa using this
    rw [List.getElem?_set_self hl] at h
    cases h
    exact ⟨v, hv, r⟩
  · rw [List.getElem?_set_ne (Ne.symm hj)] at h
    exact R.at_ j t2 h
theorem ss_frzV {sts : List Stmt} {b : DS} (i : Nat) (h : PSs X sts (TSz C W b)) : PSs X sts (TSz C W (dFrzV i b)) :=
  pss_weak h fun D σ H ⟨mu, s, M, R, S, P⟩ => by
    unfold dFrzV at P
    split at P
    · rename_i t ht
      split at P
      · rename_i t' M' e
        obtain ⟨v, hv, rv⟩ := S.at_ i t ht
        obtain ⟨mu', R', E', r'⟩ := frz_ok frzDepth t M M' t' mu H v R rv e
        exact ⟨mu', _, M', R', (S.mono E').setT hv r', PostS.ext P E'⟩
      · exact P.elim
    · exact P.elim
end
/-! ### what names no cell from n on -/
mutual
def celB (n : Nat) : T → Bool
  | .cel i => decide (i < n)
  | .tup xs => celBL n xs
  | .lst xs => celBL n xs
  | .fz xs => celBL n xs
  | .dct ks => celBF n ks
  | .ins _ fs => celBF n fs
  | _ => true
def celBL (n : Nat) : List T → Bool
  | [] => true
  | t :: r => celB n t && celBL n r
def celBF (n : Nat) : List (Str × T) → Bool
  | [] => true
  | p :: r => celB n p.2 && celBF n r
end
mutual
theorem celB_of {n : Nat} : ∀ {t : T}, noCel t = true → celB n t = true
  | .cel _, h => by simp [noCel] at h
  | .tup xs, h => by simp only [noCel] at h; simp only [celB]; exact celBL_of h
  | .lst xs, h => by simp only [noCel] at h; simp only [celB]; exact celBL_of h
  | .fz xs, h => by simp only [noCel] at h; simp only [celB]; exact celBL_of h
  | .dct ks, h => by simp only [noCel] at h; simp only [celB]; exact celBF_of h
  | .ins _ fs, h => by simp only [noCel] at h; simp only [celB]; exact celBF_of h
  | .non, _ => by simp only [celB]
  | .bl _, _ => by simp only [celB]
  | .int _, _ => by simp only [celB]
  | .str _, _ => by simp only [celB]
  | .ty _, _ => by simp only [celB]
  | .ob _, _ => by simp only [celB]
theorem celBL_of {n : Nat} : ∀ {t : List T}, noCelL t = true → celBL n t = true
  | [], _ => by simp only [celBL]
  | t :: r, h => by simp only [noCelL, Bool.and_eq_true] at h; simp only [celBL, Bool.and_eq_true]; exact ⟨celB_of h.1, celBL_of h.2⟩
theorem celBF_of {n : Nat} : ∀ {t : List (Str × T)}, noCelF t = true → celBF n t = true
  | [], _ => by simp only [celBF]
  | t :: r, h => by simp only [noCelF, Bool.and_eq_true] at h; simp only [celBF, Bool.and_eq_true]; exact ⟨celB_of h.1, celBF_of h.2⟩
end
section
variable {C : Cfg} {mu : Mu} {M : Mem} {H : Hp} {n : Nat}
theorem av_take {a : Addr} (h : Av C mu a) : Av C (mu.take n) a := ⟨fun z => h.1 (List.mem_of_mem_take z), h.2⟩
mutual
theorem Rep.cut (hn : n ≤ mu.length) : ∀ {t : T} {v : V}, celB n t = true → Rep C mu H t v → Rep C (mu.take n) H t v
  | _, _, _, .non => .non
  | _, _, _, .bl b => .bl b
  | _, _, _, .int i => .int i
  | _, _, _, .str x => .str x
  | _, _, _, .ty m => .ty m
  | _, _, _, .ob x => .ob x
  | _, _, c, .tup h r => .tup (h.elim (fun q => .inl ⟨q.1, av_take q.2⟩) .inr) (RepL.cut hn (by simpa only [celB] using c) r)
  | _, _, c, .lst h r => .lst ⟨h.1, av_take h.2⟩ (RepL.cut hn (by simpa only [celB] using c) r)
  | _, _, c, .fz h r => .fz ⟨h.1, av_take h.2⟩ (RepL.cut hn (by simpa only [celB] using c) r)
  | _, _, c, .dct h r => .dct ⟨h.1, av_take h.2⟩ (RepD.cut hn (by simpa only [celB] using c) r)
  | _, _, c, .ins h r => .ins ⟨h.1, av_take h.2⟩ (RepF.cut hn (by simpa only [celB] using c) r)
  | .cel i, _, c, .cel h q => by
    have hi : i < n := by simpa only [celB, decide_eq_true_eq] using c
    exact .cel (by rw [List.length_take]; omega) fun a k => q a (by rw [List.getElem?_take, if_pos hi] at k; exact k)
theorem RepL.cut (hn : n ≤ mu.length) : ∀ {t : List T} {v : List V}, celBL n t = true → RepL C mu H t v → RepL C (mu.take n) H t v
  | _, _, _, .nil => .nil
  | _, _, c, .cons h r => by
    simp only [celBL, Bool.and_eq_true] at c
    exact .cons (Rep.cut hn c.1 h) (RepL.cut hn c.2 r)
theorem RepD.cut (hn : n ≤ mu.length) : ∀ {t : List (Str × T)} {v : List (Key × V)}, celBF n t = true → RepD C mu H t v → RepD C (mu.take n) H t v
  | _, _, _, .nil => .nil
  | _, _, c, .cons h r => by
    simp only [celBF, Bool.and_eq_true] at c
    exact .cons (Rep.cut hn c.1 h) (RepD.cut hn c.2 r)
theorem RepF.cut (hn : n ≤ mu.length) : ∀ {t : List (Str × T)} {v : List (Str × V)}, celBF n t = true → RepF C mu H t v → RepF C (mu.take n) H t v
  | _, _, _, .nil => .nil
  | _, _, c, .cons h r => by
    simp only [celBF, Bool.and_eq_true] at c
    exact .cons (Rep.cut hn c.1 h) (RepF.cut hn c.2 r)
end
def cellB (n : Nat) : Cell → Bool
  | .dead => true
  | .live t => celB n t
  | .lock t => celB n t
theorem CU.cut (hn : n ≤ mu.length) {t : T} {u : HO} (c : celB n t = true) (h : CU C mu H t u) : CU C (mu.take n) H t u := by
  unfold CU at h ⊢
  split at h
  · exact RepL.cut hn (by simpa only [celB] using c) h
  · exact RepD.cut hn (by simpa only [celB] using c) h
  · exact ⟨h.1, RepF.cut hn (by simpa only [celB] using c) h.2⟩
  · exact h.elim
theorem RM.cut (R : RM C mu M H) (hn : n ≤ M.length) (c : (M.take n).all (cellB n) = true) : RM C (mu.take n) (M.take n) H := by
  have hm : n ≤ mu.length := by rw [R.len]; exact hn
  have tk : ∀ {i : Nat} {x : Cell}, (M.take n)[i]? = some x → i < n ∧ M[i]? = some x ∧ cellB n x = true := fun {i x} h => by
    have hi : i < (M.take n).length := (List.getElem?_eq_some_iff.mp h).1
    rw [List.length_take] at hi
    have hin : i < n := by omega
    refine ⟨hin, by rw [List.getElem?_take, if_pos hin] at h; exact h, List.all_eq_true.mp c x (List.mem_of_getElem? h)⟩
  have to : ∀ {i : Nat} {x : Option Addr}, i < n → mu[i]? = some x → (mu.take n)[i]? = some x := fun {i x} hi h => by rw [List.getElem?_take, if_pos hi]; exact h
  have fr : ∀ {i : Nat} {x : Option Addr}, (mu.take n)[i]? = some x → mu[i]? = some x := fun {i x} h => by
    rw [List.getElem?_take] at h
    split at h
    · exact h
    · cases h
  refine ⟨by rw [List.length_take, List.length_take, R.len], fun i t h => ?_, fun i t h => ?_, fun i h => ?_, fun i j a h1 h2 => R.inj i j a (fr h1) (fr h2), R.hid, fun a ha => R.nh a (List.mem_of_mem_take ha)⟩
  · obtain ⟨hi, h1, h2⟩ := tk h
    obtain ⟨a, u, g1, g2, g3⟩ := R.cell i t h1
    exact ⟨a, u, to hi g1, g2, g3.cut hm h2⟩
  · obtain ⟨hi, h1, h2⟩ := tk h
    obtain ⟨a, od, u, g1, g2, g3⟩ := R.lock i t h1
    exact ⟨a, od, u, to hi g1, g2, g3.cut hm h2⟩
  · obtain ⟨hi, h1, _⟩ := tk h
    exact to hi (R.dead i h1)
theorem Ext.cut {mu0 : Mu} {H0 : Hp} (x : Ext C mu0 H0 mu H) (h0 : mu0.length ≤ n) (hn : n ≤ mu.length) : Ext C mu0 H0 (mu.take n) H :=
  ⟨by rw [List.length_take]; omega, fun i a hi q => x.keep i a hi (by
      rw [List.getElem?_take] at q
      split at q
      · exact q
      · cases q), x.rd, x.obj, x.hid, fun a o h m z => x.own a o h m (List.mem_of_mem_take z)⟩
end
/-! ### the end of a turn: the turn's own names and cells are dropped -/
def slotB (n : Nat) : Option T → Bool
  | none => true
  | some t => celB n t
def trim (n : Nat) (vs : List Nat) (s : Sg) (M : Mem) : Option (Sg × Mem) :=
  if M.length = n then some (wipeS s vs, M) else if n ≤ M.length ∧ (wipeS s vs).all (slotB n) = true ∧ (M.take n).all (cellB n) = true then some (wipeS s vs, M.take n) else none
def dTrim (vs : List Nat) (b : DS) : DS := fun s M => match b s M with
  | .nx s2 M2 => (match trim M.length vs s2 M2 with
    | some (s3, M3) => .nx s3 M3
    | none => .no)
  | .ct s2 M2 => (match trim M.length vs s2 M2 with
    | some (s3, M3) => .ct s3 M3
    | none => .no)
  | .bk s2 M2 => (match trim M.length vs s2 M2 with
    | some (s3, M3) => .bk s3 M3
    | none => .no)
  | o => o
section
variable {X : Cx} {C : Cfg} {W : WX}
theorem RS.lessW {mu : Mu} {H : Hp} {s : Sg} {σ : L2.St} (R : RS C mu H s σ) : ∀ vs : List Nat, RS C mu H (wipeS s vs) σ
  | [] => R
  | v :: vs => by
    have ih := R.lessW vs
    refine ih.less (by show ((wipeS s vs).set v none).length = _; rw [List.length_set]) fun i t h => ?_
    have h : ((wipeS s vs).set v none)[i]? = some (some t) := h
    by_cases hi : v = i
    · subst hi
      by_cases hv : v < (wipeS s vs).length
      · rw [List.getElem?_set_self hv] at h; cases h
      · rw [List.getElem?_eq_none (by simpa using hv)] at h; cases h
    · rw [List.getElem?_set_ne hi] at h; exact h
theorem trim_ok {mu : Mu} {H : Hp} {s s3 : Sg} {M M3 : Mem} {σ : L2.St} {n : Nat} {vs : List Nat} {mu0 : Mu} {H0 : Hp} (R : RM C mu M H) (S : RS C mu H s σ) (x : Ext C mu0 H0 mu H) (h0 : mu0.length = n) (e : trim n vs s M = some (s3, M3)) :
    ∃ mu', RM C mu' M3 H ∧ RS C mu' H s3 σ ∧ Ext C mu0 H0 mu' H := by
  unfold trim at e
  split at e
  · cases e
    exact ⟨mu, R, S.lessW vs, x⟩
  · split at e
    · rename_i c
      cases e
      obtain ⟨c1, c2, c3⟩ := c
      have hm : n ≤ mu.length := by rw [R.len]; exact c1
      refine ⟨mu.take n, R.cut c1 c3, ⟨(S.lessW vs).len, fun i t h => ?_⟩, x.cut (Nat.le_of_eq h0) hm⟩
      obtain ⟨v, g1, g2⟩ := (S.lessW vs).at_ i t h
      have := List.all_eq_true.mp c2 _ (List.mem_of_getElem? h)
      exact ⟨v, g1, g2.cut hm this⟩
    · cases e
theorem ss_trim {sts : List Stmt} {b : DS} (vs : List Nat) (h : PSs X sts (TSz C W b)) : PSs X sts (TSz C W (dTrim vs b)) :=
  pss_weak h fun D σ H ⟨mu, s, M, R, S, P⟩ => ⟨mu, s, M, R, S, by
    unfold dTrim at P
    cases e : b s M with
    | nx s2 M2 =>
      rw [e] at P
      simp only at P
      split at P
      · rename_i s3 M3 q
        intro mu' σ' H' R' E' S'
        obtain ⟨mu2, R2, S2, E2⟩ := trim_ok R' S' E' R.len q
        exact P mu2 σ' H' R2 E2 S2
      · exact P.elim
    | ct s2 M2 =>
      rw [e] at P
      simp only at P
      split at P
      · rename_i s3 M3 q
        intro mu' σ' H' R' E' S'
        obtain ⟨mu2, R2, S2, E2⟩ := trim_ok R' S' E' R.len q
        exact P mu2 σ' H' R2 E2 S2
      · exact P.elim
    | bk s2 M2 =>
      rw [e] at P
      simp only at P
      split at P
      · rename_i s3 M3 q
        intro mu' σ' H' R' E' S'
        obtain ⟨mu2, R2, S2, E2⟩ := trim_ok R' S' E' R.len q
        exact P mu2 σ' H' R2 E2 S2
      · exact P.elim
    | rt t M2 => rw [e] at P; exact P
    | er er s2 M2 => rw [e] at P; exact P
    | no => rw [e] at P; exact P⟩
/-- ahead of the statement -/
def dWipe (vs : List Nat) (b : DS) : DS := fun s M => b (wipeS s vs) M
theorem s_wipe {st : Stmt} {b : DS} (vs : List Nat) (h : PS X st (TSz C W b)) : PS X st (TSz C W (dWipe vs b)) :=
  ps_weak h fun D σ H ⟨mu, s, M, R, S, P⟩ => ⟨mu, wipeS s vs, M, R, S.lessW vs, P⟩
def dForW (di : DA) (g : DG) (b : DS) (vs : List Nat) : DS := dWipe vs (dFor di g (dTrim vs b))
theorem s_forW {ws : List Nat} {tg iter : Expr} {body : List Stmt} {di : DA} {g : DG} {b : DS} {pos : Pos} (vs : List Nat) (hp : PassesOwn (model X.prog X.w) X.A X.env X.xe) (hc : X.calm = true) (hi : PI X tg iter (iZ C W di)) (hg : PG X tg (TGz C ws g)) (hb : PSs X body (TSz C W b))
    (hs : ∀ x, foldedSetIterable iter X.env x = pure x := by intro _; rfl) : PS X (.For tg iter body [] pos) (TSz C W (dForW di g b vs)) := s_wipe vs (s_for hp hc hi hg (ss_trim vs hb) hs)
def dWhileW (tc : DT) (b : DS) (vs : List Nat) : DS := dWipe vs (dWhile tc (dTrim vs b))
theorem s_whileW {c : Expr} {body : List Stmt} {tc : DT} {b : DS} {pos : Pos} (vs : List Nat) (hp : PassesOwn (model X.prog X.w) X.A X.env X.xe) (hc : PT X c (TTz C W tc)) (hb : PSs X body (TSz C W b)) : PS X (.While c body [] pos) (TSz C W (dWhileW tc b vs)) := s_wipe vs (s_while hp hc (ss_trim vs hb))
/-! ### max(xs, default=d), the items ints -/
def dMaxD (da dd : DE) : DE := fun s M => (da s M).bind fun t M1 => (dd s M1).bind fun u M2 => match (listOf M2 t).bind intsT with
  | some [] => .ok u M2
  | some (i :: r) => .ok (.int (maxI (i :: r))) M2
  | none => .no
def rMaxK (C : Cfg) : List V → List V → Hp → VK → Prop := fun vs zs H Q => ∃ mu M t u x y ns, vs = [x] ∧ zs = [y] ∧ RM C mu M H ∧ Rep C mu H t x ∧ Rep C mu H u y ∧ (listOf M t).bind intsT = some ns ∧ Q (match ns with
  | [] => y
  | i :: r => .int (maxI (i :: r))) H
theorem reads_ints {h : Heap} : ∀ {ns : List Int} {its : List Value}, Vals (ns.map V.int) its → ReadsAll h its (ns.map PyData.int) []
  | [], _, .nil => .nil
  | n :: ns, _, .cons r t => by
    obtain ⟨tk, rfl⟩ := r
    exact .cons (as := []) (bs := []) (.int n tk) (reads_ints t)
theorem alike_ints (ns : List Int) : PySem.W.AlikeAll (ns.map PyData.int) := by
  refine ⟨fun x hx y hy => ?_, fun x hx => ?_⟩
  · obtain ⟨a, _, rfl⟩ := List.mem_map.mp hx
    obtain ⟨b, _, rfl⟩ := List.mem_map.mp hy
    rfl
  · obtain ⟨a, _, rfl⟩ := List.mem_map.mp hx
    intro z; cases z
theorem depth_ints : ∀ ns : List Int, PyData.depthAll (ns.map PyData.int) = 0
  | [] => rfl
  | n :: ns => by
    show max (PyData.depth (.int n)) (PyData.depthAll (ns.map PyData.int)) = 0
    rw [depth_ints ns]; rfl
theorem foldl_maxI : ∀ (ns : List Int) (n : Int), ns.foldl max n = maxI (n :: ns)
  | [], n => rfl
  | k :: r, n => by
    rw [List.foldl_cons, foldl_maxI r (max n k)]
    cases r with
    | nil => show max n k = max n k; rfl
    | cons j r => show max (max n k) (maxI (j :: r)) = max n (max k (maxI (j :: r))); omega
theorem c_maxK (hc : X.calm = true) (hu : X.A.units + 64 < cLine) : CallRK X (.builtin "max") [Str.ofString "default"] (rMaxK C) := by
  intro pins s σ H vs zs us ws Q I r rz h
  obtain ⟨mu, M, t, u, x, y, ns, rfl, rfl, R, rt, ru, e, q⟩ := h
  obtain ⟨a, rfl, hl⟩ := ints1 R rt e
  obtain rfl := Vals.ref1 r
  obtain ⟨d, rfl, ed⟩ := vals1 rz
  obtain ⟨its, rv, hl', hz⟩ := I.list (X := X) (.inl hl)
  show wpAny _ _ (call (.builtin "max") [.ref a] [(Str.ofString "default", d)]) _ _ _
  refine PySem.W.max_list_default (I.ok.hd hc) hl'.isList (reads_ints rv) (alike_ints ns) (by rw [depth_ints]; omega) (fun h0 h' tk hk => ?_) (fun yv ys i v h' tk bs hx hv hr hk => ?_)
  · have : ns = [] := by simpa using h0
    subst this
    exact ⟨y, H, I.kept hk, ed, q⟩
  · cases ns with
    | nil => cases hx
    | cons n r =>
      rw [List.map_cons] at hx
      injection hx with h1 h2
      subst h1 h2
      rw [PySem.W.maxD_ints, foldl_maxI] at hr
      cases hr
      exact ⟨.int _, H, I.kept hk, ⟨_, rfl⟩, q⟩
theorem s_maxD {e e2 : Expr} {da dd : DE} {p pos kpos : Pos} {nm : Option Str} (hK : C.K = X.K) (hc : X.calm = true) (hu : X.A.units + 64 < cLine) (hg : Gl X "max") (hm : X.mg "max" = none) (ha : PE X e (TEz C W da)) (hd : PE X e2 (TEz C W dd))
    (hst : starEach [e] X.env = [(false, eval e X.env)] := by rfl)
    (he : backTo pos (starEach [e] X.env) = (false, eval e X.env) :: backTo pos (starEach [] X.env) := by rfl) (hpl : (backTo pos (starEach [e] X.env)).any (·.1) = false := by rfl)
    (hall : (backToKw pos (keywordEach [⟨nm, e2, kpos⟩] X.env)).all (·.1.isSome) = true := by rfl) (hnone : (backToKw pos (keywordEach [⟨nm, e2, kpos⟩] X.env)).any (·.1.isNone) = false := by rfl) (hks : (backToKw pos (keywordEach [⟨nm, e2, kpos⟩] X.env)).filterMap (·.1) = [Str.ofString "default"] := by rfl) :
    PE X (.Call (.Name "max" p) [e] [⟨nm, e2, kpos⟩] pos) (TEz C W (dMaxD da dd)) :=
  pe_weak (pe_callBK (t := tCons (TEz C W da) tNil) (tk := tCons (TEz C W dd) tNil) (c_maxK (C := C) hc hu) hg hm rfl (pa_cons ha pa_nil hst) (pk_cons hd pk_nil) (by decide) (by decide) he hpl hall hnone hks) fun σ H Q ⟨mu, s, M, R, S, P⟩ => by
    refine ⟨mu, s, M, R, S, P.bind fun t M1 mu1 x H1 R1 E1 r1 P1 => ?_⟩
    refine ⟨mu1, s, M1, R1, S.mono E1, P1.bind fun u M2 mu2 y H2 R2 E2 r2 P2 => ?_⟩
    cases e0 : (listOf M2 t).bind intsT with
    | none => rw [e0] at P2; exact P2.elim
    | some ns =>
      rw [e0] at P2
      refine ⟨mu2, M2, t, u, x, y, ns, rfl, rfl, R2, r1.mono E2, r2, e0, ?_⟩
      cases ns with
      | nil => exact P2 mu2 y H2 R2 Ext.refl r2
      | cons i r => exact P2 mu2 _ H2 R2 Ext.refl (.int _)
/-! ### {k: v, ..} -/
abbrev DP := Sg → Mem → Out (List (Str × T))
def dPnil : DP := fun _ M => .ok [] M
end
end Z
end
section
set_option Elab.async false
set_option linter.all false
set_option maxRecDepth 100000
set_option maxHeartbeats 4000000
/-! Zza: dict displays. -/
namespace Z
open PySem PySem.Spec PyProof.Rows L2 PySem.SeqAt
def dQcons (dk dv : DE) (dr : DP) : DP := fun s M => (dk s M).noEr.bind fun t M1 => (dv s M1).noEr.bind fun u M2 => (dr s M2).bind fun r M3 => match t with
  | .str k => .ok ((k, u) :: r) M3
  | _ => .no
section
variable {X : Cx} {C : Cfg} {W : WX} {pos : Pos}
def TDz (C : Cfg) (d : DP) : L2.St → Hp → (List (V × V) → Hp → Prop) → Prop := fun σ H Q => ∃ mu s M, RM C mu M H ∧ RS C mu H s σ ∧
  Fin (d s M) fun ps M' => ∀ mu' kvs H', RM C mu' M' H' → Ext C mu H mu' H' → RepD C mu' H' ps kvs → Q (kvs.map fun kv => (kV kv.1, kv.2)) H'
structure PZ (X : Cx) (C : Cfg) (pos : Pos) (keys : List (Option Expr)) (values : List Expr) (d : DP) : Prop where
  ex : ∃ trs, PPs X pos keys values trs ∧ ∀ hid σ H Q, TDz (C.with hid) d σ H Q → tPairs trs σ H Q
theorem p_nil : PZ X C pos [] [] dPnil := ⟨[], pps_nil, fun hid σ H Q ⟨mu, s, M, R, S, P⟩ => P mu [] H R Ext.refl .nil⟩
theorem p_cons {k v : Expr} {ks : List (Option Expr)} {vs : List Expr} {dk dv : DE} {dr : DP} (hk : ∀ hid, PE X k (TEz (C.with hid) WF dk)) (hv : ∀ hid, PE X v (TEz (C.with hid) WF dv)) (hr : PZ X C pos ks vs dr) : PZ X C pos (some k :: ks) (v :: vs) (dQcons dk dv dr) := by
  obtain ⟨trs, h1, h2⟩ := hr.ex
  refine ⟨_, pps_cons (tk := fun σ H Q => ∃ hid, TEz (C.with hid) WF dk σ H Q) (tv := fun σ H Q => ∃ hid, TEz (C.with hid) WF dv σ H Q) ⟨fun pins s σ H Q I ⟨hid, q⟩ => (hk hid).run pins s σ H Q I q⟩ ⟨fun pins s σ H Q I ⟨hid, q⟩ => (hv hid).run pins s σ H Q I q⟩ h1, fun hid σ H Q ⟨mu, s, M, R, S, P⟩ => ?_⟩
  refine ⟨hid, mu, s, M, R, S, Fin.bind P fun t M1 mu1 x H1 R1 E1 r1 P1 => ?_⟩
  refine ⟨hid, mu1, s, M1, R1, S.mono E1, Fin.bind P1 fun u M2 mu2 y H2 R2 E2 r2 P2 => ?_⟩
  refine h2 hid σ H2 _ ⟨mu2, s, M2, R2, (S.mono E1).mono E2, fin_imp (Fin.then_ P2) fun ps M3 P3 mu3 kvs H3 R3 E3 r3 => ?_⟩
  split at P3
  · rename_i z
    have r1' := (r1.mono E2).mono E3
    cases r1'
    exact P3 mu3 ((.inr z, y) :: kvs) H3 R3 ((E1.trans E2).trans E3) (.cons (r2.mono E3) r3)
  · exact P3.elim
/-- the display's end -/
def dDctQ (m : Bool) (d : DP) : DE := fun s M => match d s M with
  | .ok ps M1 => if ps.length ≤ 15 then lift (some (mk m (.dct (mergeT [] ps)) M1)) else .no
  | _ => .no
theorem s_dct (m : Bool) {keys : List (Option Expr)} {values : List Expr} {d : DP} (h : PZ X C pos keys values d) (hall : keys.all (·.isSome) = true) (hl : keys.length = values.length) (h0 : keys ≠ []) (h15 : keys.length ≤ 15) : PE X (.Dict keys values pos) (TEz C W (dDctQ m d)) := by
  obtain ⟨trs, h1, h2⟩ := h.ex
  refine pe_weak (pe_disp h1 hall hl h0 h15) fun σ H Q ⟨mu, s, M, R, S, P⟩ p hp => ?_
  have nD : ¬ C.hid p := fun z => by
    obtain ⟨o, e⟩ := R.hid p z
    rw [hp] at e; cases e
  have hh : (C.and p).hid p := .inr rfl
  have E0 : Ext C mu H mu (upd H p (.dK [])) := Ext.new hp
  refine h2 (C.and p).hid σ (upd H p (.dK [])) _ ⟨mu, s, M, R.hideNew hp, (S.hideNew hp).mono (Ext.new hp), ?_⟩
  unfold dDctQ at P
  cases e : d s M with
  | er er M1 => rw [e] at P; exact P.elim
  | no => rw [e] at P; exact P.elim
  | ok ps M1 =>
    rw [e] at P
    simp only at P
    by_cases c : ps.length ≤ 15
    · rw [if_pos c] at P
      intro mu1 kvs H1 R1 E1 r1
      have hD : H1 p = some (.dK []) := E1.hid p _ upd_same (R.fresh hp) hh
      refine ⟨hD, kvs, rfl, by rw [← r1.length]; exact c, ?_⟩
      have R2 := R1.updH (o := .dK (mergeK [] kvs)) hh
      have r2 : RepD (C.and p) mu1 (upd H1 p (.dK (mergeK [] kvs))) (mergeT [] ps) (mergeK [] kvs) := RepD.merge (RepD.updH hh r1) .nil
      have x2 : Ext C mu H mu1 (upd H1 p (.dK (mergeK [] kvs))) := by
        have x1 : Ext C mu H mu1 H1 := E0.trans E1.unhide
        exact Ext.updNew x1 hp
      obtain ⟨mu2, R3, x3, r3⟩ := mk_hid (t := .dct (mergeT [] ps)) (u := .dK (mergeK [] kvs)) m R2 x2 hp nD upd_same r2
      exact P mu2 (.ref p) _ R3 x3 r3
    · rw [if_neg c] at P; exact P.elim
end
end Z
end
section
set_option Elab.async false
set_option linter.all false
set_option maxRecDepth 100000
set_option maxHeartbeats 4000000
/-! Zzb: the rules over what is known of a context. -/
namespace Z
open PySem PySem.Spec PyProof.Rows L2 PySem.SeqAt
/-- what a context's names are -/
structure Ix where
  N : List Str
  sc : Scope
  fn : Str → Bool
def Ix.blk (J : Ix) (b : Scope) : Ix := ⟨J.N, relS b J.sc, fun x => b.names.lookup x == some .cell⟩
def isK (sc : Scope) (x : Str) (k : NameKind) : Bool := match sc.names.lookup x with
  | some j => decide (j = k)
  | none => false
theorem isK_ok {sc : Scope} {x : Str} {k : NameKind} (h : isK sc x k = true) : sc.names.lookup x = some k := by
  unfold isK at h
  split at h
  · rename_i j e
    rw [e, of_decide_eq_true h]
  · cases h
def atB (N : List Str) (i : Nat) (x : Str) : Bool := match N[i]? with
  | some y => decide (y = x)
  | none => false
theorem atB_ok {N : List Str} {i : Nat} {x : Str} (h : atB N i x = true) : N[i]? = some x := by
  unfold atB at h
  split at h
  · rename_i j e
    rw [e, of_decide_eq_true h]
  · cases h
def plainN (x : Str) : Bool := !(x == ("__debug__" : Str)) && !(x == ("__classdict__" : Str)) && !(decide (x = ("__name__" : Str)))
theorem plainN_ok {x : Str} (h : plainN x = true) : (x == ("__debug__" : Str)) = false ∧ (x == ("__classdict__" : Str)) = false ∧ x ≠ "__name__" := by
  unfold plainN at h
  simp only [Bool.and_eq_true, Bool.not_eq_true', decide_eq_false_iff_not] at h
  exact ⟨h.1.1, h.1.2, h.2⟩
/-- a name that is read at slot i -/
def varB (J : Ix) (i : Nat) (x : Str) : Bool := atB J.N i x && (isK J.sc x .local || isK J.sc x .cell || isK J.sc x .free) && plainN x
/-- a name that is stored at slot i -/
def stB (J : Ix) (i : Nat) (x : Str) : Bool := atB J.N i x && (isK J.sc x .local || isK J.sc x .cell) && (J.fn x || isK J.sc x .local)
/-- .. and is no cell -/
def lcB (J : Ix) (i : Nat) (x : Str) : Bool := atB J.N i x && isK J.sc x .local
/-- a name of the module -/
def glB (J : Ix) (x : Str) : Bool := isK J.sc x .globalImplicit && plainN x
structure Bd (P : Program) (w : World) (K : PySem.W.Frag) (mg : Str → Option Value) (base : Heap) (J : Ix) (k : Nat) (X : Cx) : Prop where
  prog : X.prog = P
  wo : X.w = w
  K : X.K = K
  mg : X.mg = mg
  base : X.base = base
  N : X.N = J.N
  sc : X.env.scope = J.sc
  fn : X.fn = J.fn
  nd : J.N.Nodup
  fk : J.sc.kind = .function
  room : Room k X.A
  gu : X.A.guards = some []
  calm : X.calm = true
section
variable {P : Program} {w : World} {K : PySem.W.Frag} {mg : Str → Option Value} {base : Heap} {J : Ix} {k : Nat} {X : Cx} {C : Cfg} {W : WX} {x : Str} {i : Nat} {pos p : Pos}
theorem Bd.eK (B : Bd P w K mg base J k X) (h : C.K = K) : C.K = X.K := h.trans B.K.symm
theorem Bd.ndX (B : Bd P w K mg base J k X) : X.N.Nodup := by rw [B.N]; exact B.nd
theorem Bd.u64 (B : Bd P w K mg base J k X) : X.A.units + 64 < cLine := B.room.units
theorem Bd.u1 (B : Bd P w K mg base J k X) : X.A.units + 1 < cLine := B.room.units1
theorem Bd.sys (B : Bd P w K mg base J k X) (h : ∃ o, base.get? sysModules = some o) : Sys X := by
  obtain ⟨o, e⟩ := h
  exact ⟨o, by rw [B.base]; exact e⟩
theorem Bd.at_ (B : Bd P w K mg base J k X) (h : atB J.N i x = true) : X.N[i]? = some x := by rw [B.N]; exact atB_ok h
theorem Bd.kd (B : Bd P w K mg base J k X) {q : NameKind} (h : isK J.sc x q = true) : X.env.scope.names.lookup x = some q := by rw [B.sc]; exact isK_ok h
theorem Bd.gl (B : Bd P w K mg base J k X) (h : glB J x = true) : Gl X x := by
  unfold glB at h
  rw [Bool.and_eq_true] at h
  exact B.kd h.1
theorem glB_pl {J : Ix} (h : glB J x = true) : plainN x = true := by
  unfold glB at h
  rw [Bool.and_eq_true] at h
  exact h.2
theorem Bd.vis (B : Bd P w K mg base J k X) (h : varB J i x = true) : Vis X.env.scope x := by
  unfold varB at h
  simp only [Bool.and_eq_true, Bool.or_eq_true] at h
  rcases h.1.2 with (q | q) | q
  · exact .inl (B.kd q)
  · exact .inr (.inl (B.kd q))
  · exact .inr (.inr (B.kd q))
theorem b_var (B : Bd P w K mg base J k X) (h : varB J i x = true) : PE X (.Name x pos) (TEz C W (dVar i)) := by
  have v := B.vis h
  unfold varB at h
  simp only [Bool.and_eq_true] at h
  obtain ⟨h1, h2, _⟩ := plainN_ok h.2
  exact s_var (B.at_ h.1.1) v h1 h2
theorem Bd.lo (B : Bd P w K mg base J k X) (h : stB J i x = true) : Loc X.env.scope x := by
  unfold stB at h
  simp only [Bool.and_eq_true, Bool.or_eq_true] at h
  rcases h.1.2 with q | q
  · exact .inl (B.kd q)
  · exact .inr (B.kd q)
theorem Bd.hf (B : Bd P w K mg base J k X) (h : stB J i x = true) : X.fn x = true ∨ X.env.scope.names.lookup x = some .local := by
  unfold stB at h
  simp only [Bool.and_eq_true, Bool.or_eq_true] at h
  rcases h.2 with q | q
  · exact .inl (by rw [B.fn]; exact q)
  · exact .inr (B.kd q)
theorem Bd.si (B : Bd P w K mg base J k X) (h : stB J i x = true) : X.N[i]? = some x := by
  unfold stB at h
  simp only [Bool.and_eq_true] at h
  exact B.at_ h.1.1
theorem b_gc {t : T} {v : V} (B : Bd P w K mg base J k X) (hg : glB J x = true) (h : ∃ u, mg x = some u ∧ RelV v u) (r : ∀ mu H, Rep C mu H t v) : PE X (.Name x pos) (TEz C W (dC t)) :=
  s_gc (B.gl hg) (by rw [B.mg]; exact h) r (plainN_ok (glB_pl hg)).1
theorem b_ty {n : String} (B : Bd P w K mg base J k X) (hg : glB J x = true) (hm : mg x = none) (hv : bootBuiltins x = some (.type n)) : PE X (.Name x pos) (TEz C W (dC (.ty n))) :=
  s_ty (B.gl hg) (by rw [B.mg]; exact hm) hv (plainN_ok (glB_pl hg)).2.2 (plainN_ok (glB_pl hg)).1
theorem Bd.nx (B : Bd P w K mg base J k X) (hm : mg x = none) : X.mg x = none := by rw [B.mg]; exact hm
theorem b_callB {id : String} {g : OpN} {e : Expr} {es : List Expr} {da : DA} (B : Bd P w K mg base J k X) (hc : CallR X (.builtin id) (rN C g)) (hg : glB J x = true) (hm : mg x = none) (hv : bootBuiltins x = some (.builtin id)) (ha : PA X (e :: es) (TAz C W da))
    (he : starEach (e :: es) X.env = (false, eval e X.env) :: starEach es X.env := by rfl) (hpl : (backTo pos (starEach es X.env)).any (·.1) = false := by rfl) : PE X (.Call (.Name x p) (e :: es) [] pos) (TEz C W (dCall g da)) :=
  s_callB hc (B.gl hg) (B.nx hm) hv ha (plainN_ok (glB_pl hg)).2.2 (plainN_ok (glB_pl hg)).1 he hpl
theorem b_callTy {id : String} {g : OpN} {e : Expr} {es : List Expr} {da : DA} (B : Bd P w K mg base J k X) (hc : CallR X (.type id) (rN C g)) (hg : glB J x = true) (hm : mg x = none) (hv : bootBuiltins x = some (.type id)) (ha : PA X (e :: es) (TAz C W da))
    (he : starEach (e :: es) X.env = (false, eval e X.env) :: starEach es X.env := by rfl) (hpl : (backTo pos (starEach es X.env)).any (·.1) = false := by rfl) : PE X (.Call (.Name x p) (e :: es) [] pos) (TEz C W (dCall g da)) :=
  s_callTy hc (B.gl hg) (B.nx hm) hv ha (plainN_ok (glB_pl hg)).2.2 (plainN_ok (glB_pl hg)).1 he hpl
theorem Bd.nox (B : Bd P w K mg base J k X) : Bd P w K mg base J k X.nox :=
  ⟨B.prog, B.wo, B.K, B.mg, B.base, B.N, B.sc, B.fn, B.nd, B.fk, B.room, B.gu, B.calm⟩
/-! calls of defs -/
theorem Bd.cal (B : Bd P w K mg base J k X) {j n : Nat} {F : DF} {dts : List T} (c : CalG P w K mg base C x j n F dts) (hj : j ≤ k) (hg : glB J x = true) (hid : Addr → Prop) : CalZ X (C.with hid) CX0 x n F dts := by
  have c' : CalG X.prog X.w X.K X.mg X.base C x j n F dts := by rw [B.prog, B.wo, B.K, B.mg, B.base]; exact c
  exact c'.z B.room hj B.gu (B.gl hg) hid (plainN_ok (glB_pl hg)).1
section
variable {j n : Nat} {F : DF} {dts : List T} {e : Expr} {es : List Expr} {da : DA} {hid : Addr → Prop}
theorem b_callP (B : Bd P w K mg base J k X) (c : CalG P w K mg base C x j n F dts) (hj : Nat.ble j k = true) (hg : glB J x = true) (ha : PA X (e :: es) (TAz (C.with hid) W da))
    (he : starEach (e :: es) X.env = (false, eval e X.env) :: starEach es X.env := by rfl) (hpl : (backTo pos (starEach es X.env)).any (·.1) = false := by rfl) : PE X (.Call (.Name x p) (e :: es) [] pos) (TEz (C.with hid) W (dCallP n F dts da)) :=
  s_callP (B.cal c (Nat.le_of_ble_eq_true hj) hg hid) pass0s ha he hpl
theorem b_callP0 (B : Bd P w K mg base J k X) (c : CalG P w K mg base C x j n F dts) (hj : Nat.ble j k = true) (hg : glB J x = true) : PE X (.Call (.Name x p) [] [] pos) (TEz (C.with hid) W (dCallP0 n F dts)) :=
  s_callP0 (B.cal c (Nat.le_of_ble_eq_true hj) hg hid) pass0s
theorem b_callN (B : Bd P w K mg base J k X) (c : CalG P w K mg base C x j n F dts) (hj : Nat.ble j k = true) (hg : glB J x = true) (ha : PA X (e :: es) (TAz (C.with hid) W da))
    (he : starEach (e :: es) X.env = (false, eval e X.env) :: starEach es X.env := by rfl) (hpl : (backTo pos (starEach es X.env)).any (·.1) = false := by rfl) : PE X (.Call (.Name x p) (e :: es) [] pos) (TEz (C.with hid) W (dCallN n F dts da)) :=
  s_callN (B.cal c (Nat.le_of_ble_eq_true hj) hg hid) pass0s ha he hpl
theorem b_callM (B : Bd P w K mg base J k X) (c : CalG P w K mg base C x j n F dts) (hj : Nat.ble j k = true) (hg : glB J x = true) (ha : PA X (e :: es) (TAz (C.with hid) W da))
    (he : starEach (e :: es) X.env = (false, eval e X.env) :: starEach es X.env := by rfl) (hpl : (backTo pos (starEach es X.env)).any (·.1) = false := by rfl) : PE X (.Call (.Name x p) (e :: es) [] pos) (TEz (C.with hid) W (dCallM n F dts da)) :=
  s_callM (B.cal c (Nat.le_of_ble_eq_true hj) hg hid) pass0s ha he hpl
end
theorem b_kget {ks : List (Str × Str)} {e : Expr} {de : DE} {a : Addr} {apos cpos : Pos} (B : Bd P w K mg base J k X) (kt : KT K w a ks) (hm : mg x = some (.ref a)) (hg : glB J x = true) (he : PE X e (TEz C W de)) (m : M1 X (.Name x p) "get" apos e cpos) :
    PE X (.Call (.Attribute (.Name x p) "get" apos) [e] [] cpos) (TEz C W (dKget ks de)) :=
  s_kget (a := a) B.u1 (by rw [B.K, B.wo]; exact kt) (B.gl hg) (by rw [B.mg]; exact hm) he m (plainN_ok (glB_pl hg)).1
/-! statements, targets -/
theorem b_asg {e : Expr} {d : DE} (B : Bd P w K mg base J k X) (h : stB J i x = true) (he : PE X e (TEz C W d)) (hs : swapsWith e (some (.Name x p)) pos.line X.env = pure false) : PS X (.Assign [.Name x p] e pos) (TSz C W (dAsg i d)) :=
  s_asg B.ndX (B.si h) (B.lo h) (B.hf h) he hs
theorem b_aug {e : Expr} {d : DE} {op : Operator} {g : Op2} (B : Bd P w K mg base J k X) (h : stB J i x = true) (ho : OpR X (inplaceOp op) (rZ C g)) (he : PE X e (TEz C W d)) : PS X (.AugAssign (.Name x p) op e pos) (TSz C W (dAug i g d)) :=
  s_aug B.ndX (B.si h) (B.lo h) (B.hf h) ho he
theorem lcB_at (B : Bd P w K mg base J k X) (h : lcB J i x = true) : X.N[i]? = some x ∧ X.env.scope.names.lookup x = some .local := by
  unfold lcB at h
  rw [Bool.and_eq_true] at h
  exact ⟨B.at_ h.1, B.kd h.2⟩
theorem b_name {vs : List Nat} (B : Bd P w K mg base J k X) (h : stB J i x = true) (hv : vs.contains i = true) : PG X (.Name x pos) (TGz C vs (gN i)) :=
  g_name B.ndX (B.si h) (B.lo h) (B.hf h) (by simpa using hv)
theorem b_for {ws : List Nat} {tg iter : Expr} {body : List Stmt} {di : DA} {g : DG} {b : DS} (B : Bd P w K mg base J k X) (vs : List Nat) (hp : PassesOwn (model X.prog X.w) X.A X.env X.xe) (hi : PI X tg iter (iZ C W di)) (hg : PG X tg (TGz C ws g)) (hb : PSs X body (TSz C W b))
    (hs : ∀ x, foldedSetIterable iter X.env x = pure x := by intro _; rfl) : PS X (.For tg iter body [] pos) (TSz C W (dForW di g b vs)) := s_forW vs hp B.calm hi hg hb hs
/-! blocks -/
def ownB (N : List Str) (own : List (Str × Nat)) : Bool := own.all fun p => atB N p.2 p.1
def blkB (J : Ix) (b : Scope) (own : List (Str × Nat)) : Bool :=
  decide (b.kind = .function) && b.names.all (fun y => isK b y.1 y.2) && ownB J.N own && b.names.all (fun y => match y.2 with
    | .free => isK J.sc y.1 .cell || isK J.sc y.1 .free
    | .local => (own.map (·.1)).contains y.1 || !(J.N.contains y.1)
    | .cell => (own.map (·.1)).contains y.1 || !(J.N.contains y.1)
    | _ => true)
theorem Bd.blkOk (B : Bd P w K mg base J k X) {b : Scope} {own : List (Str × Nat)} (h : blkB J b own = true) : BlkOk X.N X.env.scope b own := by
  unfold blkB at h
  simp only [Bool.and_eq_true] at h
  obtain ⟨⟨⟨h1, h2⟩, h3⟩, h4⟩ := h
  refine ⟨of_decide_eq_true h1, fun y hy => isK_ok (List.all_eq_true.mp h2 y hy), fun p hp => B.at_ (List.all_eq_true.mp h3 p hp), fun y hy e => ?_, fun y hy e => ?_⟩
  · have := List.all_eq_true.mp h4 y hy
    rw [e] at this
    simp only [Bool.or_eq_true] at this
    exact this.elim (fun q => .inl (B.kd q)) fun q => .inr (B.kd q)
  · have := List.all_eq_true.mp h4 y hy
    rw [B.N]
    rcases e with e | e
    · rw [e] at this
      simp only [Bool.or_eq_true, Bool.not_eq_true'] at this
      refine this.elim (fun q => .inl (by simpa using q)) fun q => .inr (by simpa using q)
    · rw [e] at this
      simp only [Bool.or_eq_true, Bool.not_eq_true'] at this
      refine this.elim (fun q => .inl (by simpa using q)) fun q => .inr (by simpa using q)
theorem Bd.blk (B : Bd P w K mg base J k X) {b : Scope} (hb : b.kind = .function) (s : Shared) (H : Hp) (D : Addr) (cl : List (Str × Addr)) (fp : List Addr) : Bd P w K mg base (J.blk b) k (X.blk s H b (compEnvC b cl D X.env) fp) :=
  ⟨B.prog, B.wo, B.K, B.mg, B.base, B.N, by show relS b X.env.scope = relS b J.sc; rw [B.sc], rfl, B.nd, hb, B.room, B.gu, B.calm⟩
section
variable {elt kx vx tg iter : Expr} {ifs : List Expr} {b : Scope} {own : List (Str × Nat)} {di : DA} {g : DG} {tt : DT} {de dk : DE}
/-- what a block's parts say, whatever else is hidden -/
theorem Bd.blkZ (B : Bd P w K mg base J k X) (h : blkB J b own = true) (hg : ∀ X', Bd P w K mg base (J.blk b) k X' → ∀ hid : Addr → Prop, PG X' tg (TGz (C.with hid) (own.map (·.2)) g))
    (ht : ∀ X', Bd P w K mg base (J.blk b) k X' → ∀ hid : Addr → Prop, PTs X' ifs (TTz (C.with hid) WF tt)) : BlkZ X C b own tg ifs g tt :=
  have hb : b.kind = .function := (B.blkOk h).kind
  ⟨B.ndX, B.blkOk h, fun s H D cl fp hid => hg _ (B.blk hb s H D cl fp) hid, fun s H D cl fp hid => ht _ (B.blk hb s H D cl fp) hid⟩
theorem b_lc (B : Bd P w K mg base J k X) (hK : C.K = K) (m : Bool) (h : blkB J b own = true) (hi : PI X tg iter (iZ C W di)) (hg : ∀ X', Bd P w K mg base (J.blk b) k X' → ∀ hid : Addr → Prop, PG X' tg (TGz (C.with hid) (own.map (·.2)) g))
    (ht : ∀ X', Bd P w K mg base (J.blk b) k X' → ∀ hid : Addr → Prop, PTs X' ifs (TTz (C.with hid) WF tt)) (he : ∀ X', Bd P w K mg base (J.blk b) k X' → ∀ hid : Addr → Prop, PE X' elt (TEz (C.with hid) WF de))
    (hs : ∀ x, foldedSetIterable iter X.env x = pure x := by intro _; rfl) : PE X (.ListComp elt [⟨tg, iter, ifs, 0⟩] b pos) (TEz C W (dLc m di g tt de (own.map (·.2)))) :=
  s_lc (B.eK hK) B.calm m hi (B.blkZ h hg ht) (fun s H D cl fp hid => he _ (B.blk (B.blkOk h).kind s H D cl fp) hid) hs
theorem b_dc (B : Bd P w K mg base J k X) (hK : C.K = K) (m : Bool) (h : blkB J b own = true) (hi : PI X tg iter (iZ C W di)) (hg : ∀ X', Bd P w K mg base (J.blk b) k X' → ∀ hid : Addr → Prop, PG X' tg (TGz (C.with hid) (own.map (·.2)) g))
    (ht : ∀ X', Bd P w K mg base (J.blk b) k X' → ∀ hid : Addr → Prop, PTs X' ifs (TTz (C.with hid) WF tt)) (hk : ∀ X', Bd P w K mg base (J.blk b) k X' → ∀ hid : Addr → Prop, PE X' kx (TEz (C.with hid) WF dk)) (he : ∀ X', Bd P w K mg base (J.blk b) k X' → ∀ hid : Addr → Prop, PE X' vx (TEz (C.with hid) WF de))
    (hs : ∀ x, foldedSetIterable iter X.env x = pure x := by intro _; rfl) : PE X (.DictComp kx vx [⟨tg, iter, ifs, 0⟩] b pos) (TEz C W (dDc m di g tt dk de (own.map (·.2)))) :=
  s_dc (B.eK hK) B.calm m hi (B.blkZ h hg ht) (fun s H D cl fp hid => hk _ (B.blk (B.blkOk h).kind s H D cl fp) hid) (fun s H D cl fp hid => he _ (B.blk (B.blkOk h).kind s H D cl fp) hid) hs
/-- the name that is set is none of the block's own -/
def swB (b : Scope) (y : Str) : Bool := !(b.names.any fun (n, k) => n == y && (k == .local || k == .cell))
theorem b_setLc {py : Pos} (B : Bd P w K mg base J k X) (hK : C.K = K) (m : Bool) (hy : lcB J i x = true) (hsw : swB b x = true) (hl : (py.line == p.line) = true) (h : blkB J b own = true) (hi : PI X tg iter (iZ C W di)) (hg : ∀ X', Bd P w K mg base (J.blk b) k X' → ∀ hid : Addr → Prop, PG X' tg (TGz (C.with hid) (own.map (·.2)) g))
    (ht : ∀ X', Bd P w K mg base (J.blk b) k X' → ∀ hid : Addr → Prop, PTs X' ifs (TTz (C.with hid) WF tt)) (he : ∀ X', Bd P w K mg base (J.blk b) k X' → ∀ hid : Addr → Prop, PE X' elt (TEz (C.with hid) WF de))
    (hs : ∀ x, foldedSetIterable iter X.env x = pure x := by intro _; rfl) : PS X (.Assign [.Name x py] (.ListComp elt [⟨tg, iter, ifs, 0⟩] b p) pos) (TSz C W (dAsg i (dLc m di g tt de (own.map (·.2))))) :=
  have q := lcB_at B hy
  s_setLc (B.eK hK) B.calm m q.1 q.2 (sw_true (by rw [B.sc]; exact B.fk) q.2 hl (by unfold swB at hsw; simpa using hsw)) hi (B.blkZ h hg ht) (fun s H D cl fp hid => he _ (B.blk (B.blkOk h).kind s H D cl fp) hid) hs
theorem b_setDc {py : Pos} (B : Bd P w K mg base J k X) (hK : C.K = K) (m : Bool) (hy : lcB J i x = true) (hsw : swB b x = true) (hl : (py.line == p.line) = true) (h : blkB J b own = true) (hi : PI X tg iter (iZ C W di)) (hg : ∀ X', Bd P w K mg base (J.blk b) k X' → ∀ hid : Addr → Prop, PG X' tg (TGz (C.with hid) (own.map (·.2)) g))
    (ht : ∀ X', Bd P w K mg base (J.blk b) k X' → ∀ hid : Addr → Prop, PTs X' ifs (TTz (C.with hid) WF tt)) (hk : ∀ X', Bd P w K mg base (J.blk b) k X' → ∀ hid : Addr → Prop, PE X' kx (TEz (C.with hid) WF dk)) (he : ∀ X', Bd P w K mg base (J.blk b) k X' → ∀ hid : Addr → Prop, PE X' vx (TEz (C.with hid) WF de))
    (hs : ∀ x, foldedSetIterable iter X.env x = pure x := by intro _; rfl) : PS X (.Assign [.Name x py] (.DictComp kx vx [⟨tg, iter, ifs, 0⟩] b p) pos) (TSz C W (dAsg i (dDc m di g tt dk de (own.map (·.2))))) :=
  have q := lcB_at B hy
  s_setDc (B.eK hK) B.calm m q.1 q.2 (sw_trueD (by rw [B.sc]; exact B.fk) q.2 hl (by unfold swB at hsw; simpa using hsw)) hi (B.blkZ h hg ht) (fun s H D cl fp hid => hk _ (B.blk (B.blkOk h).kind s H D cl fp) hid) (fun s H D cl fp hid => he _ (B.blk (B.blkOk h).kind s H D cl fp) hid) hs
/-- an assignment of a comprehension to a name that is a cell, or on another line -/
theorem sw_falseL {py spos : Pos} (B : Bd P w K mg base J k X) (h : isK J.sc x .cell = true) : swapsWith (.ListComp elt [⟨tg, iter, ifs, 0⟩] b p) (some (.Name x py)) spos.line X.env = pure false := by
  have ky : X.env.kindOf x = some .cell := B.kd h
  unfold swapsWith
  simp only [ky]
  cases (X.env.blockKind == .function) <;> rfl
theorem sw_falseD {py spos : Pos} (B : Bd P w K mg base J k X) (h : isK J.sc x .cell = true) : swapsWith (.DictComp kx vx [⟨tg, iter, ifs, 0⟩] b p) (some (.Name x py)) spos.line X.env = pure false := by
  have ky : X.env.kindOf x = some .cell := B.kd h
  unfold swapsWith
  simp only [ky]
  cases (X.env.blockKind == .function) <;> rfl
end
/-! the def's body -/
theorem b_par {j : Nat} {y : Str} {a b : Expr} {da : DA} {px py pt : Pos} {kt k2 pt2} (B : Bd P w K mg base J k X) (hi : lcB J i x = true) (hj : lcB J j y = true) (hij : i ≠ j) (ha : PA X [a, b] (TAz C W da))
    (hxy : (x == y) = false) (hlx : (px.line == px.line) = true := by rfl) (hly : (py.line == px.line) = true := by rfl)
    (hst : ([a, b].any fun | .Starred .. => true | _ => false) = false := by rfl) (hf : [a, b].all (foldedForSure 8) = false := by rfl) (hca : [a, b].all (constantsAlone 8) = false := by rfl)
    (hs : swapsWithSole [.Tuple [.Name x px, .Name y py] kt pt] (.Tuple [a, b] k2 pt2) pos.line X.env = pure false := by rfl) :
    PS X (.Assign [.Tuple [.Name x px, .Name y py] kt pt] (.Tuple [a, b] k2 pt2) pos) (TSz C W (dPar i j da)) := by
  have kx : X.env.kindOf x = some .local := (lcB_at B hi).2
  have ky : X.env.kindOf y = some .local := (lcB_at B hj).2
  have hk : X.env.scope.kind = .function := by rw [B.sc]; exact B.fk
  have hb : X.env.blockKind = .function := by unfold Env.blockKind; rw [hk]; rfl
  have hyx : (y == x) = false := by
    rw [beq_eq_false_iff_ne] at hxy ⊢
    exact fun e => hxy e.symm
  refine s_par B.calm B.ndX (lcB_at B hi).1 (lcB_at B hj).1 hij (lcB_at B hi).2 (lcB_at B hj).2 ha ?_ hs
  unfold swappedStores
  have e1 : [x, y].eraseDups = [x, y] := by
    unfold List.eraseDups List.eraseDupsBy
    simp [List.eraseDupsBy.loop, hyx, hxy]
  have e2 : ([Expr.Name x px, Expr.Name y py].filterMap fun
    | .Name id pos => if X.env.kindOf id == some .local && pos.line == ([Expr.Name x px, Expr.Name y py].head?.map (·.pos.line)).getD 0 then some id else none
    | _ => none) = [x, y] := by
    have g1 : (X.env.kindOf x == some NameKind.local) = true := by rw [kx]; rfl
    have g2 : (X.env.kindOf y == some NameKind.local) = true := by rw [ky]; rfl
    have hly' : (py.line == (Expr.Name x px).pos.line) = true := hly
    have hlx' : (px.line == (Expr.Name x px).pos.line) = true := hlx
    simp only [List.filterMap_cons, List.filterMap_nil, List.head?_cons, Option.map_some, Option.getD_some, g1, g2, hly', hlx', Bool.and_true, if_true]
  have no : ∀ {c : Bool}, c = false → ¬ c = true := fun h z => Bool.noConfusion (h.symm.trans z)
  refine (if_neg (no (c := !(2 == 2 || 2 == 3) || 2 != 2 || X.env.blockKind != .function) (by rw [hb]; rfl))).trans ?_
  refine (if_neg (no hst)).trans ?_
  have e2' := e2
  refine (if_neg (no (c := ([Expr.Name x px, Expr.Name y py].filterMap fun
    | .Name id pos => if X.env.kindOf id == some .local && pos.line == ([Expr.Name x px, Expr.Name y py].head?.map (·.pos.line)).getD 0 then some id else none
    | _ => none).length != 2 || ([Expr.Name x px, Expr.Name y py].filterMap fun
    | .Name id pos => if X.env.kindOf id == some .local && pos.line == ([Expr.Name x px, Expr.Name y py].head?.map (·.pos.line)).getD 0 then some id else none
    | _ => none).eraseDups.length != ([Expr.Name x px, Expr.Name y py].filterMap fun
    | .Name id pos => if X.env.kindOf id == some .local && pos.line == ([Expr.Name x px, Expr.Name y py].head?.map (·.pos.line)).getD 0 then some id else none
    | _ => none).length) (by rw [e2]; rw [e1]; rfl))).trans ?_
  refine (if_neg (no hf)).trans ?_
  refine (if_neg (no hca)).trans ?_
  exact congrArg (fun z => pure (some z)) e2
end
end Z
end
section
set_option Elab.async false
set_option linter.all false
set_option maxRecDepth 100000
set_option maxHeartbeats 4000000
/-! Zzc: reckoning with denotations. -/
namespace Z
open PySem PySem.Spec PyProof.Rows L2 PySem.SeqAt
theorem sp_law (C : Cfg) {F : DF} {ns : List Int} {H : Hp} {a : Addr} {od : Obj} (h : ∃ M', F [.fz (ns.map T.int)] [] = .ok (.bl true) M') (hH : H a = some (.frz od (.lst (ns.map V.int)))) : SpZ C 1 F [.ref a] H (fun v _ => v = .bl true) fun _ _ _ => False := by
  obtain ⟨M', e⟩ := h
  refine ⟨rfl, fun _ => False, [], [], [.fz (ns.map T.int)], RM.nil fun _ z => z.elim, .cons (.fz ⟨hH, by simp, fun z => z⟩ (repl_ints ns)) .nil, ?_⟩
  rw [e]
  exact fun mu' v H' _ _ r => r.blI
/-! ### frames -/
theorem bind_congr' {α β : Type} {o o' : Out α} (f : α → Mem → Out β) (h : o = o') : o.bind f = o'.bind f := by rw [h]
theorem toS_congr {α : Type} {o o' : Out α} (s : Sg) (f : α → Mem → OutS) (h : o = o') : o.toS s f = o'.toS s f := by rw [h]
theorem then_congr {o o' : OutS} (f : Sg → Mem → OutS) (h : o = o') : o.then_ f = o'.then_ f := by rw [h]
theorem noEr_congr {α : Type} {o o' : Out α} (h : o = o') : o.noEr = o'.noEr := by rw [h]
section
variable {α β : Type} {s : Sg} {M : Mem}
@[simp ↓] theorem toS_ok (a : α) (M : Mem) (s : Sg) (f : α → Mem → OutS) : (Out.ok a M).toS s f = f a M := rfl
@[simp ↓] theorem toS_er (e : Er) (M : Mem) (s : Sg) (f : α → Mem → OutS) : (Out.er e M : Out α).toS s f = .er e s M := rfl
@[simp ↓] theorem then_nx (s : Sg) (M : Mem) (f : Sg → Mem → OutS) : (OutS.nx s M).then_ f = f s M := rfl
@[simp ↓] theorem then_rt (t : T) (M : Mem) (f : Sg → Mem → OutS) : (OutS.rt t M).then_ f = .rt t M := rfl
@[simp ↓] theorem then_er (e : Er) (s : Sg) (M : Mem) (f : Sg → Mem → OutS) : (OutS.er e s M).then_ f = .er e s M := rfl
@[simp ↓] theorem then_bk (s : Sg) (M : Mem) (f : Sg → Mem → OutS) : (OutS.bk s M).then_ f = .bk s M := rfl
@[simp ↓] theorem then_ct (s : Sg) (M : Mem) (f : Sg → Mem → OutS) : (OutS.ct s M).then_ f = .ct s M := rfl
@[simp ↓] theorem noEr_ok (a : α) (M : Mem) : (Out.ok a M).noEr = .ok a M := rfl
@[simp ↓] theorem lift_some (a : α) (M : Mem) : lift (some (a, M)) = .ok a M := rfl
/-! what each part does; what follows a part stands by its name, so that nothing is reckoned ahead of its time -/
def kOp2 (g : Op2) (t : T) : T → Mem → Out T := fun u M2 => lift (g t u M2)
@[simp ↓] theorem w_kOp2 (g : Op2) (t : T) (u : T) (M2 : Mem) : kOp2 g t u M2 = lift (g t u M2) := rfl
def kBin (g : Op2) (db : DE) (s : Sg) : T → Mem → Out T := fun t M1 => (db s M1).bind (kOp2 g t)
@[simp ↓] theorem w_kBin (g : Op2) (db : DE) (s : Sg) (t : T) (M1 : Mem) : kBin g db s t M1 = (db s M1).bind (kOp2 g t) := rfl
@[simp ↓] theorem u_bin (g : Op2) (da db : DE) : dBin g da db s M = (da s M).bind (kBin g db s) := rfl
def kUn (g : Op1) : T → Mem → Out T := fun t M1 => lift (g t M1)
@[simp ↓] theorem w_kUn (g : Op1) (t : T) (M1 : Mem) : kUn g t M1 = lift (g t M1) := rfl
@[simp ↓] theorem u_un (g : Op1) (da : DE) : dUn g da s M = (da s M).bind (kUn g) := rfl
@[simp ↓] theorem u_c (t : T) : dC t s M = .ok t M := rfl
def kVar : Option (Option T) → Mem → Out T := fun o M => match o with
  | some (some t) => .ok t M
  | _ => .no
@[simp ↓] theorem u_var (i : Nat) : dVar i s M = kVar s[i]? M := by unfold dVar kVar; rfl
@[simp ↓] theorem w_kVar (t : T) : kVar (some (some t)) M = .ok t M := rfl
def kTst  : T → Mem → Out Bool := fun t M1 => toB (gTru t M1) M1
@[simp ↓] theorem w_kTst  (t : T) (M1 : Mem) : kTst t M1 = toB (gTru t M1) M1 := rfl
@[simp ↓] theorem u_tst (d : DE) : dTst d s M = (d s M).bind kTst := rfl
def kNotT  : Bool → Mem → Out Bool := fun b M1 => .ok (!b) M1
@[simp ↓] theorem w_kNotT  (b : Bool) (M1 : Mem) : kNotT b M1 = .ok (!b) M1 := rfl
@[simp ↓] theorem u_notT (ta : DT) : dNotT ta s M = (ta s M).bind kNotT := rfl
def kNotB  : Bool → Mem → Out T := fun b M2 => .ok (.bl (!b)) M2
@[simp ↓] theorem w_kNotB  (b : Bool) (M2 : Mem) : kNotB b M2 = .ok (.bl (!b)) M2 := rfl
def kNot  : T → Mem → Out T := fun t M1 => (toB (gTru t M1) M1).bind kNotB
@[simp ↓] theorem w_kNot  (t : T) (M1 : Mem) : kNot t M1 = (toB (gTru t M1) M1).bind kNotB := rfl
@[simp ↓] theorem u_not (da : DE) : dNot da s M = (da s M).bind kNot := rfl
def kAndT (tb : DT) (s : Sg) : Bool → Mem → Out Bool := fun b M1 => if b = true then tb s M1 else .ok false M1
@[simp ↓] theorem w_kAndT1 (tb : DT) : kAndT tb s true M = tb s M := rfl
@[simp ↓] theorem w_kAndT0 (tb : DT) : kAndT tb s false M = .ok false M := rfl
@[simp ↓] theorem u_andT (ta tb : DT) : dAndT ta tb s M = (ta s M).bind (kAndT tb s) := rfl
def kOrT (tb : DT) (s : Sg) : Bool → Mem → Out Bool := fun b M1 => if b = true then .ok true M1 else tb s M1
@[simp ↓] theorem w_kOrT1 (tb : DT) : kOrT tb s true M = .ok true M := rfl
@[simp ↓] theorem w_kOrT0 (tb : DT) : kOrT tb s false M = tb s M := rfl
@[simp ↓] theorem u_orT (ta tb : DT) : dOrT ta tb s M = (ta s M).bind (kOrT tb s) := rfl
def kAnd (db : DE) (s : Sg) : T → Mem → Out T := fun t M1 => match t with
  | .bl true => db s M1
  | .bl false => .ok (.bl false) M1
  | _ => .no
@[simp ↓] theorem w_kAnd1 (tb : DE) : kAnd tb s (.bl true) M = tb s M := rfl
@[simp ↓] theorem w_kAnd0 (tb : DE) : kAnd tb s (.bl false) M = .ok (.bl false) M := rfl
@[simp ↓] theorem u_and (da db : DE) : dAnd da db s M = (da s M).bind (kAnd db s) := rfl
def kOr (db : DE) (s : Sg) : T → Mem → Out T := fun t M1 => match t with
  | .bl true => .ok (.bl true) M1
  | .bl false => db s M1
  | _ => .no
@[simp ↓] theorem w_kOr1 (tb : DE) : kOr tb s (.bl true) M = .ok (.bl true) M := rfl
@[simp ↓] theorem w_kOr0 (tb : DE) : kOr tb s (.bl false) M = tb s M := rfl
@[simp ↓] theorem u_or (da db : DE) : dOr da db s M = (da s M).bind (kOr db s) := rfl
def kIte (da db : DE) (s : Sg) : Bool → Mem → Out T := fun k M1 => if k = true then da s M1 else db s M1
@[simp ↓] theorem w_kIte1 (da db : DE) : kIte da db s true M = da s M := rfl
@[simp ↓] theorem w_kIte0 (da db : DE) : kIte da db s false M = db s M := rfl
@[simp ↓] theorem u_ite (tc : DT) (da db : DE) : dIte tc da db s M = (tc s M).bind (kIte da db s) := rfl
def kChn3 (g' : Op2) (u : T) (dc : DE) (s : Sg) : T → Mem → Out T := fun r M3 => match r with
  | .bl true => (dc s M3).bind (kOp2 g' u)
  | .bl false => .ok (.bl false) M3
  | _ => .no
@[simp ↓] theorem w_kChn31 (g' : Op2) (u : T) (dc : DE) : kChn3 g' u dc s (.bl true) M = (dc s M).bind (kOp2 g' u) := rfl
@[simp ↓] theorem w_kChn30 (g' : Op2) (u : T) (dc : DE) : kChn3 g' u dc s (.bl false) M = .ok (.bl false) M := rfl
def kChn2 (g g' : Op2) (t : T) (dc : DE) (s : Sg) : T → Mem → Out T := fun u M2 => (lift (g t u M2)).bind (kChn3 g' u dc s)
@[simp ↓] theorem w_kChn2 (g g' : Op2) (t : T) (dc : DE) (s : Sg) (u : T) (M2 : Mem) : kChn2 g g' t dc s u M2 = (lift (g t u M2)).bind (kChn3 g' u dc s) := rfl
def kChn1 (g g' : Op2) (db dc : DE) (s : Sg) : T → Mem → Out T := fun t M1 => (db s M1).bind (kChn2 g g' t dc s)
@[simp ↓] theorem w_kChn1 (g g' : Op2) (db dc : DE) (s : Sg) (t : T) (M1 : Mem) : kChn1 g g' db dc s t M1 = (db s M1).bind (kChn2 g g' t dc s) := rfl
@[simp ↓] theorem u_chn (g g' : Op2) (da db dc : DE) : dChn g g' da db dc s M = (da s M).bind (kChn1 g g' db dc s) := rfl
@[simp ↓] theorem u_nil  : dNil s M = .ok [] M := rfl
def kCons2 (t : T) : List T → Mem → Out (List T) := fun ts M2 => .ok (t :: ts) M2
@[simp ↓] theorem w_kCons2 (t : T) (ts : List T) (M2 : Mem) : kCons2 t ts M2 = .ok (t :: ts) M2 := rfl
def kCons1 (da : DA) (s : Sg) : T → Mem → Out (List T) := fun t M1 => (da s M1).bind (kCons2 t)
@[simp ↓] theorem w_kCons1 (da : DA) (s : Sg) (t : T) (M1 : Mem) : kCons1 da s t M1 = (da s M1).bind (kCons2 t) := rfl
@[simp ↓] theorem u_cons (d : DE) (da : DA) : dCons d da s M = (d s M).bind (kCons1 da s) := rfl
def kTup  : List T → Mem → Out T := fun ts M1 => if ts.length ≤ LIM then .ok (.tup ts) M1 else .no
@[simp ↓] theorem w_kTup  (ts : List T) (M1 : Mem) : kTup ts M1 = if ts.length ≤ LIM then .ok (.tup ts) M1 else .no := rfl
@[simp ↓] theorem u_tup (da : DA) : dTup da s M = (da s M).bind kTup := rfl
def kLst (m : Bool) : List T → Mem → Out T := fun ts M1 => if ts.length ≤ LIM then lift (some (mk m (.lst ts) M1)) else .no
@[simp ↓] theorem w_kLst (m : Bool) (ts : List T) (M1 : Mem) : kLst m ts M1 = if ts.length ≤ LIM then lift (some (mk m (.lst ts) M1)) else .no := rfl
@[simp ↓] theorem u_lst (m : Bool) (da : DA) : dLst m da s M = (da s M).bind (kLst m) := rfl
@[simp ↓] theorem u_dct0 (m : Bool) : dDct0 m s M = lift (some (mk m (.dct []) M)) := rfl
@[simp ↓] theorem u_noPart  : dNoPart s M = .ok none M := rfl
def kPart : T → Mem → Out (Option Int) := fun t M1 => match t with
  | .int i => .ok (some i) M1
  | _ => .no
@[simp ↓] theorem w_kPart (i : Int) : kPart (.int i) M = .ok (some i) M := rfl
@[simp ↓] theorem u_part (d : DE) : dPart d s M = (d s M).bind kPart := rfl
def kSl3 (m : Bool) (t : T) (l : Option Int) : Option Int → Mem → Out T := fun u M3 => lift (gSl m t l u M3)
@[simp ↓] theorem w_kSl3 (m : Bool) (t : T) (l : Option Int) (u : Option Int) (M3 : Mem) : kSl3 m t l u M3 = lift (gSl m t l u M3) := rfl
def kSl2 (m : Bool) (t : T) (dh : DO) (s : Sg) : Option Int → Mem → Out T := fun l M2 => (dh s M2).bind (kSl3 m t l)
@[simp ↓] theorem w_kSl2 (m : Bool) (t : T) (dh : DO) (s : Sg) (l : Option Int) (M2 : Mem) : kSl2 m t dh s l M2 = (dh s M2).bind (kSl3 m t l) := rfl
def kSl1 (m : Bool) (dl dh : DO) (s : Sg) : T → Mem → Out T := fun t M1 => (dl s M1).bind (kSl2 m t dh s)
@[simp ↓] theorem w_kSl1 (m : Bool) (dl dh : DO) (s : Sg) (t : T) (M1 : Mem) : kSl1 m dl dh s t M1 = (dl s M1).bind (kSl2 m t dh s) := rfl
@[simp ↓] theorem u_sl (m : Bool) (da : DE) (dl dh : DO) : dSl m da dl dh s M = (da s M).bind (kSl1 m dl dh s) := rfl
def kRev (m : Bool) : T → Mem → Out T := fun t M1 => match der M1 t with
  | .lst xs => lift (some (mk m (.lst xs.reverse) M1))
  | _ => .no
@[simp ↓] theorem w_kRev (m : Bool) (xs : List T) : kRev m (.lst xs) M = lift (some (mk m (.lst xs.reverse) M)) := rfl
@[simp ↓] theorem w_kRevz (m : Bool) (xs : List T) : kRev m (.fz xs) M = lift (some (mk m (.lst xs.reverse) M)) := rfl
@[simp ↓] theorem u_rev (m : Bool) (da : DE) : dRev m da s M = (da s M).bind (kRev m) := rfl
def kCall (g : OpN) : List T → Mem → Out T := fun ts M1 => lift (g ts M1)
@[simp ↓] theorem w_kCall (g : OpN) (ts : List T) (M1 : Mem) : kCall g ts M1 = lift (g ts M1) := rfl
@[simp ↓] theorem u_call (g : OpN) (da : DA) : dCall g da s M = (da s M).bind (kCall g) := rfl
def kCallP (n : Nat) (F : DF) (dts : List T) : List T → Mem → Out T := fun ts M1 => if (ts ++ dts).length = n then runP F (ts ++ dts) M1 else .no
@[simp ↓] theorem w_kCallP (n : Nat) (F : DF) (dts : List T) (ts : List T) (M1 : Mem) : kCallP n F dts ts M1 = if (ts ++ dts).length = n then runP F (ts ++ dts) M1 else .no := rfl
@[simp ↓] theorem u_callP (n : Nat) (F : DF) (dts : List T) (da : DA) : dCallP n F dts da s M = (da s M).bind (kCallP n F dts) := rfl
def kCallN (n : Nat) (F : DF) (dts : List T) : List T → Mem → Out T := fun ts M1 => if (ts ++ dts).length = n then runN F (ts ++ dts) M1 else .no
@[simp ↓] theorem w_kCallN (n : Nat) (F : DF) (dts : List T) (ts : List T) (M1 : Mem) : kCallN n F dts ts M1 = if (ts ++ dts).length = n then runN F (ts ++ dts) M1 else .no := rfl
@[simp ↓] theorem u_callN (n : Nat) (F : DF) (dts : List T) (da : DA) : dCallN n F dts da s M = (da s M).bind (kCallN n F dts) := rfl
@[simp ↓] theorem u_callP0 (n : Nat) (F : DF) (dts : List T) : dCallP0 n F dts s M = if dts.length = n then runP F dts M else .no := rfl
def kMeth2 (g : OpM) (t : T) : List T → Mem → Out T := fun ts M2 => lift (g t ts M2)
@[simp ↓] theorem w_kMeth2 (g : OpM) (t : T) (ts : List T) (M2 : Mem) : kMeth2 g t ts M2 = lift (g t ts M2) := rfl
def kMeth1 (ty : String) (g : OpM) (da : DA) (s : Sg) : T → Mem → Out T := fun t M1 => if tyM M1 t = some ty then (da s M1).bind (kMeth2 g t) else .no
theorem w_kMeth1 {ty : String} {g : OpM} {da : DA} {t : T} (h : tyM M t = some ty) : kMeth1 ty g da s t M = (da s M).bind (kMeth2 g t) := if_pos h
@[simp ↓] theorem u_meth (ty : String) (g : OpM) (d : DE) (da : DA) : dMeth ty g d da s M = (d s M).bind (kMeth1 ty g da s) := rfl
def kFrz  : T → Mem → Out T := fun t M1 => lift (frz frzDepth t M1)
@[simp ↓] theorem w_kFrz  (t : T) (M1 : Mem) : kFrz t M1 = lift (frz frzDepth t M1) := rfl
@[simp ↓] theorem u_frz (d : DE) : dFrz d s M = (d s M).bind kFrz := rfl
def kKget (ks : List (Str × Str)) : T → Mem → Out T := fun t M1 => match t with
  | .str z => .ok (match ks.lookup z with
    | some y => .str y
    | none => .non) M1
  | _ => .no
def optS : Option Str → T
  | some y => .str y
  | none => .non
@[simp ↓] theorem w_kKget (ks : List (Str × Str)) (z : Str) : kKget ks (.str z) M = .ok (optS (ks.lookup z)) M := by
  show Out.ok _ M = _
  cases ks.lookup z <;> rfl
@[simp ↓] theorem u_kget (ks : List (Str × Str)) (de : DE) : dKget ks de s M = (de s M).bind (kKget ks) := rfl
def kMaxD2 (t : T) : T → Mem → Out T := fun u M2 => match (listOf M2 t).bind intsT with
  | some [] => .ok u M2
  | some (i :: r) => .ok (.int (maxI (i :: r))) M2
  | none => .no
def kMaxD (dd : DE) (s : Sg) : T → Mem → Out T := fun t M1 => (dd s M1).bind (kMaxD2 t)
@[simp ↓] theorem w_kMaxD (dd : DE) (s : Sg) (t : T) (M1 : Mem) : kMaxD dd s t M1 = (dd s M1).bind (kMaxD2 t) := rfl
@[simp ↓] theorem u_maxD (da dd : DE) : dMaxD da dd s M = (da s M).bind (kMaxD dd s) := rfl
def kLc2 (m : Bool) : List T → Mem → Out T := fun ys M2 => lift (some (mk m (.lst ys) M2))
@[simp ↓] theorem w_kLc2 (m : Bool) (ys : List T) (M2 : Mem) : kLc2 m ys M2 = lift (some (mk m (.lst ys) M2)) := rfl
def kLc (m : Bool) (g : DG) (tt : DT) (de : DE) (vs : List Nat) (s : Sg) : List T → Mem → Out T := fun ts M1 => if ts.length ≤ LIM then (lcL g tt de (wipeS s vs) ts M1).bind (kLc2 m) else .no
@[simp ↓] theorem w_kLc (m : Bool) (g : DG) (tt : DT) (de : DE) (vs : List Nat) (s : Sg) (ts : List T) (M1 : Mem) : kLc m g tt de vs s ts M1 = if ts.length ≤ LIM then (lcL g tt de (wipeS s vs) ts M1).bind (kLc2 m) else .no := rfl
@[simp ↓] theorem u_lc (m : Bool) (di : DA) (g : DG) (tt : DT) (de : DE) (vs : List Nat) : dLc m di g tt de vs s M = (di s M).bind (kLc m g tt de vs s) := rfl
def kDc2 (m : Bool) : List (Str × T) → Mem → Out T := fun ks M2 => lift (some (mk m (.dct ks) M2))
@[simp ↓] theorem w_kDc2 (m : Bool) (ks : List (Str × T)) (M2 : Mem) : kDc2 m ks M2 = lift (some (mk m (.dct ks) M2)) := rfl
def kDc (m : Bool) (g : DG) (tt : DT) (dk de : DE) (vs : List Nat) (s : Sg) : List T → Mem → Out T := fun ts M1 => (dcL g tt dk de (wipeS s vs) ts [] M1).bind (kDc2 m)
@[simp ↓] theorem w_kDc (m : Bool) (g : DG) (tt : DT) (dk de : DE) (vs : List Nat) (s : Sg) (ts : List T) (M1 : Mem) : kDc m g tt dk de vs s ts M1 = (dcL g tt dk de (wipeS s vs) ts [] M1).bind (kDc2 m) := rfl
@[simp ↓] theorem u_dc (m : Bool) (di : DA) (g : DG) (tt : DT) (dk de : DE) (vs : List Nat) : dDc m di g tt dk de vs s M = (di s M).bind (kDc m g tt dk de vs s) := rfl
@[simp ↓] theorem u_pnil  : dPnil s M = .ok [] M := rfl
def kQ3 (t u : T) : List (Str × T) → Mem → Out (List (Str × T)) := fun r M3 => match t with
  | .str k => .ok ((k, u) :: r) M3
  | _ => .no
@[simp ↓] theorem w_kQ3 (k : Str) (u : T) (r : List (Str × T)) : kQ3 (.str k) u r M = .ok ((k, u) :: r) M := rfl
def kQ2 (t : T) (dr : DP) (s : Sg) : T → Mem → Out (List (Str × T)) := fun u M2 => (dr s M2).bind (kQ3 t u)
@[simp ↓] theorem w_kQ2 (t : T) (dr : DP) (s : Sg) (u : T) (M2 : Mem) : kQ2 t dr s u M2 = (dr s M2).bind (kQ3 t u) := rfl
def kQ1 (dv : DE) (dr : DP) (s : Sg) : T → Mem → Out (List (Str × T)) := fun t M1 => (dv s M1).noEr.bind (kQ2 t dr s)
@[simp ↓] theorem w_kQ1 (dv : DE) (dr : DP) (s : Sg) (t : T) (M1 : Mem) : kQ1 dv dr s t M1 = (dv s M1).noEr.bind (kQ2 t dr s) := rfl
@[simp ↓] theorem u_qcons (dk dv : DE) (dr : DP) : dQcons dk dv dr s M = (dk s M).noEr.bind (kQ1 dv dr s) := rfl
def kDctQ (m : Bool) : Out (List (Str × T)) → Out T := fun o => match o with
  | .ok ps M1 => if ps.length ≤ 15 then lift (some (mk m (.dct (mergeT [] ps)) M1)) else .no
  | _ => .no
@[simp ↓] theorem w_kDctQ (m : Bool) (ps : List (Str × T)) : kDctQ m (.ok ps M) = if ps.length ≤ 15 then lift (some (mk m (.dct (mergeT [] ps)) M)) else .no := rfl
@[simp ↓] theorem u_dctQ (m : Bool) (d : DP) : dDctQ m d s M = kDctQ m (d s M) := rfl
def kWalk  : T → Mem → Out (List T) := fun t M1 => toA (walkT t) M1
@[simp ↓] theorem w_kWalk  (t : T) (M1 : Mem) : kWalk t M1 = toA (walkT t) M1 := rfl
@[simp ↓] theorem u_walk (d : DE) : dWalk d s M = (d s M).bind kWalk := rfl
def kVals : T → Mem → Out (List T) := fun t M1 => match t with
  | .dct ks => .ok (valsT ks) M1
  | _ => .no
@[simp ↓] theorem w_kVals (ks : List (Str × T)) : kVals (.dct ks) M = .ok (valsT ks) M := rfl
@[simp ↓] theorem u_vals (d : DE) : dVals d s M = (d s M).bind kVals := rfl
def kItems : T → Mem → Out (List T) := fun t M1 => match t with
  | .dct ks => .ok (itemsT ks) M1
  | _ => .no
@[simp ↓] theorem w_kItems (ks : List (Str × T)) : kItems (.dct ks) M = .ok (itemsT ks) M := rfl
@[simp ↓] theorem u_items (d : DE) : dItems d s M = (d s M).bind kItems := rfl
def kRange1 : List T → Mem → Out (List T) := fun ts M1 => match ts with
  | [.int n] => if inR n = true then .ok (rngT 0 n.toNat) M1 else .no
  | _ => .no
@[simp] theorem w_kRange1 {n : Int} (h : inR n = true) : kRange1 [.int n] M = .ok (rngT 0 n.toNat) M := if_pos h
@[simp ↓] theorem u_range1 (da : DA) : dRange1 da s M = (da s M).bind kRange1 := rfl
def kRange2 : List T → Mem → Out (List T) := fun ts M1 => match ts with
  | [.int i, .int j] => if inR i = true ∧ inR j = true then .ok (rngT i (j - i).toNat) M1 else .no
  | _ => .no
@[simp] theorem w_kRange2 {i j : Int} (h : inR i = true) (h2 : inR j = true) : kRange2 [.int i, .int j] M = .ok (rngT i (j - i).toNat) M := if_pos ⟨h, h2⟩
@[simp ↓] theorem u_range2 (da : DA) : dRange2 da s M = (da s M).bind kRange2 := rfl
def kEnum : List T → Mem → Out (List T) := fun ts M1 => match ts with
  | [t] => toA (enumW t) M1
  | _ => .no
@[simp ↓] theorem w_kEnum (t : T) : kEnum [t] M = toA (enumW t) M := rfl
@[simp ↓] theorem u_enum (da : DA) : dEnum da s M = (da s M).bind kEnum := rfl
def kZipS : List T → Mem → Out (List T) := fun ts M1 => match ts with
  | [.str x, .tup xs] => if x.cps.size = xs.length then .ok (pairsZ x xs) M1 else .no
  | _ => .no
@[simp ↓] theorem w_kZipS (x : Str) (xs : List T) : kZipS [.str x, .tup xs] M = if x.cps.size = xs.length then .ok (pairsZ x xs) M else .no := rfl
@[simp ↓] theorem u_zipS (da : DA) : dZipS da s M = (da s M).bind kZipS := rfl
@[simp ↓] theorem u_yes  : tYesD s M = .ok true M := rfl
@[simp ↓] theorem u_nx  : dNx s M = .nx s M := rfl
@[simp ↓] theorem u_seq (a b : DS) : dSeq a b s M = (a s M).then_ b := rfl
def kAsg (i : Nat) (s : Sg) : T → Mem → OutS := fun t M1 => .nx (s.set i (some t)) M1
@[simp ↓] theorem w_kAsg (i : Nat) (s : Sg) (t : T) (M1 : Mem) : kAsg i s t M1 = .nx (s.set i (some t)) M1 := rfl
@[simp ↓] theorem u_asg (i : Nat) (d : DE) : dAsg i d s M = (d s M).toS s (kAsg i s) := rfl
def kDrop (s : Sg) : T → Mem → OutS := fun _ M1 => .nx s M1
@[simp ↓] theorem w_kDrop (s : Sg) (t : T) (M1 : Mem) : kDrop s t M1 = .nx s M1 := rfl
@[simp ↓] theorem u_drop (d : DE) : dDrop d s M = (d s M).toS s (kDrop s) := rfl
def kRet  : T → Mem → OutS := fun t M1 => .rt t M1
@[simp ↓] theorem w_kRet  (t : T) (M1 : Mem) : kRet t M1 = .rt t M1 := rfl
@[simp ↓] theorem u_ret (d : DE) : dRet d s M = (d s M).toS s kRet := rfl
@[simp ↓] theorem u_retN  : dRetN s M = .rt .non M := rfl
def kIf (a b : DS) (s : Sg) : Bool → Mem → OutS := fun k M1 => if k = true then a s M1 else b s M1
@[simp ↓] theorem w_kIf1 (a b : DS) : kIf a b s true M = a s M := rfl
@[simp ↓] theorem w_kIf0 (a b : DS) : kIf a b s false M = b s M := rfl
@[simp ↓] theorem u_if (tc : DT) (a b : DS) : dIf tc a b s M = (tc s M).toS s (kIf a b s) := rfl
def kPar (i j : Nat) (s : Sg) : List T → Mem → OutS := fun ts M1 => match ts with
  | [t, u] => .nx ((s.set i (some t)).set j (some u)) M1
  | _ => .no
@[simp ↓] theorem w_kPar (i j : Nat) (t u : T) : kPar i j s [t, u] M = .nx ((s.set i (some t)).set j (some u)) M := rfl
@[simp ↓] theorem u_par (i j : Nat) (da : DA) : dPar i j da s M = (da s M).toS s (kPar i j s) := rfl
def kAug2 (i : Nat) (s : Sg) : T → Mem → OutS := fun z M2 => .nx (s.set i (some z)) M2
@[simp ↓] theorem w_kAug2 (i : Nat) (s : Sg) (z : T) (M2 : Mem) : kAug2 i s z M2 = .nx (s.set i (some z)) M2 := rfl
def kAug1 (i : Nat) (g : Op2) (x : T) (s : Sg) : T → Mem → OutS := fun y M1 => (lift (g x y M1)).toS s (kAug2 i s)
@[simp ↓] theorem w_kAug1 (i : Nat) (g : Op2) (x : T) (s : Sg) (y : T) (M1 : Mem) : kAug1 i g x s y M1 = (lift (g x y M1)).toS s (kAug2 i s) := rfl
def kAug (i : Nat) (g : Op2) (d : DE) (s : Sg) : Option (Option T) → Mem → OutS := fun o M => match o with
  | some (some x) => (d s M).toS s (kAug1 i g x s)
  | _ => .no
@[simp ↓] theorem w_kAug (i : Nat) (g : Op2) (d : DE) (x : T) : kAug i g d s (some (some x)) M = (d s M).toS s (kAug1 i g x s) := rfl
@[simp ↓] theorem u_aug (i : Nat) (g : Op2) (d : DE) : dAug i g d s M = kAug i g d s s[i]? M := by unfold dAug kAug; rfl
@[simp ↓] theorem u_bk  : dBk s M = .bk s M := rfl
@[simp ↓] theorem u_ct  : dCt s M = .ct s M := rfl
def kPutE (s : Sg) : Option Mem → OutS := fun o => match o with
  | some M4 => .nx s M4
  | none => .no
@[simp ↓] theorem w_kPutE (M4 : Mem) : kPutE s (some M4) = .nx s M4 := rfl
def kPut3 (t v : T) (s : Sg) : T → Mem → OutS := fun u M3 => kPutE s (gPut t u v M3)
@[simp ↓] theorem w_kPut3 (t v : T) (s : Sg) (u : T) (M3 : Mem) : kPut3 t v s u M3 = kPutE s (gPut t u v M3) := rfl
def kPut2 (v : T) (dk : DE) (s : Sg) : T → Mem → OutS := fun t M2 => (dk s M2).toS s (kPut3 t v s)
@[simp ↓] theorem w_kPut2 (v : T) (dk : DE) (s : Sg) (t : T) (M2 : Mem) : kPut2 v dk s t M2 = (dk s M2).toS s (kPut3 t v s) := rfl
def kPut1 (dd dk : DE) (s : Sg) : T → Mem → OutS := fun v M1 => (dd s M1).toS s (kPut2 v dk s)
@[simp ↓] theorem w_kPut1 (dd dk : DE) (s : Sg) (v : T) (M1 : Mem) : kPut1 dd dk s v M1 = (dd s M1).toS s (kPut2 v dk s) := rfl
@[simp ↓] theorem u_put (dd dk dv : DE) : dPut dd dk dv s M = (dv s M).toS s (kPut1 dd dk s) := rfl
def kTry : OutS → OutS := fun o => match o with
  | .er _ _ _ => .no
  | o => o
@[simp ↓] theorem w_kTry1 : kTry (.nx s M) = .nx s M := rfl
@[simp ↓] theorem w_kTry2 (t : T) : kTry (.rt t M) = .rt t M := rfl
@[simp ↓] theorem u_try (b : DS) : dTry b s M = kTry (b s M) := rfl
def kFrzV2 (i : Nat) (b : DS) (s : Sg) : Option (T × Mem) → OutS := fun o => match o with
  | some (t', M') => b (s.set i (some t')) M'
  | none => .no
@[simp ↓] theorem w_kFrzV2 (i : Nat) (b : DS) (t : T) : kFrzV2 i b s (some (t, M)) = b (s.set i (some t)) M := rfl
def kFrzV (i : Nat) (b : DS) (s : Sg) : Option (Option T) → Mem → OutS := fun o M => match o with
  | some (some t) => kFrzV2 i b s (frz frzDepth t M)
  | _ => .no
@[simp ↓] theorem w_kFrzV (i : Nat) (b : DS) (t : T) : kFrzV i b s (some (some t)) M = kFrzV2 i b s (frz frzDepth t M) := rfl
@[simp ↓] theorem u_frzV (i : Nat) (b : DS) : dFrzV i b s M = kFrzV i b s s[i]? M := by unfold dFrzV kFrzV kFrzV2; rfl
def kFor (g : DG) (b : DS) (s : Sg) : List T → Mem → OutS := fun ts M1 => forL g b ts s M1
@[simp ↓] theorem w_kFor (g : DG) (b : DS) (s : Sg) (ts : List T) (M1 : Mem) : kFor g b s ts M1 = forL g b ts s M1 := rfl
@[simp ↓] theorem u_forW (di : DA) (g : DG) (b : DS) (vs : List Nat) : dForW di g b vs s M = (di (wipeS s vs) M).toS (wipeS s vs) (kFor g (dTrim vs b) (wipeS s vs)) := rfl
/-- a turn that makes no cells -/
def kTrim (n : Nat) (vs : List Nat) : OutS → OutS := fun o => match o with
  | .nx s2 M2 => (match trim n vs s2 M2 with
    | some (s3, M3) => .nx s3 M3
    | none => .no)
  | .ct s2 M2 => (match trim n vs s2 M2 with
    | some (s3, M3) => .ct s3 M3
    | none => .no)
  | .bk s2 M2 => (match trim n vs s2 M2 with
    | some (s3, M3) => .bk s3 M3
    | none => .no)
  | o => o
@[simp ↓] theorem u_trim (vs : List Nat) (b : DS) : dTrim vs b s M = kTrim M.length vs (b s M) := by
  unfold dTrim kTrim; rfl
@[simp ↓] theorem w_kTrim_rt (n : Nat) (vs : List Nat) (t : T) : kTrim n vs (.rt t M) = .rt t M := rfl
theorem w_kTrim0 {n : Nat} (vs : List Nat) (h : M.length = n) : kTrim n vs (.nx s M) = .nx (wipeS s vs) M := by
  unfold kTrim trim; simp only; rw [if_pos h]
theorem w_kTrimB {n : Nat} (vs : List Nat) (h : M.length = n) : kTrim n vs (.bk s M) = .bk (wipeS s vs) M := by
  unfold kTrim trim; simp only; rw [if_pos h]
theorem w_kTrimC {n : Nat} (vs : List Nat) (h : M.length = n) : kTrim n vs (.ct s M) = .ct (wipeS s vs) M := by
  unfold kTrim trim; simp only; rw [if_pos h]
theorem w_kTrim1 {n : Nat} (vs : List Nat) (h : n ≤ M.length) (h2 : (wipeS s vs).all (slotB n) = true) (h3 : (M.take n).all (cellB n) = true) : kTrim n vs (.nx s M) = .nx (wipeS s vs) (M.take n) := by
  unfold kTrim trim
  simp only
  by_cases c : M.length = n
  · rw [if_pos c]; simp only; rw [← c, List.take_length]
  · rw [if_neg c, if_pos ⟨h, h2, h3⟩]
end
/-! ### calls -/
/-- F hands back t, for arguments without cells -/
theorem runP_ok {F : DF} {ts : List T} {t : T} {M : Mem} (h : ∃ M', F ts [] = .ok t M') (h1 : noCelL ts = true) (h2 : noCel t = true) : runP F ts M = .ok t M := by
  obtain ⟨M', e⟩ := h
  unfold runP
  rw [if_pos h1, e]
  simp only
  rw [if_pos h2]
theorem runN_ok {F : DF} {ts : List T} {u : T} {M : Mem} (h : ∃ i M', F ts [] = .ok (.cel i) M' ∧ M'[i]? = some (.live u)) (h1 : noCelL ts = true) (h2 : noCel u = true) : runN F ts M = .ok (.cel M.length) (M ++ [.live u]) := by
  obtain ⟨i, M', e, e2⟩ := h
  unfold runN
  rw [if_pos h1, e]
  simp only [e2]
  rw [if_pos h2]
/-- a def's body -/
theorem runD_rt {k : Nat} {b : DS} {ts : List T} {t : T} {M M' : Mem} (h : b (startS k ts) M = .rt t M') : runD k b ts M = .ok t M' := by unfold runD; rw [h]
theorem runD_nx {k : Nat} {b : DS} {ts : List T} {s : Sg} {M M' : Mem} (h : b (startS k ts) M = .nx s M') : runD k b ts M = .ok .non M' := by unfold runD; rw [h]
/-! ### loops -/
/-- a turn: on, or back with a value -/
inductive Turn (α : Type) where
  | on (a : α)
  | ret (t : T)
/-- a loop by its turns: sO, mO the slots and the cells of a state, kept turn by turn -/
theorem forL_run {α β : Type} {g : DG} {b : DS} {it : β → T} {sO : α → Sg} {mO : α → Mem} {f : α → β → Turn α} {Inv : List β → α → Prop} {R : T → Prop}
    (hs : ∀ (x : β) (r : List β) (a : α), Inv (x :: r) a → ∃ s1, g (it x) (sO a) = some s1 ∧ match f a x with
      | .on a' => (b s1 (mO a) = .nx (sO a') (mO a') ∨ b s1 (mO a) = .ct (sO a') (mO a')) ∧ Inv r a'
      | .ret t => (∃ M', b s1 (mO a) = .rt t M') ∧ R t) :
    ∀ (xs : List β) (a : α), Inv xs a → (∃ a', forL g b (xs.map it) (sO a) (mO a) = .nx (sO a') (mO a') ∧ Inv [] a') ∨ ∃ t M', forL g b (xs.map it) (sO a) (mO a) = .rt t M' ∧ R t
  | [], a, h => .inl ⟨a, rfl, h⟩
  | x :: r, a, h => by
    obtain ⟨s1, e1, e2⟩ := hs x r a h
    rw [List.map_cons]
    unfold forL
    simp only [e1]
    cases e : f a x with
    | on a' =>
      rw [e] at e2
      have ih := forL_run hs r a' e2.2
      rcases e2.1 with q | q
      · simp only [q]; exact ih
      · simp only [q]; exact ih
    | ret t =>
      rw [e] at e2
      obtain ⟨⟨M', q⟩, hr⟩ := e2
      simp only [q]
      exact .inr ⟨t, M', rfl, hr⟩
/-- a loop that never hands back: the state after is told by a fold -/
theorem forL_fold {α β : Type} {g : DG} {b : DS} {it : β → T} {sO : α → Sg} {mO : α → Mem} {f : α → β → α} {Inv : List β → α → Prop}
    (hs : ∀ (x : β) (r : List β) (a : α), Inv (x :: r) a → ∃ s1, g (it x) (sO a) = some s1 ∧ b s1 (mO a) = .nx (sO (f a x)) (mO (f a x)) ∧ Inv r (f a x)) :
    ∀ (xs : List β) (a : α), Inv xs a → forL g b (xs.map it) (sO a) (mO a) = .nx (sO (xs.foldl f a)) (mO (xs.foldl f a)) ∧ Inv [] (xs.foldl f a)
  | [], a, h => ⟨rfl, h⟩
  | x :: r, a, h => by
    obtain ⟨s1, e1, e2, e3⟩ := hs x r a h
    rw [List.map_cons]
    unfold forL
    simp only [e1, e2]
    exact forL_fold hs r (f a x) e3
/-- .. for the items of the list alone -/
theorem forL_foldM {α β : Type} {g : DG} {b : DS} {it : β → T} {sO : α → Sg} {mO : α → Mem} {f : α → β → α} {Inv : List β → α → Prop} :
    ∀ (xs : List β), (∀ x ∈ xs, ∀ (r : List β) (a : α), Inv (x :: r) a → ∃ s1, g (it x) (sO a) = some s1 ∧ b s1 (mO a) = .nx (sO (f a x)) (mO (f a x)) ∧ Inv r (f a x)) → ∀ a : α, Inv xs a →
      forL g b (xs.map it) (sO a) (mO a) = .nx (sO (xs.foldl f a)) (mO (xs.foldl f a)) ∧ Inv [] (xs.foldl f a)
  | [], _, a, h => ⟨rfl, h⟩
  | x :: r, hs, a, h => by
    obtain ⟨s1, e1, e2, e3⟩ := hs x (List.mem_cons_self ..) r a h
    rw [List.map_cons]
    unfold forL
    simp only [e1, e2]
    exact forL_foldM r (fun y hy => hs y (List.mem_cons_of_mem _ hy)) (f a x) e3
/-- .. by an invariant alone -/
theorem forL_inv {α β : Type} {g : DG} {b : DS} {it : β → T} {sO : α → Sg} {mO : α → Mem} {Inv : List β → α → Prop} :
    ∀ (xs : List β), (∀ x ∈ xs, ∀ (r : List β) (a : α), Inv (x :: r) a → ∃ s1 a', g (it x) (sO a) = some s1 ∧ b s1 (mO a) = .nx (sO a') (mO a') ∧ Inv r a') → ∀ a : α, Inv xs a →
      ∃ a', forL g b (xs.map it) (sO a) (mO a) = .nx (sO a') (mO a') ∧ Inv [] a'
  | [], _, a, h => ⟨a, rfl, h⟩
  | x :: r, hs, a, h => by
    obtain ⟨s1, a', e1, e2, e3⟩ := hs x (List.mem_cons_self ..) r a h
    rw [List.map_cons]
    unfold forL
    simp only [e1, e2]
    exact forL_inv r (fun y hy => hs y (List.mem_cons_of_mem _ hy)) a' e3
/-- a search: the first that is found is handed back -/
theorem forL_find {β : Type} {g : DG} {b : DS} {it : β → T} {s : Sg} {M : Mem} {f : β → Option T}
    (hs : ∀ (x : β), ∃ s1, g (it x) s = some s1 ∧ match f x with
      | none => b s1 M = .nx s M
      | some t => ∃ M', b s1 M = .rt t M') :
    ∀ (xs : List β), match xs.findSome? f with
      | none => forL g b (xs.map it) s M = .nx s M
      | some t => ∃ M', forL g b (xs.map it) s M = .rt t M'
  | [] => rfl
  | x :: r => by
    obtain ⟨s1, e1, e2⟩ := hs x
    rw [List.map_cons, List.findSome?_cons]
    unfold forL
    simp only [e1]
    cases e : f x with
    | none =>
      rw [e] at e2
      simp only [e2]
      exact forL_find hs r
    | some t =>
      rw [e] at e2
      obtain ⟨M', q⟩ := e2
      simp only [q]
      exact ⟨M', rfl⟩
/-- a comprehension, item by item -/
theorem lcL_map {β : Type} {g : DG} {tt : DT} {de : DE} {s0 : Sg} {M : Mem} {it : β → T} {p : β → Bool} {f : β → T}
    (hs : ∀ x, ∃ s1, g (it x) s0 = some s1 ∧ tt s1 M = .ok (p x) M ∧ (p x = true → de s1 M = .ok (f x) M)) :
    ∀ xs : List β, lcL g tt de s0 (xs.map it) M = .ok ((xs.filter p).map f) M
  | [] => rfl
  | x :: r => by
    obtain ⟨s1, e1, e2, e3⟩ := hs x
    rw [List.map_cons]
    unfold lcL
    simp only [e1, e2, noEr_ok, bind_ok]
    have ih := lcL_map hs r
    cases e : p x with
    | true =>
      rw [if_pos rfl, e3 e]
      simp only [noEr_ok, bind_ok, ih]
      rw [List.filter_cons_of_pos (by simpa using e)]
      rfl
    | false =>
      rw [if_neg (by simp)]
      rw [List.filter_cons_of_neg (by simpa using e)]
      exact ih
/-- .. for the items of a list alone -/
theorem lcL_mapM {β : Type} {g : DG} {tt : DT} {de : DE} {s0 : Sg} {M : Mem} {it : β → T} {p : β → Bool} {f : β → T} :
    ∀ xs : List β, (∀ x ∈ xs, ∃ s1, g (it x) s0 = some s1 ∧ tt s1 M = .ok (p x) M ∧ (p x = true → de s1 M = .ok (f x) M)) → lcL g tt de s0 (xs.map it) M = .ok ((xs.filter p).map f) M
  | [], _ => rfl
  | x :: r, hs => by
    obtain ⟨s1, e1, e2, e3⟩ := hs x (List.mem_cons_self ..)
    rw [List.map_cons]
    unfold lcL
    simp only [e1, e2, noEr_ok, bind_ok]
    have ih := lcL_mapM r fun y hy => hs y (List.mem_cons_of_mem _ hy)
    cases e : p x with
    | true =>
      rw [if_pos rfl, e3 e]
      simp only [noEr_ok, bind_ok, ih]
      rw [List.filter_cons_of_pos (by simpa using e)]
      rfl
    | false =>
      rw [if_neg (by simp)]
      rw [List.filter_cons_of_neg (by simpa using e)]
      exact ih
/-- .. whose items are told as there is one -/
theorem lcL_ex {β γ : Type} {g : DG} {tt : DT} {de : DE} {s0 : Sg} {M : Mem} {it : β → T} {en : γ → T} {Q : γ → Prop} :
    ∀ xs : List β, (∀ x ∈ xs, ∃ s1, g (it x) s0 = some s1 ∧ tt s1 M = .ok true M ∧ ∃ y, Q y ∧ de s1 M = .ok (en y) M) → ∃ ys : List γ, ys.length = xs.length ∧ (∀ y ∈ ys, Q y) ∧ lcL g tt de s0 (xs.map it) M = .ok (ys.map en) M
  | [], _ => ⟨[], rfl, fun y h => by simp at h, rfl⟩
  | x :: r, hs => by
    obtain ⟨s1, e1, e2, y, q, e3⟩ := hs x (List.mem_cons_self ..)
    obtain ⟨ys, h1, h2, h3⟩ := lcL_ex r fun y hy => hs y (List.mem_cons_of_mem _ hy)
    refine ⟨y :: ys, by simp [h1], fun z hz => ?_, ?_⟩
    · rcases List.mem_cons.mp hz with rfl | hz
      · exact q
      · exact h2 z hz
    · rw [List.map_cons]
      unfold lcL
      simp only [e1, e2, noEr_ok, bind_ok, if_true, e3, h3]
      rfl
/-! ### no cells -/
theorem noCelL_map {β : Type} {f : β → T} (h : ∀ x, noCel (f x) = true) : ∀ xs : List β, noCelL (xs.map f) = true
  | [] => by simp [noCelL]
  | x :: r => by rw [List.map_cons]; simp only [noCelL, Bool.and_eq_true]; exact ⟨h x, noCelL_map h r⟩
theorem noCelL_app : ∀ {xs ys : List T}, noCelL (xs ++ ys) = (noCelL xs && noCelL ys)
  | [], ys => by simp [noCelL]
  | x :: r, ys => by rw [List.cons_append]; simp only [noCelL]; rw [noCelL_app, Bool.and_assoc]
theorem noCelF_map {β : Type} {k : β → Str} {f : β → T} (h : ∀ x, noCel (f x) = true) : ∀ xs : List β, noCelF (xs.map fun x => (k x, f x)) = true
  | [] => by simp [noCelF]
  | x :: r => by rw [List.map_cons]; simp only [noCelF, Bool.and_eq_true]; exact ⟨h x, noCelF_map h r⟩
theorem noCelL_all {xs : List T} (h : ∀ x ∈ xs, noCel x = true) : noCelL xs = true := by
  induction xs with
  | nil => simp [noCelL]
  | cons x r ih =>
    simp only [noCelL, Bool.and_eq_true]
    exact ⟨h x (List.mem_cons_self ..), ih fun y hy => h y (List.mem_cons_of_mem _ hy)⟩
end Z
end
section
set_option Elab.async false
set_option linter.all false
set_option maxRecDepth 100000
set_option maxHeartbeats 4000000
/-! Zzd: values as data; what the operators answer. -/
namespace Z
open PySem PySem.Spec PyProof.Rows L2 PySem.SeqAt
section
variable {M : Mem}
@[simp] theorem at_pos {α : Type} {xs : List α} {n : Nat} : atI xs (n : Int) = xs[n]? := by
  cases e : xs[n]? with
  | some v => exact atI_nat e
  | none =>
    have h : xs.length ≤ n := List.getElem?_eq_none_iff.mp e
    unfold atI ixN
    rw [if_pos (by omega), if_neg (by omega)]; rfl
@[simp] theorem at_lit0 {α : Type} {xs : List α} : atI xs 0 = xs[0]? := at_pos (n := 0)
@[simp] theorem at_lit1 {α : Type} {xs : List α} : atI xs 1 = xs[1]? := at_pos (n := 1)
@[simp] theorem at_lit2 {α : Type} {xs : List α} : atI xs 2 = xs[2]? := at_pos (n := 2)
@[simp] theorem at_lit3 {α : Type} {xs : List α} : atI xs 3 = xs[3]? := at_pos (n := 3)
theorem at_in {α : Type} {xs : List α} {i : Int} (h0 : 0 ≤ i) (h1 : i < xs.length) : ∃ x ∈ xs, atI xs i = some x := by
  obtain ⟨n, rfl⟩ := Int.eq_ofNat_of_zero_le h0
  have hn : n < xs.length := by simpa using h1
  exact ⟨xs[n], List.getElem_mem hn, by rw [at_pos, List.getElem?_eq_getElem hn]⟩
@[simp] theorem der_lst' (xs : List T) : der M (.lst xs) = .lst xs := rfl
@[simp] theorem der_tup' (xs : List T) : der M (.tup xs) = .tup xs := rfl
@[simp] theorem der_dct' (xs : List (Str × T)) : der M (.dct xs) = .dct xs := rfl
@[simp] theorem der_str' (x : Str) : der M (.str x) = .str x := rfl
@[simp] theorem der_int' (x : Int) : der M (.int x) = .int x := rfl
@[simp] theorem der_bl' (x : Bool) : der M (.bl x) = .bl x := rfl
@[simp] theorem der_non' : der M .non = .non := rfl
@[simp] theorem der_fz' (xs : List T) : der M (.fz xs) = .lst xs := rfl
@[simp] theorem derL_lst' (xs : List T) : derL M (.lst xs) = .lst xs := rfl
@[simp] theorem derL_tup' (xs : List T) : derL M (.tup xs) = .tup xs := rfl
@[simp] theorem derL_dct' (xs : List (Str × T)) : derL M (.dct xs) = .dct xs := rfl
@[simp] theorem mk_true (t : T) : mk true t M = (.cel M.length, M ++ [.live t]) := rfl
@[simp] theorem mk_false (t : T) : mk false t M = (t, M) := rfl
@[simp] theorem add_int' (a b : Int) (m : Bool) : gAdd m (.int a) (.int b) M = some (.int (a + b), M) := rfl
@[simp] theorem add_str' (a b : Str) (m : Bool) : gAdd m (.str a) (.str b) M = if a.length + b.length ≤ LIM then some (.str (a ++ b), M) else none := rfl
@[simp] theorem add_lst' (xs ys : List T) (m : Bool) : gAdd m (.lst xs) (.lst ys) M = if xs.length + ys.length ≤ LIM then some (mk m (.lst (xs ++ ys)) M) else none := rfl
@[simp] theorem add_fz' (xs ys : List T) (m : Bool) : gAdd m (.lst xs) (.fz ys) M = none := rfl
@[simp] theorem sub_int' (a b : Int) : gSub (.int a) (.int b) M = some (.int (a - b), M) := rfl
@[simp] theorem mul_int' (a b : Int) (m : Bool) : gMul m (.int a) (.int b) M = if sgn a || sgn b then some (.int (a * b), M) else none := rfl
@[simp] theorem mul_lst' (xs : List T) (k : Int) (m : Bool) : gMul m (.lst xs) (.int k) M = if -(2 ^ 63) ≤ k ∧ k < 2 ^ 63 ∧ xs.length * k.toNat ≤ LIM then some (mk m (.lst (List.replicate k.toNat xs).flatten) M) else none := rfl
@[simp] theorem fdiv_int' (a b : Int) : gFdiv (.int a) (.int b) M = if fdOk b = true then some (.int (a / b), M) else none := rfl
@[simp] theorem mod_int' (a b : Int) : gMod (.int a) (.int b) M = if 0 < b then some (.int (a % b), M) else none := rfl
@[simp] theorem pow_int' (a b : Int) : gPow (.int a) (.int b) M = if 0 ≤ b ∧ b ≤ 1000000 ∧ a.natAbs < 2 ^ 64 then some (.int (a ^ b.toNat), M) else none := rfl
@[simp] theorem neg_int' (a : Int) : gNeg (.int a) M = some (.int (-a), M) := rfl
@[simp] theorem lt_int' (a b : Int) : gLt (.int a) (.int b) M = some (.bl (decide (a < b)), M) := rfl
@[simp] theorem le_int' (a b : Int) : gLe (.int a) (.int b) M = some (.bl (decide (a ≤ b)), M) := rfl
@[simp] theorem gt_int' (a b : Int) : gGt (.int a) (.int b) M = some (.bl (decide (b < a)), M) := rfl
@[simp] theorem ge_int' (a b : Int) : gGe (.int a) (.int b) M = some (.bl (decide (b ≤ a)), M) := rfl
/-- a value that is not None -/
def notN : T → Bool
  | .non => false
  | .cel _ => false
  | _ => true
@[simp] theorem is_non' : gIs .non .non M = some (.bl true, M) := rfl
theorem is_some' {t : T} (h : notN t = true) : gIs t .non M = some (.bl false, M) := by cases t <;> first | rfl | cases h
@[simp] theorem isn_non' : gIsN .non .non M = some (.bl false, M) := rfl
theorem isn_some' {t : T} (h : notN t = true) : gIsN t .non M = some (.bl true, M) := by cases t <;> first | rfl | cases h
@[simp] theorem is_lst' (xs : List T) : gIs (.lst xs) .non M = some (.bl false, M) := rfl
@[simp] theorem is_int' (xs : Int) : gIs (.int xs) .non M = some (.bl false, M) := rfl
@[simp] theorem is_str' (xs : Str) : gIs (.str xs) .non M = some (.bl false, M) := rfl
@[simp] theorem is_tup' (xs : List T) : gIs (.tup xs) .non M = some (.bl false, M) := rfl
@[simp] theorem isn_lst' (xs : List T) : gIsN (.lst xs) .non M = some (.bl true, M) := rfl
@[simp] theorem isn_int' (xs : Int) : gIsN (.int xs) .non M = some (.bl true, M) := rfl
@[simp] theorem isn_str' (xs : Str) : gIsN (.str xs) .non M = some (.bl true, M) := rfl
@[simp] theorem isn_tup' (xs : List T) : gIsN (.tup xs) .non M = some (.bl true, M) := rfl
@[simp] theorem is_bl' (a b : Bool) : gIs (.bl a) (.bl b) M = some (.bl (decide (a = b)), M) := rfl
@[simp] theorem isn_bl' (a b : Bool) : gIsN (.bl a) (.bl b) M = some (.bl (!decide (a = b)), M) := rfl
@[simp] theorem ix_lst' (xs : List T) (i : Int) : gIx (.lst xs) (.int i) M = pr M (atI xs i) := rfl
@[simp] theorem ix_tup' (xs : List T) (i : Int) : gIx (.tup xs) (.int i) M = pr M (atI xs i) := rfl
@[simp] theorem ix_fz' (xs : List T) (i : Int) : gIx (.fz xs) (.int i) M = pr M (atI xs i) := rfl
@[simp] theorem ix_dct' (ks : List (Str × T)) (k : Str) : gIx (.dct ks) (.str k) M = pr M (ks.lookup k) := rfl
@[simp] theorem pr_some' (t : T) : pr M (some t) = some (t, M) := rfl
@[simp] theorem pr_none' : pr M none = none := rfl
@[simp] theorem sl_lst' (m : Bool) (xs : List T) (lo hi : Option Int) : gSl m (.lst xs) lo hi M = some (mk m (.lst (cutT xs lo hi)) M) := rfl
@[simp] theorem sl_tup' (m : Bool) (xs : List T) (lo hi : Option Int) : gSl m (.tup xs) lo hi M = some (.tup (cutT xs lo hi), M) := rfl
@[simp] theorem sl_fz' (m : Bool) (xs : List T) (lo hi : Option Int) : gSl m (.fz xs) lo hi M = some (mk m (.lst (cutT xs lo hi)) M) := rfl
@[simp] theorem cut_lo (xs : List T) (n : Nat) : cutT xs (some (n : Int)) none = xs.drop n := by
  unfold cutT
  rw [HT.sIx_nat, HT.sIx_none]
  rw [List.take_of_length_le (by rw [List.length_drop]; omega)]
  by_cases h : n ≤ xs.length
  · rw [Nat.min_eq_left h]
  · rw [Nat.min_eq_right (by omega), List.drop_length, List.drop_of_length_le (by omega)]
@[simp] theorem cut_lo0 (xs : List T) : cutT xs (some 0) none = xs := cut_lo xs 0
@[simp] theorem cut_lo1 (xs : List T) : cutT xs (some 1) none = xs.drop 1 := cut_lo xs 1
@[simp] theorem cut_hi (xs : List T) (n : Nat) : cutT xs none (some (n : Int)) = xs.take n := by
  unfold cutT
  rw [HT.sIx_nat, HT.sIx_none]
  simp only [List.drop_zero, Nat.sub_zero]
  by_cases h : n ≤ xs.length
  · rw [Nat.min_eq_left h]
  · rw [Nat.min_eq_right (by omega), List.take_length, List.take_of_length_le (by omega)]
@[simp] theorem cut_hi1 (xs : List T) : cutT xs none (some 1) = xs.take 1 := cut_hi xs 1
@[simp] theorem tru_bl' (b : Bool) : gTru (.bl b) M = some b := rfl
@[simp] theorem toB_some (b : Bool) : toB (some b) M = .ok b M := rfl
@[simp] theorem toA_some (b : List T) : toA (some b) M = .ok b M := rfl
@[simp] theorem walk_lst' (xs : List T) : walkT (.lst xs) = some xs := rfl
@[simp] theorem walk_tup' (xs : List T) : walkT (.tup xs) = some xs := rfl
@[simp] theorem walk_fz' (xs : List T) : walkT (.fz xs) = some xs := rfl
@[simp] theorem walk_dct' (xs : List (Str × T)) : walkT (.dct xs) = some (keysT xs) := rfl
@[simp] theorem walk_str' (x : Str) : walkT (.str x) = some (chrT x) := rfl
@[simp] theorem enum_lst' (xs : List T) : enumW (.lst xs) = some (enumT xs) := rfl
@[simp] theorem enum_tup' (xs : List T) : enumW (.tup xs) = some (enumT xs) := rfl
@[simp] theorem enum_fz' (xs : List T) : enumW (.fz xs) = some (enumT xs) := rfl
@[simp] theorem gN' (i : Nat) (t : T) (s : Sg) : gN i t s = some (s.set i (some t)) := rfl
@[simp] theorem gTup' (gs : DGs) (ts : List T) (s : Sg) : gTup gs (.tup ts) s = gs ts s := rfl
@[simp] theorem gsCons' (g : DG) (gs : DGs) (t : T) (r : List T) (s : Sg) : gsCons g gs (t :: r) s = match g t s with
  | some s1 => gs r s1
  | none => none := rfl
@[simp] theorem gsNil' (s : Sg) : gsNil [] s = some s := rfl
@[simp] theorem wipeS_nil (s : Sg) : wipeS s [] = s := rfl
@[simp] theorem wipeS_cons (s : Sg) (v : Nat) (vs : List Nat) : wipeS s (v :: vs) = (wipeS s vs).set v none := rfl
@[simp] theorem len_lst' (xs : List T) : gLen [.lst xs] M = some (.int xs.length, M) := rfl
@[simp] theorem len_tup' (xs : List T) : gLen [.tup xs] M = some (.int xs.length, M) := rfl
@[simp] theorem len_fz' (xs : List T) : gLen [.fz xs] M = some (.int xs.length, M) := rfl
@[simp] theorem len_dct' (xs : List (Str × T)) : gLen [.dct xs] M = some (.int xs.length, M) := rfl
@[simp] theorem len_str' (x : Str) : gLen [.str x] M = if x.length ≤ LIM then some (.int x.length, M) else none := rfl
@[simp] theorem max_2' (i j : Int) : gMax [.int i, .int j] M = some (.int (if j > i then j else i), M) := rfl
@[simp] theorem min_2' (i j : Int) : gMin [.int i, .int j] M = some (.int (if j < i then j else i), M) := rfl
@[simp] theorem int_int' (i : Int) : gInt [.int i] M = some (.int i, M) := rfl
@[simp] theorem int_bl' (k : Bool) : gInt [.bl k] M = some (.int (if k then 1 else 0), M) := rfl
@[simp] theorem dget1' (ks : List (Str × T)) (k : Str) : gDget (.dct ks) [.str k] M = some ((ks.lookup k).getD .non, M) := rfl
@[simp] theorem tyM_lst' (xs : List T) : tyM M (.lst xs) = some "list" := rfl
@[simp] theorem tyM_dct' (xs : List (Str × T)) : tyM M (.dct xs) = some "dict" := rfl
@[simp] theorem tyM_str' (x : Str) : tyM M (.str x) = some "str" := rfl
@[simp] theorem in_dct' (k : Str) (ks : List (Str × T)) : gIn (.str k) (.dct ks) M = some (.bl (ks.lookup k).isSome, M) := rfl
@[simp] theorem nin_dct' (k : Str) (ks : List (Str × T)) : gNin (.str k) (.dct ks) M = some (.bl (!(ks.lookup k).isSome), M) := rfl
theorem strs_any (k : Str) : ∀ ks : List Str, anyZ (fun y => eqF true eqDepth y (.str k)) (ks.map T.str) = some (ks.any (· == k))
  | [] => rfl
  | x :: r => by
    rw [List.map_cons]
    unfold anyZ
    rw [strs_any k r]
    rfl
theorem in_strs (k : Str) (ks : List Str) : gIn (.str k) (.lst (ks.map T.str)) M = some (.bl (ks.any (· == k)), M) := by
  unfold gIn gHas hasR
  simp only [der_lst', strs_any]
  rfl
theorem nin_strs (k : Str) (ks : List Str) : gNin (.str k) (.lst (ks.map T.str)) M = some (.bl (!(ks.any (· == k))), M) := by
  unfold gNin gHas hasR
  simp only [der_lst', strs_any]
  rfl
theorem flats_strs : ∀ ks : List Str, (ks.map T.str).all flatT = true
  | [] => rfl
  | x :: r => by rw [List.map_cons, List.all_cons, flats_strs r]; rfl
theorem in_strsT (k : Str) (ks : List Str) : gIn (.str k) (.tup (ks.map T.str)) M = some (.bl (ks.any (· == k)), M) := by
  unfold gIn gHas
  simp only [flats_strs, flatT, Bool.and_self, if_true]
  have : ∀ l : List Str, ((l.map T.str).any fun y => (eqF false 1 y (T.str k)).getD false) = l.any (· == k) := by
    intro l
    induction l with
    | nil => rfl
    | cons a r ih => rw [List.map_cons, List.any_cons, List.any_cons, ih]; rfl
  rw [this]
  rfl
/-! == -/
@[simp] theorem eq_def' (t u : T) : gEq t u M = match eqF true (eqDepth + 1) (der M t) (der M u) with
  | some b => some (.bl b, M)
  | none => none := rfl
@[simp] theorem ne_def' (t u : T) : gNe t u M = match eqF true (eqDepth + 1) (der M t) (der M u) with
  | some b => if isDct (der M t) then none else some (.bl (!b), M)
  | none => none := rfl
variable {n : Nat}
@[simp] theorem eqF_str (a b : Str) : eqF true (n + 1) (.str a) (.str b) = some (a == b) := rfl
@[simp] theorem eqF_int (a b : Int) : eqF true (n + 1) (.int a) (.int b) = some (a == b) := rfl
@[simp] theorem eqF_bl (a b : Bool) : eqF true (n + 1) (.bl a) (.bl b) = some (a == b) := rfl
@[simp] theorem eqF_non : eqF true (n + 1) .non .non = some true := rfl
@[simp] theorem eqF_non_str (b : Str) : eqF true (n + 1) .non (.str b) = some false := rfl
@[simp] theorem eqF_str_non (b : Str) : eqF true (n + 1) (.str b) .non = some false := rfl
@[simp] theorem eqF_non_lst (b : List T) : eqF true (n + 1) .non (.lst b) = some false := rfl
@[simp] theorem eqF_lst_non (b : List T) : eqF true (n + 1) (.lst b) .non = some false := rfl
@[simp] theorem eqF_non_tup (b : List T) : eqF true (n + 1) .non (.tup b) = some false := rfl
@[simp] theorem eqF_tup_non (b : List T) : eqF true (n + 1) (.tup b) .non = some false := rfl
@[simp] theorem eqF_non_int (b : Int) : eqF true (n + 1) .non (.int b) = some false := rfl
@[simp] theorem eqF_int_non (b : Int) : eqF true (n + 1) (.int b) .non = some false := rfl
@[simp] theorem eqF_lst (xs ys : List T) : eqF true (n + 1) (.lst xs) (.lst ys) = if xs.length = ys.length then allZ (eqF true n) xs ys else some false := rfl
@[simp] theorem eqF_tup (xs ys : List T) : eqF true (n + 1) (.tup xs) (.tup ys) = match allZ (eqF true n) xs ys with
  | some b => some (b && xs.length == ys.length)
  | none => none := rfl
@[simp] theorem eqF_dct (ks ls : List (Str × T)) : eqF true (n + 1) (.dct ks) (.dct ls) = match eqD (eqF true n) ls ks with
  | some b => some (ks.length == ls.length && b)
  | none => none := rfl
@[simp] theorem isDct_lst (xs : List T) : isDct (.lst xs) = false := rfl
@[simp] theorem isDct_tup (xs : List T) : isDct (.tup xs) = false := rfl
@[simp] theorem isDct_str (xs : Str) : isDct (.str xs) = false := rfl
@[simp] theorem isDct_int (xs : Int) : isDct (.int xs) = false := rfl
@[simp] theorem isDct_non : isDct .non = false := rfl
@[simp] theorem isDct_bl (b : Bool) : isDct (.bl b) = false := rfl
/-- lists against the empty one -/
theorem eq_nil' (xs : List T) : eqF true (n + 1) (.lst xs) (.lst []) = some xs.isEmpty := by
  cases xs with
  | nil => rfl
  | cons x r => rw [eqF_lst, if_neg (by simp)]; rfl
@[simp] theorem LIM_big : LIM = 16777216 := rfl
end
end Z
end
section
set_option Elab.async false
set_option linter.all false
set_option maxRecDepth 100000
set_option maxHeartbeats 4000000
/-! Zze: dict comprehensions, cells, freezing, repr: what they answer. -/
namespace Z
open PySem PySem.Spec PyProof.Rows L2 PySem.SeqAt
theorem dcL_map {β : Type} {g : DG} {tt : DT} {dk de : DE} {s0 : Sg} {M : Mem} {it : β → T} {p : β → Bool} {kf : β → Str} {vf : β → T} :
    ∀ (xs : List β) (ks : List (Str × T)), (∀ x ∈ xs, ∃ s1, g (it x) s0 = some s1 ∧ tt s1 M = .ok (p x) M ∧ (p x = true → dk s1 M = .ok (.str (kf x)) M ∧ de s1 M = .ok (vf x) M)) → ks.length + xs.length ≤ LIM →
      dcL g tt dk de s0 (xs.map it) ks M = .ok ((xs.filter p).foldl (fun acc x => putT acc (kf x) (vf x)) ks) M
  | [], ks, _, _ => rfl
  | x :: r, ks, hs, hl => by
    obtain ⟨s1, e1, e2, e3⟩ := hs x (List.mem_cons_self ..)
    rw [List.length_cons] at hl
    rw [List.map_cons]
    unfold dcL
    simp only [e1, e2, noEr_ok, bind_ok]
    cases e : p x with
    | true =>
      rw [if_pos rfl, (e3 e).1]
      simp only [noEr_ok, bind_ok, (e3 e).2]
      rw [if_pos (by omega)]
      have hp : (putT ks (kf x) (vf x)).length ≤ ks.length + 1 := by
        unfold putT
        split
        · rw [List.length_map]; omega
        · rw [List.length_append]; simp
      rw [dcL_map r (putT ks (kf x) (vf x)) (fun y hy => hs y (List.mem_cons_of_mem _ hy)) (by omega), List.filter_cons_of_pos (by simpa using e)]
      rfl
    | false =>
      rw [if_neg (by simp), dcL_map r ks (fun y hy => hs y (List.mem_cons_of_mem _ hy)) (by omega), List.filter_cons_of_neg (by simpa using e)]
theorem putT_new {ks : List (Str × T)} {k : Str} {t : T} (h : k ∉ ks.map (·.1)) : putT ks k t = ks ++ [(k, t)] := by
  unfold putT
  rw [if_neg]
  intro c
  rw [List.any_eq_true] at c
  obtain ⟨p, hp, e⟩ := c
  exact h (by rw [← eq_of_beq e]; exact List.mem_map_of_mem hp)
theorem foldl_put {β : Type} {kf : β → Str} {vf : β → T} : ∀ (xs : List β) (ks : List (Str × T)), (xs.map kf).Nodup → (∀ x ∈ xs, kf x ∉ ks.map (·.1)) → xs.foldl (fun acc x => putT acc (kf x) (vf x)) ks = ks ++ xs.map fun x => (kf x, vf x)
  | [], ks, _, _ => by simp
  | x :: r, ks, nd, h => by
    rw [List.map_cons, List.nodup_cons] at nd
    rw [List.foldl_cons, putT_new (h x (List.mem_cons_self ..)), foldl_put r _ nd.2 (fun y hy c => ?_)]
    · simp
    · rw [List.map_append, List.mem_append] at c
      rcases c with c | c
      · exact h y (List.mem_cons_of_mem _ hy) c
      · have e : kf y = kf x := by simpa using c
        exact nd.1 (by rw [← e]; exact List.mem_map_of_mem hy)
theorem items_map {β : Type} {kf : β → Str} {vf : β → T} (xs : List β) : itemsT (xs.map fun x => (kf x, vf x)) = xs.map fun x => .tup [.str (kf x), vf x] := by
  unfold itemsT; rw [List.map_map]; rfl
theorem keys_map {β : Type} {kf : β → Str} {vf : β → T} (xs : List β) : keysT (xs.map fun x => (kf x, vf x)) = xs.map fun x => .str (kf x) := by
  unfold keysT; rw [List.map_map]; rfl
section
variable {M : Mem} {s : Sg} {g : OpM} {da : DA}
@[simp ↓] theorem w_m_dct (ks : List (Str × T)) : kMeth1 "dict" g da s (.dct ks) M = (da s M).bind (kMeth2 g (.dct ks)) := rfl
@[simp ↓] theorem w_m_lst (xs : List T) : kMeth1 "list" g da s (.lst xs) M = (da s M).bind (kMeth2 g (.lst xs)) := rfl
@[simp ↓] theorem w_m_str (x : Str) : kMeth1 "str" g da s (.str x) M = (da s M).bind (kMeth2 g (.str x)) := rfl
@[simp ↓] theorem w_m_c0 (xs : List T) : kMeth1 "list" g da s (.cel 0) (.live (.lst xs) :: M) = (da s (.live (.lst xs) :: M)).bind (kMeth2 g (.cel 0)) := rfl
@[simp ↓] theorem w_m_c1 (c : Cell) (xs : List T) : kMeth1 "list" g da s (.cel 1) (c :: .live (.lst xs) :: M) = (da s (c :: .live (.lst xs) :: M)).bind (kMeth2 g (.cel 1)) := rfl
@[simp ↓] theorem w_m_d0 (xs : List (Str × T)) : kMeth1 "dict" g da s (.cel 0) (.live (.dct xs) :: M) = (da s (.live (.dct xs) :: M)).bind (kMeth2 g (.cel 0)) := rfl
@[simp ↓] theorem w_m_d1 (c : Cell) (xs : List (Str × T)) : kMeth1 "dict" g da s (.cel 1) (c :: .live (.dct xs) :: M) = (da s (c :: .live (.dct xs) :: M)).bind (kMeth2 g (.cel 1)) := rfl
@[simp] theorem app_c0 (xs : List T) (y : T) : gAppend (.cel 0) [y] (.live (.lst xs) :: M) = if xs.length < LIM then some (.non, .live (.lst (xs ++ [y])) :: M) else none := rfl
@[simp] theorem app_c1 (c : Cell) (xs : List T) (y : T) : gAppend (.cel 1) [y] (c :: .live (.lst xs) :: M) = if xs.length < LIM then some (.non, c :: .live (.lst (xs ++ [y])) :: M) else none := rfl
@[simp] theorem put_c0 (ks : List (Str × T)) (k : Str) (v : T) : gPut (.cel 0) (.str k) v (.live (.dct ks) :: M) = if ks.length < LIM then some (.live (.dct (putT ks k v)) :: M) else none := rfl
@[simp] theorem put_c1 (c : Cell) (ks : List (Str × T)) (k : Str) (v : T) : gPut (.cel 1) (.str k) v (c :: .live (.dct ks) :: M) = if ks.length < LIM then some (c :: .live (.dct (putT ks k v)) :: M) else none := rfl
@[simp] theorem der_c0 (t : T) : der (.live t :: M) (.cel 0) = t := rfl
@[simp] theorem der_c1 (c : Cell) (t : T) : der (c :: .live t :: M) (.cel 1) = t := rfl
@[simp] theorem len_c0 (xs : List T) : gLen [.cel 0] (.live (.lst xs) :: M) = some (.int xs.length, .live (.lst xs) :: M) := rfl
@[simp] theorem ix_c0 (xs : List T) (i : Int) : gIx (.cel 0) (.int i) (.live (.lst xs) :: M) = pr (.live (.lst xs) :: M) (atI xs i) := rfl
end
/-! freezing what holds no cells -/
mutual
def dep : T → Nat
  | .tup xs => depL xs + 1
  | .lst xs => depL xs + 1
  | .dct ks => depF ks + 1
  | .ins _ fs => depF fs + 1
  | _ => 1
def depL : List T → Nat
  | [] => 0
  | t :: r => max (dep t) (depL r)
def depF : List (Str × T) → Nat
  | [] => 0
  | p :: r => max (dep p.2) (depF r)
end
theorem depL_map {β : Type} {f : β → T} {k : Nat} (h : ∀ x, dep (f x) ≤ k) : ∀ xs : List β, depL (xs.map f) ≤ k
  | [] => by simp [depL]
  | x :: r => by rw [List.map_cons]; simp only [depL]; exact Nat.max_le.mpr ⟨h x, depL_map h r⟩
theorem depF_map {β : Type} {kf : β → Str} {f : β → T} {k : Nat} (h : ∀ x, dep (f x) ≤ k) : ∀ xs : List β, depF (xs.map fun x => (kf x, f x)) ≤ k
  | [] => by simp [depF]
  | x :: r => by rw [List.map_cons]; simp only [depF]; exact Nat.max_le.mpr ⟨h x, depF_map h r⟩
mutual
theorem frz_nc {M : Mem} : ∀ {n : Nat} {t : T}, noCel t = true → dep t ≤ n → frz n t M = some (t, M)
  | 0, t, _, h => by cases t <;> simp [dep] at h
  | n + 1, .tup xs, c, h => by
    simp only [noCel] at c; simp only [dep] at h
    unfold frz
    simp only
    rw [frzL_nc c (by omega)]; rfl
  | n + 1, .lst xs, c, h => by
    simp only [noCel] at c; simp only [dep] at h
    unfold frz
    simp only
    rw [frzL_nc c (by omega)]; rfl
  | n + 1, .dct xs, c, h => by
    simp only [noCel] at c; simp only [dep] at h
    unfold frz
    simp only
    rw [frzF_nc c (by omega)]; rfl
  | n + 1, .ins _ xs, c, h => by
    simp only [noCel] at c; simp only [dep] at h
    unfold frz
    simp only
    rw [frzF_nc c (by omega)]; rfl
  | n + 1, .cel i, c, _ => by simp [noCel] at c
  | n + 1, .fz xs, c, _ => rfl
  | n + 1, .non, _, _ => rfl
  | n + 1, .bl _, _, _ => rfl
  | n + 1, .int _, _, _ => rfl
  | n + 1, .str _, _, _ => rfl
  | n + 1, .ty _, _, _ => rfl
  | n + 1, .ob _, _, _ => rfl
theorem frzL_nc {M : Mem} : ∀ {n : Nat} {t : List T}, noCelL t = true → depL t ≤ n → frzL (frz n) t M = some (t, M)
  | n, [], _, _ => rfl
  | n, x :: r, c, h => by
    simp only [noCelL, Bool.and_eq_true] at c
    simp only [depL] at h
    unfold frzL
    rw [frz_nc c.1 (by omega)]
    simp only
    rw [frzL_nc c.2 (by omega)]
theorem frzF_nc {M : Mem} : ∀ {n : Nat} {t : List (Str × T)}, noCelF t = true → depF t ≤ n → frzF (frz n) t M = some (t, M)
  | n, [], _, _ => rfl
  | n, x :: r, c, h => by
    simp only [noCelF, Bool.and_eq_true] at c
    simp only [depF] at h
    unfold frzF
    rw [frz_nc c.1 (by omega)]
    simp only
    rw [frzF_nc c.2 (by omega)]
end
theorem frz_lst0 {M : Mem} {xs : List T} (h : noCelL xs = true) (d : depL xs ≤ 18) : frz frzDepth (.cel 0) (.live (.lst xs) :: M) = some (.lst xs, .dead :: M) := by
  show frz 19 (.lst xs) (.dead :: M) = _
  exact frz_nc (by simp only [noCel]; exact h) (by simp only [dep]; omega)
theorem frz_dct0 {M : Mem} {xs : List (Str × T)} (h : noCelF xs = true) (d : depF xs ≤ 18) : frz frzDepth (.cel 0) (.live (.dct xs) :: M) = some (.dct xs, .dead :: M) := by
  show frz 19 (.dct xs) (.dead :: M) = _
  exact frz_nc (by simp only [noCel]; exact h) (by simp only [dep]; omega)
theorem frz_lst1 {M : Mem} {c : Cell} {xs : List T} (h : noCelL xs = true) (d : depL xs ≤ 18) : frz frzDepth (.cel 1) (c :: .live (.lst xs) :: M) = some (.lst xs, c :: .dead :: M) := by
  show frz 19 (.lst xs) (c :: .dead :: M) = _
  exact frz_nc (by simp only [noCel]; exact h) (by simp only [dep]; omega)
theorem frz_dct1 {M : Mem} {c : Cell} {xs : List (Str × T)} (h : noCelF xs = true) (d : depF xs ≤ 18) : frz frzDepth (.cel 1) (c :: .live (.dct xs) :: M) = some (.dct xs, c :: .dead :: M) := by
  show frz 19 (.dct xs) (c :: .dead :: M) = _
  exact frz_nc (by simp only [noCel]; exact h) (by simp only [dep]; omega)
theorem frz_val {M : Mem} {t : T} (h : noCel t = true) (d : dep t ≤ 20) : frz frzDepth t M = some (t, M) := frz_nc h d
/-! enumerate, ranges -/
theorem enum_map {β : Type} (f : β → T) (xs : List β) : enumT (xs.map f) = xs.zipIdx.map fun p => .tup [.int (p.2 : Int), f p.1] := by
  unfold enumT
  rw [List.zipIdx_map, List.map_map]
  rfl
theorem rng_map (lo : Int) (n : Nat) : rngT lo n = (List.range n).map fun (k : Nat) => T.int (lo + (k : Int)) := rfl
theorem rng0_map (n : Nat) : rngT 0 n = (List.range n).map fun (k : Nat) => T.int (k : Int) := by
  unfold rngT; simp
theorem inR_nat {n : Nat} (h : n < 1000000) : Z.inR (n : Int) = true := Nat.ble_eq_true_of_le (by omega)
theorem inR_of {i : Int} (h0 : 0 ≤ i) (h : i < 1000000) : Z.inR i = true := by
  obtain ⟨n, rfl⟩ := Int.eq_ofNat_of_zero_le h0
  exact inR_nat (by omega)
end Z
end
section
set_option Elab.async false
set_option linter.all false
set_option maxRecDepth 100000
set_option maxHeartbeats 4000000
/-! Zzf: a dict compared with a text or None. -/
namespace PySem
open PySem.SeqAt PySem.MeetsSeq PySem.MeetsSeq2 PySem.MeetsSeq3 PySem.SeqRoads2
open PySem.AutoSeq1 (wpAny_loadPart')
theorem dict_declines_str (l : Addr) (es : Array DictEntry) (n : Nat) (dd : Option Addr) (sl : Array (Option Value)) (b : Str) (u : Tok) :
    Meets (Builtin.«dict.__eq__» ⟨[.ref l, .str b u], []⟩) (fun _ R s => s.heap.get? l = some { cls := .type "dict", dict := dd, data := .dict es n, slots := sl } ∧ R (.ok (.ret .notImplemented)) s) :=
  .of_wp fun prog w A R s h => by obtain ⟨hp, g, d, tk, os⟩ := s; obtain ⟨hl, h⟩ := h; have f1 := F.sub_str_dict; wp_walk using wpAny_loadPart' hl, wpAny_load hl; exact ⟨_, rfl, h⟩
theorem dict_declines_none (l : Addr) (es : Array DictEntry) (n : Nat) (dd : Option Addr) (sl : Array (Option Value)) :
    Meets (Builtin.«dict.__eq__» ⟨[.ref l, .none], []⟩) (fun _ R s => s.heap.get? l = some { cls := .type "dict", dict := dd, data := .dict es n, slots := sl } ∧ R (.ok (.ret .notImplemented)) s) :=
  .of_wp fun prog w A R s h => by obtain ⟨hp, g, d, tk, os⟩ := s; obtain ⟨hl, h⟩ := h; have f1 := F.sub_NoneType_dict; wp_walk using wpAny_loadPart' hl, wpAny_load hl; exact ⟨_, rfl, h⟩
theorem str_declines_dict (b : Str) (u : Tok) (l : Addr) (c : Value) (es : Array DictEntry) (n : Nat) (dd : Option Addr) (sl : Array (Option Value)) :
    Meets (Builtin.«str.__eq__» ⟨[.str b u, .ref l], []⟩) (fun _ R s => s.heap.get? l = some { cls := c, dict := dd, data := .dict es n, slots := sl } ∧ R (.ok (.ret .notImplemented)) s) :=
  .of_wp fun prog w A R s h => by obtain ⟨hp, g, d, tk, os⟩ := s; obtain ⟨hl, h⟩ := h; wp_walk using wpAny_loadPart' hl, wpAny_load hl; exact ⟨_, rfl, h⟩
section
variable {A : Around} {s : Shared} {l : Addr} {es : Array DictEntry} {n : Nat} {dd : Option Addr} {sl : Array (Option Value)}
theorem RcAt.dict_str (ho : s.heap.get? l = some { cls := .type "dict", dict := dd, data := .dict es n, slots := sl }) (hu : A.units < cLine) (b : Str) (u : Tok) : RcAt A s (.ref l) (.str b u) false := fun prog w E Q h =>
  rc_eq_decline_or (k := false) ⟨_, ho, rfl⟩ rfl (by decide) F.sub_str_dict F.slot_dict_eq F.slot_str_eq_refl
    (fun _ hq => call_meets F.slot_dict_eq ⟨_, ho, rfl⟩ F.entry_dict_eq (F.args_dict_eq_2 _ _) (dict_declines_str l es n dd sl b u) ⟨ho, hq⟩)
    (fun _ hq => call_meets F.slot_str_eq_refl rfl F.entry_str_eq (F.args_str_eq_2 _ _) (str_declines_dict b u l _ es n dd sl) ⟨ho, hq⟩)
    (fun _ hq => wpAny_of_eq (rfl : isSame (.ref l) (.str b u) = pure false) hq) (.inr hu) h
theorem RcAt.str_dict (ho : s.heap.get? l = some { cls := .type "dict", dict := dd, data := .dict es n, slots := sl }) (hu : A.units < cLine) (b : Str) (u : Tok) : RcAt A s (.str b u) (.ref l) false := fun prog w E Q h =>
  rc_eq_decline_or (k := false) rfl ⟨_, ho, rfl⟩ (by decide) F.sub_dict_str F.slot_str_eq F.slot_dict_eq_refl
    (fun _ hq => call_meets F.slot_str_eq rfl F.entry_str_eq (F.args_str_eq_2 _ _) (str_declines_dict b u l _ es n dd sl) ⟨ho, hq⟩)
    (fun _ hq => call_meets F.slot_dict_eq_refl ⟨_, ho, rfl⟩ F.entry_dict_eq (F.args_dict_eq_2 _ _) (dict_declines_str l es n dd sl b u) ⟨ho, hq⟩)
    (fun _ hq => wpAny_of_eq (rfl : isSame (.str b u) (.ref l) = pure false) hq) (.inr hu) h
theorem RcAt.dict_none (ho : s.heap.get? l = some { cls := .type "dict", dict := dd, data := .dict es n, slots := sl }) (hu : A.units < cLine) : RcAt A s (.ref l) .none false := fun prog w E Q h =>
  rc_eq_decline_or (k := false) ⟨_, ho, rfl⟩ rfl (by decide) F.sub_NoneType_dict F.slot_dict_eq F.slot_NoneType_eq_refl
    (fun _ hq => call_meets F.slot_dict_eq ⟨_, ho, rfl⟩ F.entry_dict_eq (F.args_dict_eq_2 _ _) (dict_declines_none l es n dd sl) ⟨ho, hq⟩)
    (fun _ hq => call_gives F.slot_NoneType_eq_refl rfl F.entry_NoneType_eq (F.args_NoneType_eq_2 _ _) (NoneType___eq___none_ref_0 l) hq)
    (fun _ hq => wpAny_of_eq (rfl : isSame (.ref l) .none = pure false) hq) (.inr hu) h
end
end PySem
namespace Z
open PySem PySem.Spec PyProof.Rows L2 PySem.SeqAt
/-- a dict, a text: never equal -/
def gDS : Op2 := fun t u M => match der M t with
  | .dct _ => (match u with
    | .str _ => some (.bl false, M)
    | .non => some (.bl false, M)
    | _ => none)
  | _ => none
def gEqX : Op2 := fun t u M => match gDS t u M with
  | some r => some r
  | none => gEq t u M
section
variable {X : Cx} {C : Cfg}
theorem z_ds (hu : X.A.units + 64 < cLine) : OpR X (compareOp .Eq) (rZ C gDS) := by
  intro pins s σ H x y v u Q I rx ry ⟨mu, M, t, t2, t', M', R, rt, ru, e, q⟩
  unfold gDS at e
  split at e
  · rename_i ks ed
    obtain ⟨a, ws, rfl, hd, _⟩ := der_dct R rt ed
    obtain rfl : v = Value.ref a := rx
    obtain ⟨o, es, ep, ho, hc, hdd⟩ : ∃ o es ep, s.heap.get? a = some o ∧ o.cls = .type "dict" ∧ o.data = .dict es ep := by
      have hk : ObjOk X.prog X.w H s.heap a (.dK ws) := by
        rcases hd with hd | ⟨od, hd⟩
        · exact I.hok a _ hd
        · exact (I.hok a _ hd).2
      obtain ⟨_, _, vs, _, dd⟩ := hk
      obtain ⟨o, es, ep, h1, h2, h3, _⟩ := dd
      exact ⟨o, es, ep, h1, h2.1, h3⟩
    obtain ⟨cls, dd, data, sl⟩ := o
    simp only at hc hdd
    subst hc hdd
    split at e
    · cases e
      have ey := ru.strI
      subst ey
      obtain ⟨tk, rfl⟩ := ry
      exact RcAt.dict_str ho (by omega) _ _ X.prog X.w _ _ ⟨.bl false, H, I, rfl, q mu (.bl false) H R Ext.refl (.bl false)⟩
    · cases e
      have ey := ru.nonI
      subst ey
      obtain rfl : u = Value.none := ry
      exact RcAt.dict_none ho (by omega) X.prog X.w _ _ ⟨.bl false, H, I, rfl, q mu (.bl false) H R Ext.refl (.bl false)⟩
    · cases e
  · cases e
theorem z_eqX (hK : C.K = X.K) (hu : X.A.units + 64 < cLine) : OpR X (compareOp .Eq) (rZ C gEqX) := opR_weak ((z_ds (C := C) hu).or (z_eq hK hu)) fun x y H Q ⟨mu, M, t, u, t', M', R, rt, ru, e, q⟩ => by
  unfold gEqX at e
  split at e
  · rename_i r er
    cases e
    exact .inl ⟨mu, M, t, u, t', M', R, rt, ru, er, q⟩
  · exact .inr ⟨mu, M, t, u, t', M', R, rt, ru, e, q⟩
theorem b_eqX : gB gEqX := fun t u M t' M' e => by
  unfold gEqX at e
  split at e
  · rename_i r er
    cases e
    unfold gDS at er
    split at er
    · split at er <;> cases er <;> exact ⟨⟨_, rfl⟩, rfl⟩
    · cases er
  · exact b_eq t u M t' M' e
end
section
variable {M : Mem}
@[simp] theorem eqX_dct_str (ks : List (Str × T)) (x : Str) : gEqX (.dct ks) (.str x) M = some (.bl false, M) := rfl
@[simp] theorem eqX_str (a : T) (b x : Str) : gEqX (.str b) (.str x) M = gEq (.str b) (.str x) M := rfl
@[simp] theorem eqX_int (i : Int) (u : T) : gEqX (.int i) u M = gEq (.int i) u M := rfl
@[simp] theorem eqX_lst (xs : List T) (u : T) : gEqX (.lst xs) u M = gEq (.lst xs) u M := rfl
@[simp] theorem eqX_tup (xs : List T) (u : T) : gEqX (.tup xs) u M = gEq (.tup xs) u M := rfl
@[simp] theorem eqX_non (u : T) : gEqX .non u M = gEq .non u M := rfl
@[simp] theorem eqX_bl (b : Bool) (u : T) : gEqX (.bl b) u M = gEq (.bl b) u M := rfl
end
end Z
end
section
set_option Elab.async false
set_option linter.all false
set_option maxRecDepth 100000
set_option maxHeartbeats 4000000
/-! Zzg: repr of data: what it takes, how long it is at most. -/
namespace Z
open PySem PySem.Spec PyProof.Rows L2 PySem.SeqAt
mutual
def wt : T → Nat
  | .non => 4
  | .bl _ => 5
  | .int i => ((toString i : String) : Str).length
  | .str x => (reprText x).length
  | .tup xs => wtL xs + 3
  | .lst xs => wtL xs + 2
  | .dct ks => wtK ks + 2
  | _ => 0
def wtL : List T → Nat
  | [] => 0
  | t :: r => wt t + 2 + wtL r
def wtK : List (Str × T) → Nat
  | [] => 0
  | p :: r => (reprText p.1).length + 2 + wt p.2 + 2 + wtK r
end
mutual
def pl : T → Bool
  | .non | .bl _ | .str _ => true
  | .int i => decide (i.natAbs.log2 < 1920)
  | .tup xs => plL xs
  | .lst xs => plL xs
  | .dct ks => plK ks
  | _ => false
def plL : List T → Bool
  | [] => true
  | t :: r => pl t && plL r
def plK : List (Str × T) → Bool
  | [] => true
  | p :: r => pl p.2 && plK r
end
theorem sum_len (ts : List Str) : (ts.map (·.length)).sum + ts.length * 2 = (ts.map fun t => t.length + 2).sum := by
  induction ts with
  | nil => rfl
  | cons t r ih => simp only [List.map_cons, List.sum_cons, List.length_cons]; omega
theorem join_le (ts : List Str) : (Str.join ", " ts).length ≤ (ts.map fun t => t.length + 2).sum := by
  have h := StrLaws.join_length_le ", " ts
  have e : (", " : Str).length = 2 := by decide +kernel
  rw [e] at h
  rw [← sum_len]; exact h
theorem textFrom_le : ∀ (ts : List Str) (k : Nat) (acc : Str), (textFrom k acc ts).length ≤ acc.length + (ts.map fun t => t.length + 2).sum
  | [], k, acc => by show acc.length ≤ _; omega
  | t :: r, k, acc => by
    have ih := textFrom_le r (k + 1) (acc ++ (if k > 0 then ", " else "" : String) ++ t)
    have e : (acc ++ (if k > 0 then ", " else "" : String) ++ t).length ≤ acc.length + 2 + t.length := by
      rw [strLen_append, strLen_append]
      have : ((if k > 0 then ", " else "" : String) : Str).length ≤ 2 := by
        split
        · exact Nat.le_of_eq (by decide +kernel)
        · exact Nat.le_of_lt (by decide +kernel)
      omega
    show (textFrom (k + 1) (acc ++ (if k > 0 then ", " else "" : String) ++ t) r).length ≤ _
    simp only [List.map_cons, List.sum_cons]
    omega
theorem listText_le (ts : List Str) : (listText ts).length ≤ (ts.map fun t => t.length + 2).sum + 2 := by
  unfold listText
  rw [strLen_append]
  have h := textFrom_le ts 0 "["
  have e1 : ("[" : Str).length = 1 := by decide +kernel
  have e2 : ("]" : Str).length = 1 := by decide +kernel
  omega
theorem tupleText_le (ts : List Str) : (tupleText ts).length ≤ (ts.map fun t => t.length + 2).sum + 3 := by
  unfold tupleText
  rw [strLen_append, strLen_append]
  have h := join_le ts
  have e1 : ("(" : Str).length = 1 := by decide +kernel
  have e2 : ((if ts.length == 1 then ",)" else ")" : String) : Str).length ≤ 2 := by
    split
    · exact Nat.le_of_eq (by decide +kernel)
    · exact Nat.le_of_lt (by decide +kernel)
  omega
theorem dictText_le (ts : List Str) : (dictText ts).length ≤ (ts.map fun t => t.length + 2).sum + 2 := by
  unfold dictText
  rw [strLen_append, strLen_append]
  have h := join_le ts
  have e1 : ("{" : Str).length = 1 := by decide +kernel
  have e2 : ("}" : Str).length = 1 := by decide +kernel
  omega
mutual
theorem data_of : ∀ {t : T}, pl t = true → ∃ d, toD t = some d ∧ d.showable = true ∧ d.depth ≤ dep t ∧ d.shown.length ≤ wt t
  | .non, _ => ⟨.none, rfl, rfl, by simp [PyData.depth, dep], by simp only [PyData.shown, wt]; exact Nat.le_of_eq (by decide +kernel)⟩
  | .bl b, _ => ⟨.bool b, rfl, rfl, by simp [PyData.depth, dep], by
      simp only [PyData.shown, wt]
      cases b
      · exact Nat.le_of_eq (by decide +kernel)
      · exact Nat.le_of_lt (by decide +kernel)⟩
  | .int i, h => ⟨.int i, rfl, by simpa only [PyData.showable, pl] using h, by simp [PyData.depth, dep], by simp only [PyData.shown, wt]; exact Nat.le_refl _⟩
  | .str x, _ => ⟨.str x, rfl, rfl, by simp [PyData.depth, dep], by simp only [PyData.shown, wt]; exact Nat.le_refl _⟩
  | .tup xs, h => by
    simp only [pl] at h
    obtain ⟨ds, e1, e2, e3, e4⟩ := data_ofL h
    refine ⟨.tuple ds, by simp [toD, e1], by simp only [PyData.showable]; exact e2, by simp only [PyData.depth, dep]; omega, ?_⟩
    simp only [PyData.shown, wt]
    have := tupleText_le (PyData.shownAll ds)
    omega
  | .lst xs, h => by
    simp only [pl] at h
    obtain ⟨ds, e1, e2, e3, e4⟩ := data_ofL h
    refine ⟨.list ds, by simp [toD, e1], by simp only [PyData.showable]; exact e2, by simp only [PyData.depth, dep]; omega, ?_⟩
    simp only [PyData.shown, wt]
    have := listText_le (PyData.shownAll ds)
    omega
  | .dct ks, h => by
    simp only [pl] at h
    obtain ⟨ds, e1, e2, e3, e4⟩ := data_ofK h
    refine ⟨.dict ds, by simp [toD, e1], by simp only [PyData.showable]; exact e2, by simp only [PyData.depth, dep]; omega, ?_⟩
    simp only [PyData.shown, wt]
    have := dictText_le (PyData.shownKv ds)
    omega
  | .fz xs, h => by simp [pl] at h
  | .ty n, h => by simp [pl] at h
  | .ob n, h => by simp [pl] at h
  | .ins c fs, h => by simp [pl] at h
  | .cel i, h => by simp [pl] at h
theorem data_ofL : ∀ {ts : List T}, plL ts = true → ∃ ds, toDL ts = some ds ∧ PyData.showableAll ds = true ∧ PyData.depthAll ds ≤ depL ts ∧ ((PyData.shownAll ds).map fun t => t.length + 2).sum ≤ wtL ts
  | [], _ => ⟨[], rfl, rfl, by simp [PyData.depthAll, depL], by simp [PyData.shownAll, wtL]⟩
  | t :: r, h => by
    simp only [plL, Bool.and_eq_true] at h
    obtain ⟨d, a1, a2, a3, a4⟩ := data_of h.1
    obtain ⟨ds, b1, b2, b3, b4⟩ := data_ofL h.2
    refine ⟨d :: ds, by simp [toDL, a1, b1], by simp [PyData.showableAll, a2, b2], ?_, ?_⟩
    · simp only [PyData.depthAll, depL]; omega
    · simp only [PyData.shownAll, wtL, List.map_cons, List.sum_cons]; omega
theorem data_ofK : ∀ {ts : List (Str × T)}, plK ts = true → ∃ ds, toDK ts = some ds ∧ PyData.showableKv ds = true ∧ PyData.depthKv ds ≤ depF ts ∧ ((PyData.shownKv ds).map fun t => t.length + 2).sum ≤ wtK ts
  | [], _ => ⟨[], rfl, rfl, by simp [PyData.depthKv], by simp [PyData.shownKv, wtK]⟩
  | p :: r, h => by
    simp only [plK, Bool.and_eq_true] at h
    obtain ⟨d, a1, a2, a3, a4⟩ := data_of h.1
    obtain ⟨ds, b1, b2, b3, b4⟩ := data_ofK h.2
    refine ⟨(.str p.1, d) :: ds, by simp [toDK, a1, b1], by simp [PyData.showableKv, PyData.showable, a2, b2], ?_, ?_⟩
    · simp only [PyData.depthKv, PyData.depth, depF]; omega
    · simp only [PyData.shownKv, wtK, List.map_cons, List.sum_cons, strLen_append]
      have e1 : (": " : Str).length = 2 := by decide +kernel
      have e2 : (PyData.shown (.str p.1)).length = (reprText p.1).length := by simp only [PyData.shown]
      omega
end
/-- what repr shows -/
def rp (t : T) : Str := match toD t with
  | some d => d.shown
  | none => ⟨#[]⟩
theorem repr_of {t : T} (h : pl t = true) (hd : dep t ≤ 40) (hw : wt t ≤ 16777216) (M : Mem) : gRepr [t] M = some (.str (rp t), M) := by
  obtain ⟨d, e1, e2, e3, e4⟩ := data_of h
  have e0 : dataT M t = some d := by
    unfold dataT
    split
    · simp [pl] at h
    · exact e1
  unfold gRepr rp
  simp only [e0, e1]
  rw [if_pos ⟨e2, by omega, by rw [LIM_big]; omega⟩]
theorem repr_cel {i : Nat} {xs : List T} {M : Mem} (hi : M[i]? = some (.live (.lst xs))) (h : pl (.lst xs) = true) (hd : dep (.lst xs) ≤ 40) (hw : wt (.lst xs) ≤ 16777216) : gRepr [.cel i] M = some (.str (rp (.lst xs)), M) := by
  obtain ⟨d, e1, e2, e3, e4⟩ := data_of h
  have e0 : dataT M (.cel i) = some d := by
    unfold dataT
    simp only [hi]
    exact e1
  unfold gRepr rp
  simp only [e0, e1]
  rw [if_pos ⟨e2, by omega, by rw [LIM_big]; omega⟩]
theorem wtL_map {β : Type} {f : β → T} {k : Nat} (h : ∀ x, wt (f x) ≤ k) : ∀ xs : List β, wtL (xs.map f) ≤ xs.length * (k + 2)
  | [] => by simp [wtL]
  | x :: r => by
    have h1 := h x
    have h2 := wtL_map h r
    rw [List.map_cons, List.length_cons, Nat.succ_mul]
    simp only [wtL]
    omega
theorem wtL_mapM {β : Type} {f : β → T} {k : Nat} : ∀ xs : List β, (∀ x ∈ xs, wt (f x) ≤ k) → wtL (xs.map f) ≤ xs.length * (k + 2)
  | [], _ => by simp [wtL]
  | x :: r, h => by
    have h1 := h x (List.mem_cons_self ..)
    have h2 := wtL_mapM r fun y hy => h y (List.mem_cons_of_mem _ hy)
    rw [List.map_cons, List.length_cons, Nat.succ_mul]
    simp only [wtL]
    omega
theorem plL_map {β : Type} {f : β → T} (h : ∀ x, pl (f x) = true) : ∀ xs : List β, plL (xs.map f) = true
  | [] => by simp [plL]
  | x :: r => by rw [List.map_cons]; simp only [plL, Bool.and_eq_true]; exact ⟨h x, plL_map h r⟩
theorem plL_mapM {β : Type} {f : β → T} : ∀ xs : List β, (∀ x ∈ xs, pl (f x) = true) → plL (xs.map f) = true
  | [], _ => by simp [plL]
  | x :: r, h => by rw [List.map_cons]; simp only [plL, Bool.and_eq_true]; exact ⟨h x (List.mem_cons_self ..), plL_mapM r fun y hy => h y (List.mem_cons_of_mem _ hy)⟩
end Z
end
section
set_option Elab.async false
set_option linter.all false
set_option maxRecDepth 100000
set_option maxHeartbeats 4000000
/-! texts that differ -/
namespace Z
open PySem PySem.Spec PyProof.Rows L2 PySem.SeqAt
@[simp] theorem vb1 : (("open" : Str) == "close") = false := by decide +kernel
@[simp] theorem ve1 : ((("open" : Str) = "close")) = False := eq_false (by decide +kernel)
@[simp] theorem vb2 : (("open" : Str) == "bind") = false := by decide +kernel
@[simp] theorem ve2 : ((("open" : Str) = "bind")) = False := eq_false (by decide +kernel)
@[simp] theorem vb3 : (("open" : Str) == "drop") = false := by decide +kernel
@[simp] theorem ve3 : ((("open" : Str) = "drop")) = False := eq_false (by decide +kernel)
@[simp] theorem vb4 : (("open" : Str) == "expect") = false := by decide +kernel
@[simp] theorem ve4 : ((("open" : Str) = "expect")) = False := eq_false (by decide +kernel)
@[simp] theorem vb5 : (("open" : Str) == "free") = false := by decide +kernel
@[simp] theorem ve5 : ((("open" : Str) = "free")) = False := eq_false (by decide +kernel)
@[simp] theorem vb6 : (("open" : Str) == "owned") = false := by decide +kernel
@[simp] theorem ve6 : ((("open" : Str) = "owned")) = False := eq_false (by decide +kernel)
@[simp] theorem vb7 : (("open" : Str) == "unowned") = false := by decide +kernel
@[simp] theorem ve7 : ((("open" : Str) = "unowned")) = False := eq_false (by decide +kernel)
@[simp] theorem vb8 : (("open" : Str) == "failed") = false := by decide +kernel
@[simp] theorem ve8 : ((("open" : Str) = "failed")) = False := eq_false (by decide +kernel)
@[simp] theorem vb9 : (("close" : Str) == "open") = false := by decide +kernel
@[simp] theorem ve9 : ((("close" : Str) = "open")) = False := eq_false (by decide +kernel)
@[simp] theorem vb10 : (("close" : Str) == "bind") = false := by decide +kernel
@[simp] theorem ve10 : ((("close" : Str) = "bind")) = False := eq_false (by decide +kernel)
@[simp] theorem vb11 : (("close" : Str) == "drop") = false := by decide +kernel
@[simp] theorem ve11 : ((("close" : Str) = "drop")) = False := eq_false (by decide +kernel)
@[simp] theorem vb12 : (("close" : Str) == "expect") = false := by decide +kernel
@[simp] theorem ve12 : ((("close" : Str) = "expect")) = False := eq_false (by decide +kernel)
@[simp] theorem vb13 : (("close" : Str) == "free") = false := by decide +kernel
@[simp] theorem ve13 : ((("close" : Str) = "free")) = False := eq_false (by decide +kernel)
@[simp] theorem vb14 : (("close" : Str) == "owned") = false := by decide +kernel
@[simp] theorem ve14 : ((("close" : Str) = "owned")) = False := eq_false (by decide +kernel)
@[simp] theorem vb15 : (("close" : Str) == "unowned") = false := by decide +kernel
@[simp] theorem ve15 : ((("close" : Str) = "unowned")) = False := eq_false (by decide +kernel)
@[simp] theorem vb16 : (("close" : Str) == "failed") = false := by decide +kernel
@[simp] theorem ve16 : ((("close" : Str) = "failed")) = False := eq_false (by decide +kernel)
@[simp] theorem vb17 : (("bind" : Str) == "open") = false := by decide +kernel
@[simp] theorem ve17 : ((("bind" : Str) = "open")) = False := eq_false (by decide +kernel)
@[simp] theorem vb18 : (("bind" : Str) == "close") = false := by decide +kernel
@[simp] theorem ve18 : ((("bind" : Str) = "close")) = False := eq_false (by decide +kernel)
@[simp] theorem vb19 : (("bind" : Str) == "drop") = false := by decide +kernel
@[simp] theorem ve19 : ((("bind" : Str) = "drop")) = False := eq_false (by decide +kernel)
@[simp] theorem vb20 : (("bind" : Str) == "expect") = false := by decide +kernel
@[simp] theorem ve20 : ((("bind" : Str) = "expect")) = False := eq_false (by decide +kernel)
@[simp] theorem vb21 : (("bind" : Str) == "free") = false := by decide +kernel
@[simp] theorem ve21 : ((("bind" : Str) = "free")) = False := eq_false (by decide +kernel)
@[simp] theorem vb22 : (("bind" : Str) == "owned") = false := by decide +kernel
@[simp] theorem ve22 : ((("bind" : Str) = "owned")) = False := eq_false (by decide +kernel)
@[simp] theorem vb23 : (("bind" : Str) == "unowned") = false := by decide +kernel
@[simp] theorem ve23 : ((("bind" : Str) = "unowned")) = False := eq_false (by decide +kernel)
@[simp] theorem vb24 : (("bind" : Str) == "failed") = false := by decide +kernel
@[simp] theorem ve24 : ((("bind" : Str) = "failed")) = False := eq_false (by decide +kernel)
@[simp] theorem vb25 : (("drop" : Str) == "open") = false := by decide +kernel
@[simp] theorem ve25 : ((("drop" : Str) = "open")) = False := eq_false (by decide +kernel)
@[simp] theorem vb26 : (("drop" : Str) == "close") = false := by decide +kernel
@[simp] theorem ve26 : ((("drop" : Str) = "close")) = False := eq_false (by decide +kernel)
@[simp] theorem vb27 : (("drop" : Str) == "bind") = false := by decide +kernel
@[simp] theorem ve27 : ((("drop" : Str) = "bind")) = False := eq_false (by decide +kernel)
@[simp] theorem vb28 : (("drop" : Str) == "expect") = false := by decide +kernel
@[simp] theorem ve28 : ((("drop" : Str) = "expect")) = False := eq_false (by decide +kernel)
@[simp] theorem vb29 : (("drop" : Str) == "free") = false := by decide +kernel
@[simp] theorem ve29 : ((("drop" : Str) = "free")) = False := eq_false (by decide +kernel)
@[simp] theorem vb30 : (("drop" : Str) == "owned") = false := by decide +kernel
@[simp] theorem ve30 : ((("drop" : Str) = "owned")) = False := eq_false (by decide +kernel)
@[simp] theorem vb31 : (("drop" : Str) == "unowned") = false := by decide +kernel
@[simp] theorem ve31 : ((("drop" : Str) = "unowned")) = False := eq_false (by decide +kernel)
@[simp] theorem vb32 : (("drop" : Str) == "failed") = false := by decide +kernel
@[simp] theorem ve32 : ((("drop" : Str) = "failed")) = False := eq_false (by decide +kernel)
@[simp] theorem vb33 : (("expect" : Str) == "open") = false := by decide +kernel
@[simp] theorem ve33 : ((("expect" : Str) = "open")) = False := eq_false (by decide +kernel)
@[simp] theorem vb34 : (("expect" : Str) == "close") = false := by decide +kernel
@[simp] theorem ve34 : ((("expect" : Str) = "close")) = False := eq_false (by decide +kernel)
@[simp] theorem vb35 : (("expect" : Str) == "bind") = false := by decide +kernel
@[simp] theorem ve35 : ((("expect" : Str) = "bind")) = False := eq_false (by decide +kernel)
@[simp] theorem vb36 : (("expect" : Str) == "drop") = false := by decide +kernel
@[simp] theorem ve36 : ((("expect" : Str) = "drop")) = False := eq_false (by decide +kernel)
@[simp] theorem vb37 : (("expect" : Str) == "free") = false := by decide +kernel
@[simp] theorem ve37 : ((("expect" : Str) = "free")) = False := eq_false (by decide +kernel)
@[simp] theorem vb38 : (("expect" : Str) == "owned") = false := by decide +kernel
@[simp] theorem ve38 : ((("expect" : Str) = "owned")) = False := eq_false (by decide +kernel)
@[simp] theorem vb39 : (("expect" : Str) == "unowned") = false := by decide +kernel
@[simp] theorem ve39 : ((("expect" : Str) = "unowned")) = False := eq_false (by decide +kernel)
@[simp] theorem vb40 : (("expect" : Str) == "failed") = false := by decide +kernel
@[simp] theorem ve40 : ((("expect" : Str) = "failed")) = False := eq_false (by decide +kernel)
@[simp] theorem vb41 : (("free" : Str) == "open") = false := by decide +kernel
@[simp] theorem ve41 : ((("free" : Str) = "open")) = False := eq_false (by decide +kernel)
@[simp] theorem vb42 : (("free" : Str) == "close") = false := by decide +kernel
@[simp] theorem ve42 : ((("free" : Str) = "close")) = False := eq_false (by decide +kernel)
@[simp] theorem vb43 : (("free" : Str) == "bind") = false := by decide +kernel
@[simp] theorem ve43 : ((("free" : Str) = "bind")) = False := eq_false (by decide +kernel)
@[simp] theorem vb44 : (("free" : Str) == "drop") = false := by decide +kernel
@[simp] theorem ve44 : ((("free" : Str) = "drop")) = False := eq_false (by decide +kernel)
@[simp] theorem vb45 : (("free" : Str) == "expect") = false := by decide +kernel
@[simp] theorem ve45 : ((("free" : Str) = "expect")) = False := eq_false (by decide +kernel)
@[simp] theorem vb46 : (("free" : Str) == "owned") = false := by decide +kernel
@[simp] theorem ve46 : ((("free" : Str) = "owned")) = False := eq_false (by decide +kernel)
@[simp] theorem vb47 : (("free" : Str) == "unowned") = false := by decide +kernel
@[simp] theorem ve47 : ((("free" : Str) = "unowned")) = False := eq_false (by decide +kernel)
@[simp] theorem vb48 : (("free" : Str) == "failed") = false := by decide +kernel
@[simp] theorem ve48 : ((("free" : Str) = "failed")) = False := eq_false (by decide +kernel)
@[simp] theorem vb49 : (("owned" : Str) == "open") = false := by decide +kernel
@[simp] theorem ve49 : ((("owned" : Str) = "open")) = False := eq_false (by decide +kernel)
@[simp] theorem vb50 : (("owned" : Str) == "close") = false := by decide +kernel
@[simp] theorem ve50 : ((("owned" : Str) = "close")) = False := eq_false (by decide +kernel)
@[simp] theorem vb51 : (("owned" : Str) == "bind") = false := by decide +kernel
@[simp] theorem ve51 : ((("owned" : Str) = "bind")) = False := eq_false (by decide +kernel)
@[simp] theorem vb52 : (("owned" : Str) == "drop") = false := by decide +kernel
@[simp] theorem ve52 : ((("owned" : Str) = "drop")) = False := eq_false (by decide +kernel)
@[simp] theorem vb53 : (("owned" : Str) == "expect") = false := by decide +kernel
@[simp] theorem ve53 : ((("owned" : Str) = "expect")) = False := eq_false (by decide +kernel)
@[simp] theorem vb54 : (("owned" : Str) == "free") = false := by decide +kernel
@[simp] theorem ve54 : ((("owned" : Str) = "free")) = False := eq_false (by decide +kernel)
@[simp] theorem vb55 : (("owned" : Str) == "unowned") = false := by decide +kernel
@[simp] theorem ve55 : ((("owned" : Str) = "unowned")) = False := eq_false (by decide +kernel)
@[simp] theorem vb56 : (("owned" : Str) == "failed") = false := by decide +kernel
@[simp] theorem ve56 : ((("owned" : Str) = "failed")) = False := eq_false (by decide +kernel)
@[simp] theorem vb57 : (("unowned" : Str) == "open") = false := by decide +kernel
@[simp] theorem ve57 : ((("unowned" : Str) = "open")) = False := eq_false (by decide +kernel)
@[simp] theorem vb58 : (("unowned" : Str) == "close") = false := by decide +kernel
@[simp] theorem ve58 : ((("unowned" : Str) = "close")) = False := eq_false (by decide +kernel)
@[simp] theorem vb59 : (("unowned" : Str) == "bind") = false := by decide +kernel
@[simp] theorem ve59 : ((("unowned" : Str) = "bind")) = False := eq_false (by decide +kernel)
@[simp] theorem vb60 : (("unowned" : Str) == "drop") = false := by decide +kernel
@[simp] theorem ve60 : ((("unowned" : Str) = "drop")) = False := eq_false (by decide +kernel)
@[simp] theorem vb61 : (("unowned" : Str) == "expect") = false := by decide +kernel
@[simp] theorem ve61 : ((("unowned" : Str) = "expect")) = False := eq_false (by decide +kernel)
@[simp] theorem vb62 : (("unowned" : Str) == "free") = false := by decide +kernel
@[simp] theorem ve62 : ((("unowned" : Str) = "free")) = False := eq_false (by decide +kernel)
@[simp] theorem vb63 : (("unowned" : Str) == "owned") = false := by decide +kernel
@[simp] theorem ve63 : ((("unowned" : Str) = "owned")) = False := eq_false (by decide +kernel)
@[simp] theorem vb64 : (("unowned" : Str) == "failed") = false := by decide +kernel
@[simp] theorem ve64 : ((("unowned" : Str) = "failed")) = False := eq_false (by decide +kernel)
@[simp] theorem vb65 : (("failed" : Str) == "open") = false := by decide +kernel
@[simp] theorem ve65 : ((("failed" : Str) = "open")) = False := eq_false (by decide +kernel)
@[simp] theorem vb66 : (("failed" : Str) == "close") = false := by decide +kernel
@[simp] theorem ve66 : ((("failed" : Str) = "close")) = False := eq_false (by decide +kernel)
@[simp] theorem vb67 : (("failed" : Str) == "bind") = false := by decide +kernel
@[simp] theorem ve67 : ((("failed" : Str) = "bind")) = False := eq_false (by decide +kernel)
@[simp] theorem vb68 : (("failed" : Str) == "drop") = false := by decide +kernel
@[simp] theorem ve68 : ((("failed" : Str) = "drop")) = False := eq_false (by decide +kernel)
@[simp] theorem vb69 : (("failed" : Str) == "expect") = false := by decide +kernel
@[simp] theorem ve69 : ((("failed" : Str) = "expect")) = False := eq_false (by decide +kernel)
@[simp] theorem vb70 : (("failed" : Str) == "free") = false := by decide +kernel
@[simp] theorem ve70 : ((("failed" : Str) = "free")) = False := eq_false (by decide +kernel)
@[simp] theorem vb71 : (("failed" : Str) == "owned") = false := by decide +kernel
@[simp] theorem ve71 : ((("failed" : Str) = "owned")) = False := eq_false (by decide +kernel)
@[simp] theorem vb72 : (("failed" : Str) == "unowned") = false := by decide +kernel
@[simp] theorem ve72 : ((("failed" : Str) = "unowned")) = False := eq_false (by decide +kernel)
section
variable {M : Mem}
@[simp] theorem in_t2 (k a b : Str) : gIn (.str k) (.tup [.str a, .str b]) M = some (.bl (a == k || b == k), M) := by
  have h := in_strsT (M := M) k [a, b]
  simpa using h
@[simp] theorem in_l2 (k a b : Str) : gIn (.str k) (.lst [.str a, .str b]) M = some (.bl (a == k || b == k), M) := by
  have h := in_strs (M := M) k [a, b]
  simpa using h
@[simp] theorem in_l3 (k a b c : Str) : gIn (.str k) (.lst [.str a, .str b, .str c]) M = some (.bl (a == k || (b == k || c == k)), M) := by
  have h := in_strs (M := M) k [a, b, c]
  simpa using h
end

end Z
end
section
set_option Elab.async false
set_option linter.all false
set_option maxRecDepth 100000
set_option maxHeartbeats 4000000
/-! what the defs do -/
namespace G
open PySem PySem.Spec PyProof.Rows L2 Z PySem.SeqAt
def T_SHAPES : List (Str × Str) := [("open", ""), ("close", ""), ("bind", "nv"), ("drop", "n"), ("expect", "nv"), ("free", "n"), ("owned", "nv"), ("unowned", "n")]
def E_law_numbers : DS := dSeq (dAsg 3 (dCall gMax (dCons (dVar 0) (dCons (dBin gSub (dUn gNeg (dC (.int 1))) (dVar 0)) (dNil))))) (dSeq (dAsg 4 (dVar 3)) (dSeq (dAsg 5 (dLst true (dNil))) (dSeq (dForW (dRange1 (dCons (dCall gLen (dCons (dVar 2) (dNil))) (dNil))) (gN 6) (dIf (dAndT (dTst (dBin gGe (dVar 3) (dBin gPow (dC (.int 10)) (dC (.int 18))))) (dTst (dBin gGt (dVar 4) (dC (.int 0))))) (dSeq (dDrop (dMeth "list" gAppend (dVar 5) (dCons (dBin gMod (dVar 4) (dBin gIx (dVar 2) (dVar 6))) (dNil)))) (dAsg 4 (dBin gFdiv (dVar 4) (dBin gIx (dVar 2) (dVar 6))))) (dSeq (dAsg 7 (dBin gMod (dBin gPow (dBin (gAdd false) (dBin (gAdd false) (dBin gMod (dVar 3) (dC (.int 2147483629))) (dBin (gMul false) (dC (.int 7919)) (dVar 1))) (dC (.int 1))) (dC (.int 3))) (dC (.int 2147483647)))) (dSeq (dAsg 7 (dBin gMod (dBin (gMul false) (dBin (gAdd false) (dVar 7) (dBin (gMul false) (dC (.int 104729)) (dBin (gAdd false) (dVar 6) (dC (.int 1))))) (dBin (gAdd false) (dVar 6) (dC (.int 3)))) (dC (.int 2147483629)))) (dSeq (dAsg 7 (dBin gMod (dBin (gMul false) (dBin gMod (dBin gPow (dVar 7) (dC (.int 5))) (dC (.int 2147483647))) (dC (.int 48271))) (dC (.int 2147483629)))) (dDrop (dMeth "list" gAppend (dVar 5) (dCons (dBin gMod (dBin gFdiv (dVar 7) (dC (.int 16))) (dBin gIx (dVar 2) (dVar 6))) (dNil)))))))) [6, 7]) (dRet (dFrz (dVar 5))))))
def D_law_numbers : DF := runD 8 E_law_numbers
def E_law_step : DS := dSeq (dAsg 1 (dBin gIx (dLst false (dCons (dC (.str "open")) (dCons (dC (.str "close")) (dCons (dC (.str "bind")) (dCons (dC (.str "drop")) (dCons (dC (.str "expect")) (dCons (dC (.str "free")) (dCons (dC (.str "owned")) (dCons (dC (.str "unowned")) (dCons (dC (.str "bind")) (dCons (dC (.str "expect")) (dNil)))))))))))) (dBin gMod (dBin gIx (dVar 0) (dC (.int 0))) (dC (.int 10))))) (dSeq (dPar 2 3 (dCons (dBin gIx (dLst false (dCons (dC (.str "x")) (dCons (dC (.str "x")) (dCons (dC (.str "y")) (dCons (dC (.str "own")) (dNil)))))) (dBin gMod (dBin gIx (dVar 0) (dC (.int 1))) (dC (.int 4)))) (dCons (dBin gIx (dLst false (dCons (dC (.str "1")) (dCons (dC (.str "2")) (dCons (dC (.str "x")) (dNil))))) (dBin gMod (dBin gIx (dVar 0) (dC (.int 2))) (dC (.int 3)))) (dNil)))) (dSeq (dIf (dTst (dBin gIn (dVar 1) (dLst false (dCons (dC (.str "open")) (dCons (dC (.str "close")) (dNil)))))) (dRet (dTup (dCons (dVar 1) (dNil)))) (dNx)) (dRet (dIte (dTst (dBin gIn (dVar 1) (dLst false (dCons (dC (.str "drop")) (dCons (dC (.str "free")) (dCons (dC (.str "unowned")) (dNil))))))) (dTup (dCons (dVar 1) (dCons (dVar 2) (dNil)))) (dTup (dCons (dVar 1) (dCons (dVar 2) (dCons (dVar 3) (dNil)))))))))
def D_law_step : DF := runD 4 E_law_step
def E_law_sequence : DS := dRet (dLc false (dRange1 (dCons (dVar 1) (dNil))) (gN 2) (tYesD) (dCallP 1 D_law_step [] (dCons (dSl false (dVar 0) (dPart (dBin (gMul false) (dC (.int 3)) (dVar 2))) (dNoPart)) (dNil))) [2])
def D_law_sequence : DF := runD 3 E_law_sequence
def E_law_nest : DS := dSeq (dAsg 2 (dLst true (dNil))) (dSeq (dForW (dRange1 (dCons (dBin gMod (dBin gIx (dVar 0) (dC (.int 0))) (dBin (gAdd false) (dVar 1) (dC (.int 1)))) (dNil))) (gN 3) (dSeq (dAsg 4 (dDct0 true)) (dSeq (dForW (dEnum (dCons (dLst false (dCons (dC (.str "x")) (dCons (dC (.str "y")) (dCons (dC (.str "own")) (dNil))))) (dNil))) (gTup (gsCons (gN 5) (gsCons (gN 6) (gsNil)))) (dSeq (dAsg 7 (dBin gIx (dLst false (dCons (dC .non) (dCons (dC .non) (dCons (dC (.str "1")) (dCons (dC (.str "2")) (dCons (dC (.str "x")) (dNil))))))) (dBin gMod (dBin gIx (dVar 0) (dBin (gAdd false) (dBin (gAdd false) (dC (.int 1)) (dBin (gMul false) (dC (.int 3)) (dVar 3))) (dVar 5))) (dC (.int 5))))) (dIf (dTst (dBin gIsN (dVar 7) (dC .non))) (dPut (dVar 4) (dVar 6) (dVar 7)) (dNx))) [5, 6, 7]) (dFrzV 4 (dDrop (dMeth "list" gAppend (dVar 2) (dCons (dVar 4) (dNil))))))) [3, 4, 5, 6, 7]) (dRet (dFrz (dVar 2))))
def D_law_nest : DF := runD 8 E_law_nest
def E_law_visible : DS := dSeq (dAsg 3 (dLc false (dWalk (dSl false (dVar 0) (dPart (dVar 1)) (dNoPart))) (gN 4) (dTst (dBin gIn (dVar 2) (dVar 4))) (dBin gIx (dVar 4) (dVar 2)) [4])) (dRet (dIte (dTst (dBin gNe (dVar 3) (dLst false (dNil)))) (dBin gIx (dVar 3) (dC (.int 0))) (dC .non)))
def D_law_visible : DF := runD 5 E_law_visible
def E_law_after : DS := dSeq (dAsg 2 (dIte (dTst (dBin gEq (dCall gLen (dCons (dVar 1) (dNil))) (dC (.int 3)))) (dBin gIx (dVar 1) (dC (.int 2))) (dC .non))) (dSeq (dIf (dTst (dBin gEqX (dBin gIx (dVar 1) (dC (.int 0))) (dC (.str "open")))) (dRet (dBin (gAdd false) (dLst false (dCons (dDct0 false) (dNil))) (dVar 0))) (dNx)) (dSeq (dIf (dTst (dBin gIn (dBin gIx (dVar 1) (dC (.int 0))) (dLst false (dCons (dC (.str "expect")) (dCons (dC (.str "free")) (dNil)))))) (dRet (dIte (dTst (dBin gEq (dCallP 3 D_law_visible [] (dCons (dVar 0) (dCons (dC (.int 0)) (dCons (dBin gIx (dVar 1) (dC (.int 1))) (dNil))))) (dVar 2))) (dVar 0) (dC .non))) (dNx)) (dSeq (dIf (dTst (dBin gEq (dVar 0) (dLst false (dNil)))) (dRet (dC .non)) (dNx)) (dSeq (dIf (dTst (dBin gEqX (dBin gIx (dVar 1) (dC (.int 0))) (dC (.str "close")))) (dRet (dSl false (dVar 0) (dPart (dC (.int 1))) (dNoPart))) (dNx)) (dSeq (dIf (dTst (dBin gIn (dBin gIx (dVar 1) (dC (.int 0))) (dLst false (dCons (dC (.str "owned")) (dCons (dC (.str "unowned")) (dNil)))))) (dRet (dIte (dTst (dBin gEq (dMeth "dict" gDget (dBin gIx (dVar 0) (dC (.int 0))) (dCons (dBin gIx (dVar 1) (dC (.int 1))) (dNil))) (dVar 2))) (dVar 0) (dC .non))) (dNx)) (dSeq (dAsg 3 (dLc false (dWalk (dCall (gSorted false) (dCons (dBin gIx (dVar 0) (dC (.int 0))) (dNil)))) (gN 4) (dTst (dBin gNe (dVar 4) (dBin gIx (dVar 1) (dC (.int 1))))) (dTup (dCons (dVar 4) (dCons (dBin gIx (dBin gIx (dVar 0) (dC (.int 0))) (dVar 4)) (dNil)))) [4])) (dRet (dBin (gAdd false) (dLst false (dCons (dCall (gDict false) (dCons (dBin (gAdd false) (dVar 3) (dBin (gMul false) (dLst false (dCons (dTup (dCons (dBin gIx (dVar 1) (dC (.int 1))) (dCons (dVar 2) (dNil)))) (dNil))) (dCall gInt (dCons (dBin gIsN (dVar 2) (dC .non)) (dNil))))) (dNil))) (dNil))) (dSl false (dVar 0) (dPart (dC (.int 1))) (dNoPart))))))))))
def D_law_after : DF := runD 5 E_law_after
def E_law_run : DS := dSeq (dAsg 2 (dVar 0)) (dSeq (dForW (dEnum (dCons (dVar 1) (dNil))) (gTup (gsCons (gN 3) (gsCons (gN 4) (gsNil)))) (dSeq (dAsg 2 (dCallP 2 D_law_after [] (dCons (dVar 2) (dCons (dVar 4) (dNil))))) (dIf (dTst (dBin gIs (dVar 2) (dC .non))) (dRet (dLst false (dCons (dC (.str "failed")) (dCons (dVar 3) (dNil))))) (dNx))) [3, 4]) (dRet (dVar 2)))
def D_law_run : DF := runD 5 E_law_run
def E_law_result : DS := dSeq (dAsg 2 (dCallP 2 D_law_run [] (dCons (dVar 0) (dCons (dVar 1) (dNil))))) (dRet (dIte (dAndT (dTst (dBin gEq (dCall gLen (dCons (dVar 2) (dNil))) (dC (.int 2)))) (dTst (dBin gEqX (dBin gIx (dVar 2) (dC (.int 0))) (dC (.str "failed"))))) (dC .non) (dVar 2)))
def D_law_result : DF := runD 3 E_law_result
def E_is_text_of : DS := dRet (dAnd (dCall gIsi (dCons (dVar 0) (dCons (dC (.ty "str")) (dNil)))) (dAnd (dChn gLe gLe (dC (.int 1)) (dCall gLen (dCons (dVar 0) (dNil))) (dC (.int 8))) (dCall gAll (dCons (dLc false (dWalk (dVar 0)) (gN 2) (tYesD) (dBin gIn (dVar 2) (dVar 1)) [2]) (dNil)))))
def D_is_text_of : DF := runD 3 E_is_text_of
def E_is_name : DS := dRet (dCallP 2 D_is_text_of [] (dCons (dVar 0) (dCons (dC (.str "abcdefghijklmnopqrstuvwxyz")) (dNil))))
def D_is_name : DF := runD 1 E_is_name
def E_is_value : DS := dRet (dCallP 2 D_is_text_of [] (dCons (dVar 0) (dCons (dBin (gAdd false) (dC (.str "abcdefghijklmnopqrstuvwxyz")) (dC (.str "0123456789"))) (dNil))))
def D_is_value : DF := runD 1 E_is_value
def E_is_part : DS := dRet (dIte (dTst (dBin gEq (dVar 0) (dC (.str "n")))) (dCallP 1 D_is_name [] (dCons (dVar 1) (dNil))) (dCallP 1 D_is_value [] (dCons (dVar 1) (dNil))))
def D_is_part : DF := runD 2 E_is_part
def E_is_step : DS := dSeq (dIf (dOrT (dNotT (dTst (dCall gIsi (dCons (dVar 0) (dCons (dC (.ty "tuple")) (dNil)))))) (dOrT (dTst (dBin gEq (dVar 0) (dTup (dNil)))) (dNotT (dTst (dCall gIsi (dCons (dBin gIx (dVar 0) (dC (.int 0))) (dCons (dC (.ty "str")) (dNil)))))))) (dRet (dC (.bl false))) (dNx)) (dSeq (dAsg 1 (dKget T_SHAPES (dBin gIx (dVar 0) (dC (.int 0))))) (dSeq (dIf (dOrT (dTst (dBin gIs (dVar 1) (dC .non))) (dTst (dBin gNe (dCall gLen (dCons (dVar 0) (dNil))) (dBin (gAdd false) (dCall gLen (dCons (dVar 1) (dNil))) (dC (.int 1)))))) (dRet (dC (.bl false))) (dNx)) (dRet (dCall gAll (dCons (dLc false (dZipS (dCons (dVar 1) (dCons (dSl false (dVar 0) (dPart (dC (.int 1))) (dNoPart)) (dNil)))) (gTup (gsCons (gN 2) (gsCons (gN 3) (gsNil)))) (tYesD) (dCallP 2 D_is_part [] (dCons (dVar 2) (dCons (dVar 3) (dNil)))) [2, 3]) (dNil))))))
def D_is_step : DF := runD 4 E_is_step
def E_first_invalid : DS := dSeq (dForW (dEnum (dCons (dVar 0) (dNil))) (gTup (gsCons (gN 1) (gsCons (gN 2) (gsNil)))) (dIf (dNotT (dTst (dCallP 1 D_is_step [] (dCons (dVar 2) (dNil))))) (dRet (dVar 1)) (dNx)) [1, 2]) (dRet (dC .non))
def D_first_invalid : DF := runD 3 E_first_invalid
def E_require_sequence : DS := dSeq (dIf (dNotT (dTst (dCall gIsi (dCons (dVar 0) (dCons (dTup (dCons (dC (.ty "list")) (dCons (dC (.ty "tuple")) (dNil)))) (dNil)))))) (dNever) (dNx)) (dSeq (dAsg 1 (dCallP 1 D_first_invalid [] (dCons (dVar 0) (dNil)))) (dIf (dTst (dBin gIsN (dVar 1) (dC .non))) (dNever) (dNx)))
def D_require_sequence : DF := runD 2 E_require_sequence
def E_require_sequences : DS := dForW (dEnum (dCons (dVar 0) (dNil))) (gTup (gsCons (gN 1) (gsCons (gN 2) (gsNil)))) (dTry (dDrop (dCallP 1 D_require_sequence [] (dCons (dVar 2) (dNil))))) [1, 2]
def D_require_sequences : DF := runD 4 E_require_sequences
def E_is_scope : DS := dRet (dAnd (dCall gIsi (dCons (dVar 0) (dCons (dC (.ty "dict")) (dNil)))) (dCall gAll (dCons (dLc false (dWalk (dVar 0)) (gN 1) (tYesD) (dAnd (dCallP 1 D_is_name [] (dCons (dVar 1) (dNil))) (dCallP 1 D_is_value [] (dCons (dBin gIx (dVar 0) (dVar 1)) (dNil)))) [1]) (dNil))))
def D_is_scope : DF := runD 2 E_is_scope
def E_is_nest : DS := dRet (dAnd (dCall gIsi (dCons (dVar 0) (dCons (dC (.ty "list")) (dNil)))) (dCall gAll (dCons (dLc false (dWalk (dVar 0)) (gN 1) (tYesD) (dCallP 1 D_is_scope [] (dCons (dVar 1) (dNil))) [1]) (dNil))))
def D_is_nest : DF := runD 2 E_is_nest
def E_require_nest : DS := dIf (dNotT (dTst (dCallP 1 D_is_nest [] (dCons (dVar 0) (dNil))))) (dNever) (dNx)
def D_require_nest : DF := runD 1 E_require_nest
def E_visible_of : DS := dSeq (dForW (dWalk (dSl false (dVar 0) (dPart (dVar 1)) (dNoPart))) (gN 3) (dIf (dTst (dBin gIn (dVar 2) (dVar 3))) (dRet (dBin gIx (dVar 3) (dVar 2))) (dNx)) [3]) (dRet (dC .non))
def D_visible_of : DF := runD 4 E_visible_of
def E_wanted_value : DS := dRet (dIte (dTst (dBin gEq (dCall gLen (dCons (dVar 0) (dNil))) (dC (.int 3)))) (dBin gIx (dVar 0) (dC (.int 2))) (dC .non))
def D_wanted_value : DF := runD 1 E_wanted_value
def E_own_of : DS := dRet (dIte (dTst (dBin gLt (dVar 1) (dCall gLen (dCons (dVar 0) (dNil))))) (dMeth "dict" gDget (dBin gIx (dVar 0) (dVar 1)) (dCons (dVar 2) (dNil))) (dC .non))
def D_own_of : DF := runD 3 E_own_of
def E_after_step : DS := dSeq (dIf (dTst (dBin gEqX (dBin gIx (dVar 1) (dC (.int 0))) (dC (.str "open")))) (dRet (dBin (gAdd false) (dLst false (dCons (dDct0 false) (dNil))) (dVar 0))) (dNx)) (dSeq (dIf (dTst (dBin gIn (dBin gIx (dVar 1) (dC (.int 0))) (dTup (dCons (dC (.str "expect")) (dCons (dC (.str "free")) (dNil)))))) (dRet (dIte (dTst (dBin gEq (dCallP 3 D_visible_of [] (dCons (dVar 0) (dCons (dC (.int 0)) (dCons (dBin gIx (dVar 1) (dC (.int 1))) (dNil))))) (dCallP 1 D_wanted_value [] (dCons (dVar 1) (dNil))))) (dVar 0) (dC .non))) (dNx)) (dSeq (dIf (dTst (dBin gEq (dVar 0) (dLst false (dNil)))) (dRet (dC .non)) (dNx)) (dSeq (dIf (dTst (dBin gEqX (dBin gIx (dVar 1) (dC (.int 0))) (dC (.str "close")))) (dRet (dSl false (dVar 0) (dPart (dC (.int 1))) (dNoPart))) (dNx)) (dSeq (dIf (dTst (dBin gIn (dBin gIx (dVar 1) (dC (.int 0))) (dTup (dCons (dC (.str "owned")) (dCons (dC (.str "unowned")) (dNil)))))) (dRet (dIte (dTst (dBin gEq (dCallP 3 D_own_of [] (dCons (dVar 0) (dCons (dC (.int 0)) (dCons (dBin gIx (dVar 1) (dC (.int 1))) (dNil))))) (dCallP 1 D_wanted_value [] (dCons (dVar 1) (dNil))))) (dVar 0) (dC .non))) (dNx)) (dSeq (dAsg 2 (dDc true (dItems (dBin gIx (dVar 0) (dC (.int 0)))) (gTup (gsCons (gN 3) (gsCons (gN 4) (gsNil)))) (dTst (dBin gNe (dVar 3) (dBin gIx (dVar 1) (dC (.int 1))))) (dVar 3) (dVar 4) [3, 4])) (dSeq (dIf (dTst (dBin gEqX (dBin gIx (dVar 1) (dC (.int 0))) (dC (.str "bind")))) (dPut (dVar 2) (dBin gIx (dVar 1) (dC (.int 1))) (dBin gIx (dVar 1) (dC (.int 2)))) (dNx)) (dFrzV 2 (dRet (dBin (gAdd false) (dLst false (dCons (dVar 2) (dNil))) (dSl false (dVar 0) (dPart (dC (.int 1))) (dNoPart)))))))))))
def D_after_step : DF := runD 5 E_after_step
def E_outcome : DS := dSeq (dAsg 2 (dVar 0)) (dSeq (dForW (dWalk (dVar 1)) (gN 3) (dSeq (dAsg 2 (dCallP 2 D_after_step [] (dCons (dVar 2) (dCons (dVar 3) (dNil))))) (dIf (dTst (dBin gIs (dVar 2) (dC .non))) (dRet (dC .non)) (dNx))) [3]) (dRet (dVar 2)))
def D_outcome : DF := runD 4 E_outcome
def E_explaining_c : DS := dSeq (dDrop (dCallP 1 D_require_sequences [] (dCons (dVar 0) (dNil)))) (dSeq (dForW (dWalk (dVar 1)) (gTup (gsCons (gN 2) (gsCons (gN 3) (gsNil)))) (dSeq (dDrop (dCallP 1 D_require_nest [] (dCons (dVar 2) (dNil)))) (dIf (dTst (dBin gIsN (dVar 3) (dC .non))) (dDrop (dCallP 1 D_require_nest [] (dCons (dVar 3) (dNil)))) (dNx))) [2, 3]) (dSeq (dAsg 4 (dLst true (dNil))) (dSeq (dForW (dEnum (dCons (dVar 0) (dNil))) (gTup (gsCons (gN 5) (gsCons (gN 6) (gsNil)))) (dIf (dTst (dCall gAll (dCons (dLc false (dWalk (dVar 1)) (gTup (gsCons (gN 2) (gsCons (gN 3) (gsNil)))) (tYesD) (dBin gEq (dCallP 2 D_outcome [] (dCons (dVar 2) (dCons (dVar 6) (dNil)))) (dVar 3)) [2, 3]) (dNil)))) (dDrop (dMeth "list" gAppend (dVar 4) (dCons (dVar 5) (dNil)))) (dNx)) [5, 6]) (dRet (dVar 4)))))
def D_explaining_c : DF := runD 7 E_explaining_c
def E_law_explaining : DS := dSeq (dAsg 2 (dLst true (dNil))) (dSeq (dForW (dEnum (dCons (dVar 0) (dNil))) (gTup (gsCons (gN 3) (gsCons (gN 4) (gsNil)))) (dIf (dTst (dBin gEq (dLc false (dWalk (dVar 1)) (gN 5) (dTst (dBin gNe (dCallP 2 D_law_result [] (dCons (dBin gIx (dVar 5) (dC (.int 0))) (dCons (dVar 4) (dNil)))) (dBin gIx (dVar 5) (dC (.int 1))))) (dVar 5) [5]) (dLst false (dNil)))) (dDrop (dMeth "list" gAppend (dVar 2) (dCons (dVar 3) (dNil)))) (dNx)) [3, 4]) (dRet (dFrz (dVar 2))))
def D_law_explaining : DF := runD 6 E_law_explaining
def E_largest_group : DS := dRet (dMaxD (dLc false (dWalk (dVar 0)) (gN 1) (tYesD) (dMeth "list" gCount (dVar 0) (dCons (dVar 1) (dNil))) [1]) (dC (.int 0)))
def D_largest_group : DF := runD 2 E_largest_group
def E_telling : DS := dSeq (dDrop (dCallP 1 D_require_sequences [] (dCons (dVar 0) (dNil)))) (dSeq (dForW (dWalk (dVar 1)) (gN 2) (dDrop (dCallP 1 D_require_nest [] (dCons (dVar 2) (dNil)))) [2]) (dSeq (dIf (dOrT (dTst (dBin gEq (dCall gLen (dCons (dVar 0) (dNil))) (dC (.int 0)))) (dTst (dBin gEq (dCall gLen (dCons (dVar 1) (dNil))) (dC (.int 0))))) (dRet (dTup (dCons (dC .non) (dCons (dC (.int 0)) (dNil))))) (dNx)) (dSeq (dAsg 3 (dLc false (dWalk (dVar 1)) (gN 2) (tYesD) (dCallP 1 D_largest_group [] (dCons (dLc false (dWalk (dVar 0)) (gN 4) (tYesD) (dCallP 2 D_outcome [] (dCons (dVar 2) (dCons (dVar 4) (dNil)))) [4]) (dNil))) [2])) (dRet (dTup (dCons (dMeth "list" gIndex (dVar 3) (dCons (dCall gMin (dCons (dVar 3) (dNil))) (dNil))) (dCons (dCall gMin (dCons (dVar 3) (dNil))) (dNil))))))))
def D_telling : DF := runD 5 E_telling
def E_law_telling : DS := dSeq (dIf (dOrT (dTst (dBin gEq (dVar 0) (dLst false (dNil)))) (dTst (dBin gEq (dVar 1) (dLst false (dNil))))) (dRet (dTup (dCons (dC .non) (dCons (dC (.int 0)) (dNil))))) (dNx)) (dSeq (dAsg 2 (dLst true (dNil))) (dSeq (dForW (dWalk (dVar 1)) (gN 3) (dSeq (dAsg 4 (dLc false (dWalk (dVar 0)) (gN 5) (tYesD) (dCallP 2 D_law_result [] (dCons (dVar 3) (dCons (dVar 5) (dNil)))) [5])) (dDrop (dMeth "list" gAppend (dVar 2) (dCons (dCall gMax (dCons (dLc false (dWalk (dVar 4)) (gN 6) (tYesD) (dMeth "list" gCount (dVar 4) (dCons (dVar 6) (dNil))) [6]) (dNil))) (dNil))))) [3, 4]) (dFrzV 2 (dRet (dTup (dCons (dMeth "list" gIndex (dVar 2) (dCons (dCall gMin (dCons (dVar 2) (dNil))) (dNil))) (dCons (dCall gMin (dCons (dVar 2) (dNil))) (dNil))))))))
def D_law_telling : DF := runD 7 E_law_telling
def E_explaining : DS := dSeq (dDrop (dCallP 1 D_require_sequences [] (dCons (dVar 0) (dNil)))) (dSeq (dForW (dWalk (dVar 1)) (gTup (gsCons (gN 2) (gsCons (gN 3) (gsNil)))) (dSeq (dDrop (dCallP 1 D_require_nest [] (dCons (dVar 2) (dNil)))) (dIf (dTst (dBin gIsN (dVar 3) (dC .non))) (dDrop (dCallP 1 D_require_nest [] (dCons (dVar 3) (dNil)))) (dNx))) [2, 3]) (dSeq (dAsg 4 (dLst true (dNil))) (dSeq (dForW (dEnum (dCons (dVar 0) (dNil))) (gTup (gsCons (gN 5) (gsCons (gN 6) (gsNil)))) (dIf (dTst (dCall gAll (dCons (dLc false (dWalk (dVar 1)) (gTup (gsCons (gN 2) (gsCons (gN 3) (gsNil)))) (tYesD) (dBin gEq (dCallP 2 D_outcome [] (dCons (dVar 2) (dCons (dVar 6) (dNil)))) (dVar 3)) [2, 3]) (dNil)))) (dDrop (dMeth "list" gAppend (dVar 4) (dCons (dVar 5) (dNil)))) (dNx)) [5, 6]) (dRet (dFrz (dVar 4))))))
def D_explaining : DF := runD 7 E_explaining
def E_law : DS := dSeq (dForW (dEnum (dCons (dBin (gAdd false) (dSl false (dVar 0) (dNoPart) (dPart (dC (.int 6)))) (dBin (gMul false) (dLst false (dCons (dC (.int 7)) (dNil))) (dCall gInt (dCons (dBin gEq (dVar 0) (dLst false (dNil))) (dNil))))) (dNil))) (gTup (gsCons (gN 1) (gsCons (gN 2) (gsNil)))) (dSeq (dAsg 3 (dCallP 3 D_law_numbers [] (dCons (dVar 2) (dCons (dBin (gAdd false) (dC (.int 6000)) (dVar 1)) (dCons (dBin (gMul false) (dLst false (dCons (dC (.int 420)) (dNil))) (dC (.int 200))) (dNil)))))) (dSeq (dAsg 4 (dLc false (dRange1 (dCons (dBin gMod (dBin gIx (dVar 3) (dC (.int 150))) (dC (.int 7))) (dNil))) (gN 15) (tYesD) (dCallP 2 D_law_sequence [] (dCons (dSl false (dVar 3) (dPart (dBin (gAdd false) (dBin (gMul false) (dC (.int 20)) (dVar 15)) (dC (.int 1)))) (dNoPart)) (dCons (dBin gMod (dBin gIx (dVar 3) (dBin (gMul false) (dC (.int 20)) (dVar 15))) (dC (.int 7))) (dNil)))) [15])) (dSeq (dAsg 5 (dLc false (dRange1 (dCons (dBin gMod (dBin gIx (dVar 3) (dC (.int 151))) (dC (.int 5))) (dNil))) (gN 15) (tYesD) (dCallP 2 D_law_nest [] (dCons (dSl false (dVar 3) (dPart (dBin (gAdd false) (dC (.int 120)) (dBin (gMul false) (dC (.int 13)) (dVar 15)))) (dNoPart)) (dCons (dC (.int 3)) (dNil)))) [15])) (dSeq (dAsg 6 (dBin gIx (dBin (gAdd false) (dVar 4) (dLst false (dCons (dLst false (dNil)) (dNil)))) (dBin gMod (dBin gIx (dVar 3) (dC (.int 152))) (dBin (gAdd false) (dCall gLen (dCons (dVar 4) (dNil))) (dC (.int 1)))))) (dSeq (dAsg 7 (dLc false (dWalk (dVar 5)) (gN 16) (tYesD) (dTup (dCons (dVar 16) (dCons (dCallP 2 D_law_result [] (dCons (dVar 16) (dCons (dVar 6) (dNil)))) (dNil)))) [16])) (dSeq (dAsg 8 (dBin (gAdd false) (dVar 7) (dLst false (dCons (dTup (dCons (dCallP 2 D_law_nest [] (dCons (dSl false (dVar 3) (dPart (dC (.int 180))) (dNoPart)) (dCons (dC (.int 2)) (dNil)))) (dCons (dBin gIx (dLst false (dCons (dC .non) (dCons (dLst false (dNil)) (dCons (dLst false (dCons (dDctQ false (dQcons (dC (.str "x")) (dC (.str "1")) (dPnil))) (dNil))) (dNil))))) (dBin gMod (dBin gIx (dVar 3) (dC (.int 153))) (dC (.int 3)))) (dNil)))) (dNil))))) (dSeq (dAsg 9 (dCall gRepr (dCons (dLst false (dCons (dVar 4) (dCons (dVar 5) (dCons (dVar 7) (dCons (dVar 8) (dNil)))))) (dNil)))) (dSeq (dForW (dWalk (dLst false (dCons (dVar 7) (dCons (dVar 8) (dCons (dLst false (dNil)) (dCons (dSl false (dVar 7) (dNoPart) (dPart (dC (.int 1)))) (dCons (dRev false (dVar 8)) (dNil)))))))) (gN 10) (dForW (dRange1 (dCons (dC (.int 2)) (dNil))) (gN 11) (dSeq (dAsg 12 (dLc false (dEnum (dCons (dVar 4) (dNil))) (gTup (gsCons (gN 17) (gsCons (gN 18) (gsNil)))) (tYesD) (dBin gIx (dLst false (dCons (dVar 18) (dCons (dCall gTuple (dCons (dVar 18) (dNil))) (dNil)))) (dBin gMod (dBin (gAdd false) (dVar 17) (dVar 11)) (dC (.int 2)))) [17, 18])) (dSeq (dAsg 13 (dCallN 2 D_explaining_c [] (dCons (dVar 12) (dCons (dVar 10) (dNil))))) (dSeq (dIf (dTst (dBin gNe (dCall gRepr (dCons (dVar 13) (dNil))) (dCall gRepr (dCons (dCallP 2 D_law_explaining [] (dCons (dVar 4) (dCons (dVar 10) (dNil)))) (dNil))))) (dRet (dC (.bl false))) (dNx)) (dDrop (dMeth "list" gAppend (dVar 13) (dCons (dC .non) (dNil))))))) [11, 12, 13]) [10, 11, 12, 13]) (dSeq (dForW (dWalk (dLst false (dCons (dVar 5) (dCons (dRev false (dVar 5)) (dCons (dSl false (dVar 5) (dNoPart) (dPart (dC (.int 1)))) (dCons (dLst false (dNil)) (dNil))))))) (gN 14) (dIf (dTst (dBin gNe (dCallP 2 D_telling [] (dCons (dVar 4) (dCons (dVar 14) (dNil)))) (dCallP 2 D_law_telling [] (dCons (dVar 4) (dCons (dVar 14) (dNil)))))) (dRet (dC (.bl false))) (dNx)) [14]) (dSeq (dIf (dOrT (dTst (dBin gNe (dCallP 2 D_telling [] (dCons (dLst false (dNil)) (dCons (dVar 5) (dNil)))) (dTup (dCons (dC .non) (dCons (dC (.int 0)) (dNil)))))) (dTst (dBin gNe (dCallP 2 D_telling [] (dCons (dSl false (dVar 4) (dNoPart) (dPart (dC (.int 1)))) (dCons (dVar 5) (dNil)))) (dCallP 2 D_law_telling [] (dCons (dSl false (dVar 4) (dNoPart) (dPart (dC (.int 1)))) (dCons (dVar 5) (dNil))))))) (dRet (dC (.bl false))) (dNx)) (dIf (dOrT (dTst (dBin gNe (dCallP 2 D_explaining [] (dCons (dLst false (dNil)) (dCons (dVar 7) (dNil)))) (dLst false (dNil)))) (dTst (dBin gNe (dCall gRepr (dCons (dLst false (dCons (dVar 4) (dCons (dVar 5) (dCons (dVar 7) (dCons (dVar 8) (dNil)))))) (dNil))) (dVar 9)))) (dRet (dC (.bl false))) (dNx)))))))))))) [1, 2, 3, 4, 5, 6, 7, 8, 9, 10, 11, 12, 13, 14]) (dRet (dC (.bl true)))
def D_law : DF := runD 19 E_law
end G
end
section
set_option Elab.async false
set_option linter.all false
set_option maxRecDepth 100000
set_option maxHeartbeats 4000000
/-! the program's defs over data -/
namespace G
open PySem PySem.Spec PyProof.Rows L2 Z PySem.SeqAt
abbrev Sc := List (Str × Str)
abbrev Ne := List Sc
def enSc (s : Sc) : T := .dct (s.map fun p => (p.1, .str p.2))
def enNe (n : Ne) : T := .lst (n.map enSc)
def enO (x : Option Str) : T := match x with
  | some v => .str v
  | none => .non
inductive Stp where
  | op | cl
  | bind (n v : Str) | drop (n : Str) | expect (n v : Str) | free (n : Str) | owned (n v : Str) | unowned (n : Str)
def enS : Stp → T
  | .op => .tup [.str "open"]
  | .cl => .tup [.str "close"]
  | .bind n v => .tup [.str "bind", .str n, .str v]
  | .drop n => .tup [.str "drop", .str n]
  | .expect n v => .tup [.str "expect", .str n, .str v]
  | .free n => .tup [.str "free", .str n]
  | .owned n v => .tup [.str "owned", .str n, .str v]
  | .unowned n => .tup [.str "unowned", .str n]
theorem nc_sc (s : Sc) : noCel (enSc s) = true := by unfold enSc; simp only [noCel]; exact noCelF_map (f := fun p : Str × Str => T.str p.2) (k := fun p => p.1) (fun _ => by simp only [noCel]) s
theorem nc_ne (n : Ne) : noCel (enNe n) = true := by unfold enNe; simp only [noCel]; exact noCelL_map nc_sc n
theorem nc_s (x : Stp) : noCel (enS x) = true := by cases x <;> simp [enS, noCel, noCelL]
theorem nc_o (x : Option Str) : noCel (enO x) = true := by cases x <;> simp [enO, noCel]
theorem look_sc (s : Sc) (k : Str) : (s.map fun p => (p.1, T.str p.2)).lookup k = (s.lookup k).map T.str := by
  induction s with
  | nil => rfl
  | cons p r ih =>
    obtain ⟨a, b⟩ := p
    rw [List.map_cons, List.lookup_cons, List.lookup_cons, ih]
    cases k == a <;> rfl
def vis (n : Ne) (x : Str) : Option Str := n.findSome? (·.lookup x)
theorem r_visible_of (n : Ne) (l : Nat) (x : Str) (M : Mem) : runP D_visible_of [enNe n, .int l, .str x] M = .ok (enO (vis (n.drop l) x)) M := by
  refine runP_ok ?_ (by simp [noCelL, nc_ne, noCel]) (nc_o _)
  have key := forL_find (g := gN 3) (b := dTrim [3] (dIf (dTst (dBin gIn (dVar 2) (dVar 3))) (dRet (dBin gIx (dVar 3) (dVar 2))) dNx)) (it := enSc) (s := [some (enNe n), some (.int l), some (.str x), none]) (M := []) (f := fun s => (s.lookup x).map T.str) (fun s => by
    refine ⟨[some (enNe n), some (.int l), some (.str x), some (enSc s)], by simp, ?_⟩
    cases e : s.lookup x with
    | none => simp [enSc, look_sc, e, w_kTrim0]
    | some v => exact ⟨[], by simp [enSc, look_sc, e]⟩) (n.drop l)
  simp only [D_visible_of, E_visible_of]
  have e2 : (n.drop l).findSome? (fun s => (s.lookup x).map T.str) = (vis (n.drop l) x).map T.str := by
    unfold vis
    induction n.drop l with
    | nil => rfl
    | cons a r ih =>
      rw [List.findSome?_cons, List.findSome?_cons]
      cases a.lookup x with
      | some v => rfl
      | none => exact ih
  rw [e2] at key
  cases e : vis (n.drop l) x with
  | none =>
    rw [e] at key
    refine ⟨[], runD_rt (t := .non) ?_⟩
    simp [startS, enNe, ← List.map_drop] at key ⊢
    rw [key]; rfl
  | some v =>
    rw [e] at key
    obtain ⟨M', key⟩ := key
    refine ⟨M', runD_rt (t := .str v) ?_⟩
    simp [startS, enNe, ← List.map_drop] at key ⊢
    rw [key]; rfl
def ownO (n : Ne) (l : Nat) (x : Str) : Option Str := match n[l]? with
  | some s => s.lookup x
  | none => none
theorem r_own_of (n : Ne) (l : Nat) (x : Str) (M : Mem) : runP D_own_of [enNe n, .int l, .str x] M = .ok (enO (ownO n l x)) M := by
  refine runP_ok ⟨[], runD_rt ?_⟩ (by simp [noCelL, nc_ne, noCel]) (nc_o _)
  unfold E_own_of ownO
  by_cases h : l < n.length
  · have e : n[l]? = some n[l] := List.getElem?_eq_getElem h
    simp [startS, enNe, h, w_kMeth1, enSc, look_sc]
    cases n[l].lookup x <;> rfl
  · have e : n[l]? = none := List.getElem?_eq_none (by omega)
    simp [startS, enNe, h, e, enO]
def wish : Stp → Option Str
  | .bind _ v => some v
  | .expect _ v => some v
  | .owned _ v => some v
  | _ => none
theorem r_wanted_value (x : Stp) (M : Mem) : runP D_wanted_value [enS x] M = .ok (enO (wish x)) M := by
  refine runP_ok ⟨[], runD_rt ?_⟩ (by simp [noCelL, nc_s]) (nc_o _)
  unfold E_wanted_value
  cases x <;> simp [startS, enS, wish, enO]
def setS (s : Sc) (x v : Str) : Sc := (s.filter fun p => !(p.1 == x)) ++ [(x, v)]
def delS (s : Sc) (x : Str) : Sc := s.filter fun p => !(p.1 == x)
def after (n : Ne) : Stp → Option Ne
  | .op => some ([] :: n)
  | .expect x v => if vis n x = some v then some n else none
  | .free x => if vis n x = none then some n else none
  | .cl => (match n with
    | [] => none
    | _ :: r => some r)
  | .owned x v => (match n with
    | [] => none
    | s :: _ => if s.lookup x = some v then some n else none)
  | .unowned x => (match n with
    | [] => none
    | s :: _ => if s.lookup x = none then some n else none)
  | .bind x v => (match n with
    | [] => none
    | s :: r => some (setS s x v :: r))
  | .drop x => (match n with
    | [] => none
    | s :: r => some (delS s x :: r))
def enON (n : Option Ne) : T := match n with
  | some m => enNe m
  | none => .non
theorem nc_on (n : Option Ne) : noCel (enON n) = true := by cases n <;> simp [enON, noCel, nc_ne]
theorem eq_o (a b : Option Str) (n : Nat) : eqF true (n + 1) (enO a) (enO b) = some (decide (a = b)) := by
  cases a <;> cases b <;> simp [enO, Bool.beq_eq_decide_eq]
theorem der_o (a : Option Str) (M : Mem) : der M (enO a) = enO a := by cases a <;> rfl
def KeysOk (s : Sc) : Prop := (s.map (·.1)).Nodup
theorem keys_del {s : Sc} (h : KeysOk s) (x : Str) : KeysOk (delS s x) := by
  unfold KeysOk delS
  exact List.Sublist.nodup ((List.filter_sublist (l := s)).map _) h
theorem not_del (s : Sc) (x : Str) : x ∉ (delS s x).map (·.1) := by
  intro c
  obtain ⟨p, hp, e⟩ := List.mem_map.mp c
  have := (List.mem_filter.mp hp).2
  rw [e] at this
  simp at this
theorem keys_set {s : Sc} (h : KeysOk s) (x v : Str) : KeysOk (setS s x v) := by
  have h1 := keys_del h x
  have h2 := not_del s x
  unfold KeysOk delS at *
  unfold setS
  rw [List.map_append, List.nodup_append]
  refine ⟨h1, by simp, fun a ha b hb e => ?_⟩
  have hb' : b = x := by simpa using hb
  rw [e, hb'] at ha
  exact h2 ha
theorem dep_sc (s : Sc) : dep (enSc s) ≤ 2 := by
  unfold enSc
  simp only [dep]
  have := depF_map (k := 1) (kf := fun p : Str × Str => p.1) (f := fun p : Str × Str => T.str p.2) (fun x => by simp [dep]) s
  omega
theorem ncf_sc (s : Sc) : noCelF (s.map fun p => (p.1, T.str p.2)) = true := noCelF_map (f := fun p : Str × Str => T.str p.2) (k := fun p => p.1) (fun _ => by simp only [noCel]) s
theorem depf_sc (s : Sc) : depF (s.map fun p => (p.1, T.str p.2)) ≤ 18 := by
  have := depF_map (k := 1) (kf := fun p : Str × Str => p.1) (f := fun p : Str × Str => T.str p.2) (fun x => by simp [dep]) s
  omega
@[simp] theorem it_sc (s : Sc) (M : Mem) : kItems (enSc s) M = .ok (s.map fun p => .tup [.str p.1, .str p.2]) M := by
  unfold enSc
  rw [w_kItems, items_map (kf := fun p : Str × Str => p.1) (vf := fun p => T.str p.2)]
/-- the comprehension of after_step -/
theorem dc_del {s : Sc} (h : KeysOk s) (hl : s.length ≤ LIM) {n : Ne} {st : Stp} {x : Str} {M : Mem} (hx : gIx (enS st) (.int 1) M = some (.str x, M)) :
    dcL (gTup (gsCons (gN 3) (gsCons (gN 4) gsNil))) (dTst (dBin gNe (dVar 3) (dBin gIx (dVar 1) (dC (.int 1))))) (dVar 3) (dVar 4) [some (enNe n), some (enS st), none, none, none] (s.map fun p => .tup [.str p.1, .str p.2]) [] M = .ok ((delS s x).map fun p => (p.1, T.str p.2)) M := by
  rw [dcL_map (p := fun q => !(q.1 == x)) (kf := fun q => q.1) (vf := fun q => T.str q.2) s [] (fun q _ => ?_) (by simpa using hl)]
  · have e := foldl_put (kf := fun q : Str × Str => q.1) (vf := fun q => T.str q.2) (delS s x) [] (keys_del h x) (by simp)
    unfold delS at e
    rw [e]
    rfl
  · refine ⟨[some (enNe n), some (enS st), none, some (.str q.1), some (.str q.2)], by simp, ?_, fun _ => ⟨by simp, by simp⟩⟩
    simp [hx]
theorem r_after_step (n : Ne) (st : Stp) (M : Mem) (hk : ∀ s ∈ n, KeysOk s) (hl : n.length < LIM) (hs : ∀ s ∈ n, s.length < LIM) : runP D_after_step [enNe n, enS st] M = .ok (enON (after n st)) M := by
  refine runP_ok ?_ (by simp [noCelL, nc_ne, nc_s]) (nc_on _)
  have e0 : ((0 : Nat) : Int) = 0 := rfl
  have rv : ∀ x M, runP D_visible_of [.lst (n.map enSc), .int 0, .str x] M = .ok (enO (vis n x)) M := fun x M => r_visible_of n 0 x M
  have ro : ∀ x M, runP D_own_of [.lst (n.map enSc), .int 0, .str x] M = .ok (enO (ownO n 0 x)) M := fun x M => r_own_of n 0 x M
  have hL : n.length + 1 ≤ LIM := hl
  cases st with
  | op =>
    refine ⟨[], runD_rt ?_⟩
    unfold E_after_step
    simp [startS, enNe, enS, enON, after, LIM_big]
    rw [if_pos (by rw [LIM_big] at hL; omega)]
    simp [enSc]
  | expect x v =>
    have rw' := r_wanted_value (.expect x v)
    refine ⟨[], runD_rt ?_⟩
    unfold E_after_step
    simp [enS, wish, enO] at rw'
    simp [startS, enNe, enS, after, LIM_big, rv, rw', der_o]
    have e := eq_o (vis n x) (some v) eqDepth
    rw [show T.str v = enO (some v) from rfl, e]
    by_cases h : vis n x = some v <;> simp [h, enON, enNe]
  | free x =>
    have rw' := r_wanted_value (.free x)
    refine ⟨[], runD_rt ?_⟩
    unfold E_after_step
    simp [enS, wish, enO] at rw'
    simp [startS, enNe, enS, after, LIM_big, rv, rw', der_o]
    have e := eq_o (vis n x) none eqDepth
    rw [show T.non = enO none from rfl, e]
    by_cases h : vis n x = none <;> simp [h, enON, enNe, enO]
  | cl =>
    refine ⟨[], runD_rt ?_⟩
    unfold E_after_step
    cases n with
    | nil => simp [startS, enNe, enS, enON, after, LIM_big, allZ]
    | cons s r => simp [startS, enNe, enS, enON, after, LIM_big]
  | owned x v =>
    have rw' := r_wanted_value (.owned x v)
    refine ⟨[], runD_rt ?_⟩
    unfold E_after_step
    simp [enS, wish, enO] at rw'
    cases n with
    | nil => simp [startS, enNe, enS, enON, after, LIM_big, allZ]
    | cons s r =>
      simp [ownO] at ro
      simp [startS, enNe, enS, after, LIM_big, ro, rw', der_o]
      have e := eq_o (s.lookup x) (some v) eqDepth
      rw [show T.str v = enO (some v) from rfl, e]
      by_cases h : s.lookup x = some v <;> simp [h, enON, enNe]
  | unowned x =>
    have rw' := r_wanted_value (.unowned x)
    refine ⟨[], runD_rt ?_⟩
    unfold E_after_step
    simp [enS, wish, enO] at rw'
    cases n with
    | nil => simp [startS, enNe, enS, enON, after, LIM_big, allZ]
    | cons s r =>
      simp [ownO] at ro
      simp [startS, enNe, enS, after, LIM_big, ro, rw', der_o]
      have e := eq_o (s.lookup x) none eqDepth
      rw [show T.non = enO none from rfl, e]
      by_cases h : s.lookup x = none <;> simp [h, enON, enNe, enO]
  | bind x v =>
    cases n with
    | nil =>
      refine ⟨[], runD_rt ?_⟩
      unfold E_after_step
      simp [startS, enNe, enS, enON, after, LIM_big, allZ]
    | cons s r =>
      refine ⟨[.dead], runD_rt ?_⟩
      have hd := dc_del (n := s :: r) (st := .bind x v) (x := x) (M := []) (hk s (List.mem_cons_self ..)) (Nat.le_of_lt (hs s (List.mem_cons_self ..))) rfl
      have hdl : (delS s x).length < LIM := Nat.lt_of_le_of_lt (List.length_filter_le ..) (hs s (List.mem_cons_self ..))
      have hp : putT ((delS s x).map fun p => (p.1, T.str p.2)) x (.str v) = (setS s x v).map fun p => (p.1, T.str p.2) := by
        rw [putT_new (by rw [List.map_map]; exact not_del s x)]
        unfold setS delS
        simp
      have hf := frz_dct0 (M := []) (ncf_sc (setS s x v)) (depf_sc (setS s x v))
      unfold E_after_step
      simp [enS, enNe] at hd
      simp [startS, enNe, enS, after, hd]
      simp at hdl
      simp [hdl, hp, hf]
      rw [LIM_big] at hL
      simp at hL
      simp [enON, enNe, enSc, show 1 + r.length ≤ 16777216 by omega]
  | drop x =>
    cases n with
    | nil =>
      refine ⟨[], runD_rt ?_⟩
      unfold E_after_step
      simp [startS, enNe, enS, enON, after, LIM_big, allZ]
    | cons s r =>
      refine ⟨[.dead], runD_rt ?_⟩
      have hd := dc_del (n := s :: r) (st := .drop x) (x := x) (M := []) (hk s (List.mem_cons_self ..)) (Nat.le_of_lt (hs s (List.mem_cons_self ..))) rfl
      have hf := frz_dct0 (M := []) (ncf_sc (delS s x)) (depf_sc (delS s x))
      unfold E_after_step
      simp [enS, enNe] at hd
      simp [startS, enNe, enS, after, hd]
      simp [hf]
      rw [LIM_big] at hL
      simp at hL
      simp [enON, enNe, enSc, show 1 + r.length ≤ 16777216 by omega]
end G
end
section
set_option Elab.async false
set_option linter.all false
set_option maxRecDepth 100000
set_option maxHeartbeats 4000000
namespace G
open PySem PySem.Spec PyProof.Rows L2 Z PySem.SeqAt
def namesD : List Str := ["x", "y", "own"]
def valsD : List Str := ["1", "2", "x"]
def allS : List Stp := [.op, .cl] ++ namesD.flatMap fun n => [.drop n, .free n, .unowned n] ++ valsD.flatMap fun v => [.bind n v, .expect n v, .owned n v]
def SOk (s : Stp) : Prop := s ∈ allS
structure ScOk (s : Sc) : Prop where
  keys : KeysOk s
  ns : ∀ p ∈ s, p.1 ∈ namesD ∧ p.2 ∈ valsD
abbrev NeOk (n : Ne) : Prop := ∀ s ∈ n, ScOk s
def okB (o : Out T) : Bool := match o with
  | .ok (.bl true) _ => true
  | _ => false
theorem okB_run {F : DF} {ts : List T} {M : Mem} (h : okB (F ts []) = true) (h1 : noCelL ts = true) : runP F ts M = .ok (.bl true) M := by
  refine runP_ok ?_ h1 rfl
  unfold okB at h
  split at h
  · rename_i M' e
    exact ⟨M', e⟩
  · cases h
theorem c_step : allS.all (fun s => okB (D_is_step [enS s] [])) = true := by decide +kernel
theorem c_name : namesD.all (fun s => okB (D_is_name [.str s] [])) = true := by decide +kernel
theorem c_value : valsD.all (fun s => okB (D_is_value [.str s] [])) = true := by decide +kernel
theorem r_is_step {s : Stp} (h : SOk s) (M : Mem) : runP D_is_step [enS s] M = .ok (.bl true) M := okB_run (List.all_eq_true.mp c_step s h) (by simp [noCelL, nc_s])
theorem r_is_name {s : Str} (h : s ∈ namesD) (M : Mem) : runP D_is_name [.str s] M = .ok (.bl true) M := okB_run (List.all_eq_true.mp c_name s h) (by simp [noCelL, noCel])
theorem r_is_value {s : Str} (h : s ∈ valsD) (M : Mem) : runP D_is_value [.str s] M = .ok (.bl true) M := okB_run (List.all_eq_true.mp c_value s h) (by simp [noCelL, noCel])
theorem bls_map {β : Type} (f : β → Bool) : ∀ xs : List β, blsT (xs.map fun x => T.bl (f x)) = some (xs.map f)
  | [] => rfl
  | x :: r => by rw [List.map_cons]; unfold blsT; rw [bls_map f r]; rfl
theorem all_map {β : Type} (f : β → Bool) (xs : List β) (M : Mem) : gAll [.lst (xs.map fun x => T.bl (f x))] M = some (.bl (xs.all f), M) := by
  unfold gAll Z.listOf
  simp only [der_lst', Option.bind_some, bls_map]
  simp [List.all_map]
@[simp] theorem isi_dct (ks : List (Str × T)) (M : Mem) : gIsi [.dct ks, .ty "dict"] M = some (.bl true, M) := rfl
@[simp] theorem isi_lst (ks : List T) (M : Mem) : gIsi [.lst ks, .ty "list"] M = some (.bl true, M) := rfl
@[simp] theorem isi_lst2 (ks : List T) (M : Mem) : gIsi [.lst ks, .tup [.ty "list", .ty "tuple"]] M = some (.bl true, M) := rfl
@[simp] theorem isi_tup2 (ks : List T) (M : Mem) : gIsi [.tup ks, .tup [.ty "list", .ty "tuple"]] M = some (.bl true, M) := rfl
theorem all_const {β : Type} (ys : List β) (M : Mem) : gAll [.lst (ys.map fun _ => T.bl true)] M = some (.bl true, M) :=
  (all_map (fun _ : β => true) ys M).trans (by rw [show ys.all (fun _ => true) = true from List.all_eq_true.mpr fun _ _ => rfl])
theorem r_is_scope {s : Sc} (h : ScOk s) (hl : s.length ≤ LIM) (M : Mem) : runP D_is_scope [enSc s] M = .ok (.bl true) M := by
  refine runP_ok ⟨[], runD_rt ?_⟩ (by simp [noCelL, nc_sc]) rfl
  have key := lcL_mapM (g := gN 1) (tt := tYesD) (de := dAnd (dCallP 1 D_is_name [] (dCons (dVar 1) dNil)) (dCallP 1 D_is_value [] (dCons (dBin gIx (dVar 0) (dVar 1)) dNil))) (s0 := [some (enSc s), none]) (M := []) (it := fun p : Str × Str => T.str p.1) (p := fun _ => true) (f := fun _ => T.bl true) s (fun p hp => by
    refine ⟨[some (enSc s), some (.str p.1)], by simp, by simp, fun _ => ?_⟩
    have lk : s.lookup p.1 = some p.2 := lookup_of_mem h.keys hp
    simp [r_is_name (h.ns p hp).1, enSc, look_sc, lk, r_is_value (h.ns p hp).2])
  unfold E_is_scope
  simp at hl
  have ek : keysT (List.map (fun p : Str × Str => (p.1, T.str p.2)) s) = s.map fun p => T.str p.1 := keys_map (kf := fun p : Str × Str => p.1) (vf := fun p => T.str p.2) s
  simp only [enSc] at key
  simp [startS, enSc, ek, hl]
  rw [key]
  simp [all_const]
theorem r_is_nest {n : Ne} (h : NeOk n) (hl : n.length ≤ LIM) (hs : ∀ s ∈ n, s.length ≤ LIM) (M : Mem) : runP D_is_nest [enNe n] M = .ok (.bl true) M := by
  refine runP_ok ⟨[], runD_rt ?_⟩ (by simp [noCelL, nc_ne]) rfl
  have key := lcL_mapM (g := gN 1) (tt := tYesD) (de := dCallP 1 D_is_scope [] (dCons (dVar 1) dNil)) (s0 := [some (enNe n), none]) (M := []) (it := enSc) (p := fun _ => true) (f := fun _ => T.bl true) n (fun s hp =>
    ⟨[some (enNe n), some (enSc s)], by simp, by simp, fun _ => by simp [r_is_scope (h s hp) (hs s hp)]⟩)
  unfold E_is_nest
  simp only [enNe] at key
  simp at hl
  simp [startS, enNe, hl]
  rw [key]
  simp [all_const]
theorem r_require_nest {n : Ne} (h : NeOk n) (hl : n.length ≤ LIM) (hs : ∀ s ∈ n, s.length ≤ LIM) (M : Mem) : runP D_require_nest [enNe n] M = .ok .non M := by
  refine runP_ok ⟨[], runD_nx (s := [some (enNe n)]) ?_⟩ (by simp [noCelL, nc_ne]) rfl
  unfold E_require_nest
  simp [startS, r_is_nest h hl hs]
/-- a sequence, as a list or a tuple -/
def enQ (b : Bool) (q : List Stp) : T := if b then .tup (q.map enS) else .lst (q.map enS)
abbrev SqOk (q : List Stp) : Prop := ∀ s ∈ q, SOk s
theorem nc_q (b : Bool) (q : List Stp) : noCel (enQ b q) = true := by
  cases b <;> simp [enQ, noCel, noCelL_map nc_s q]
theorem r_first_invalid (b : Bool) {q : List Stp} (h : SqOk q) (M : Mem) : runP D_first_invalid [enQ b q] M = .ok .non M := by
  refine runP_ok ⟨[], runD_rt ?_⟩ (by simp [noCelL, nc_q]) rfl
  have key := forL_foldM (α := Unit) (g := gTup (gsCons (gN 1) (gsCons (gN 2) gsNil))) (b := dTrim [1, 2] (dIf (dNotT (dTst (dCallP 1 D_is_step [] (dCons (dVar 2) dNil)))) (dRet (dVar 1)) dNx)) (it := fun p : Stp × Nat => .tup [.int (p.2 : Int), enS p.1]) (sO := fun _ => [some (enQ b q), none, none]) (mO := fun _ => []) (f := fun a _ => a) (Inv := fun _ _ => True) q.zipIdx (fun p hp r a _ => by
    refine ⟨[some (enQ b q), some (.int (p.2 : Int)), some (enS p.1)], by simp, ?_, trivial⟩
    have hm : p.1 ∈ q := by
      obtain ⟨s, i⟩ := p
      exact (List.mem_zipIdx' hp).2 ▸ List.getElem_mem _
    simp [r_is_step (h p.1 hm), w_kTrim0]) () trivial
  unfold E_first_invalid
  cases b with
  | false =>
    simp [startS, enQ, enum_map] at key ⊢
    rw [key]; rfl
  | true =>
    simp [startS, enQ, enum_map] at key ⊢
    rw [key]; rfl
end G
end
section
set_option Elab.async false
set_option linter.all false
set_option maxRecDepth 100000
set_option maxHeartbeats 4000000
namespace G
open PySem PySem.Spec PyProof.Rows L2 Z PySem.SeqAt
def out (n : Ne) : List Stp → Option Ne
  | [] => some n
  | s :: r => match after n s with
    | none => none
    | some m => out m r
structure SzOk (n : Ne) (k : Nat) : Prop where
  len : n.length + k < LIM
  sc : ∀ s ∈ n, KeysOk s ∧ s.length + k < LIM
theorem SzOk.mono {n : Ne} {j k : Nat} (h : SzOk n k) (hj : j ≤ k) : SzOk n j := ⟨by have := h.len; omega, fun s hs => ⟨(h.sc s hs).1, by have := (h.sc s hs).2; omega⟩⟩
theorem after_sz {n m : Ne} {k : Nat} {st : Stp} (h : SzOk n (k + 1)) (e : after n st = some m) : SzOk m k := by
  have hd : ∀ s x, (delS s x).length ≤ s.length := fun s x => List.length_filter_le ..
  have h0 := h.mono (Nat.le_succ k)
  cases st with
  | op =>
    simp only [after, Option.some.injEq] at e
    subst e
    refine ⟨by have := h.len; simp only [List.length_cons]; omega, fun s hs => ?_⟩
    rcases List.mem_cons.mp hs with rfl | hs
    · exact ⟨by simp [KeysOk], by have := h.len; simp only [List.length_nil]; omega⟩
    · exact h0.sc s hs
  | expect x v =>
    simp only [after] at e
    split at e
    · cases e; exact h0
    · cases e
  | free x =>
    simp only [after] at e
    split at e
    · cases e; exact h0
    · cases e
  | cl =>
    cases n with
    | nil => simp [after] at e
    | cons s r =>
      simp only [after, Option.some.injEq] at e
      subst e
      exact ⟨by have := h.len; simp only [List.length_cons] at this; omega, fun s hs => h0.sc s (List.mem_cons_of_mem _ hs)⟩
  | owned x v =>
    cases n with
    | nil => simp [after] at e
    | cons s r =>
      simp only [after] at e
      split at e
      · cases e; exact h0
      · cases e
  | unowned x =>
    cases n with
    | nil => simp [after] at e
    | cons s r =>
      simp only [after] at e
      split at e
      · cases e; exact h0
      · cases e
  | bind x v =>
    cases n with
    | nil => simp [after] at e
    | cons s r =>
      simp only [after, Option.some.injEq] at e
      subst e
      refine ⟨by have := h0.len; simpa using this, fun t ht => ?_⟩
      rcases List.mem_cons.mp ht with rfl | ht
      · have q := h.sc s (List.mem_cons_self ..)
        refine ⟨keys_set q.1 x v, ?_⟩
        have := hd s x
        have e2 : (setS s x v).length = (delS s x).length + 1 := by unfold setS delS; simp
        have := q.2
        omega
      · exact h0.sc t (List.mem_cons_of_mem _ ht)
  | drop x =>
    cases n with
    | nil => simp [after] at e
    | cons s r =>
      simp only [after, Option.some.injEq] at e
      subst e
      refine ⟨by have := h0.len; simpa using this, fun t ht => ?_⟩
      rcases List.mem_cons.mp ht with rfl | ht
      · have q := h0.sc s (List.mem_cons_self ..)
        exact ⟨keys_del q.1 x, by have := hd s x; have := q.2; omega⟩
      · exact h0.sc t (List.mem_cons_of_mem _ ht)
theorem SzOk.step {n : Ne} {k : Nat} (h : SzOk n (k + 1)) (st : Stp) (M : Mem) : runP D_after_step [enNe n, enS st] M = .ok (enON (after n st)) M :=
  r_after_step n st M (fun s hs => (h.sc s hs).1) (by have := h.len; omega) (fun s hs => by have := (h.sc s hs).2; omega)
theorem r_outcome (b : Bool) (n : Ne) (q : List Stp) (M : Mem) (h : SzOk n q.length) : runP D_outcome [enNe n, enQ b q] M = .ok (enON (out n q)) M := by
  refine runP_ok ?_ (by simp [noCelL, nc_ne, nc_q]) (nc_on _)
  have key := forL_run (g := gN 3) (b := dTrim [3] (dSeq (dAsg 2 (dCallP 2 D_after_step [] (dCons (dVar 2) (dCons (dVar 3) dNil)))) (dIf (dTst (dBin gIs (dVar 2) (dC .non))) (dRet (dC .non)) dNx)))
    (it := enS) (sO := fun m => [some (enNe n), some (enQ b q), some (enNe m), none]) (mO := fun _ => [])
    (f := fun m st => match after m st with
      | none => .ret .non
      | some m' => .on m') (Inv := fun r m => SzOk m r.length ∧ out m r = out n q) (R := fun t => t = .non ∧ out n q = none) (fun st r m hi => by
      refine ⟨[some (enNe n), some (enQ b q), some (enNe m), some (enS st)], by simp, ?_⟩
      obtain ⟨h1, h2⟩ := hi
      have hs := h1.step st
      cases e : after m st with
      | none =>
        rw [e] at hs
        simp only
        refine ⟨⟨[], ?_⟩, trivial, ?_⟩
        · simp [hs, enON]
        · rw [← h2]; unfold out; rw [e]
      | some m' =>
        rw [e] at hs
        simp only
        refine ⟨.inl ?_, after_sz h1 e, ?_⟩
        · simp [hs, enON]
          simp [enNe, w_kTrim0]
        · rw [← h2]
          conv => rhs; unfold out
          rw [e]) q n ⟨h, rfl⟩
  unfold D_outcome E_outcome
  rcases key with ⟨m, e1, e2⟩ | ⟨t, M', e1, rfl, e2⟩
  · have e3 : out n q = some m := by rw [← e2.2]; rfl
    refine ⟨[], runD_rt ?_⟩
    rw [e3]
    cases b with
    | false =>
      simp [startS, enQ] at e1 ⊢
      rw [e1]; rfl
    | true =>
      simp [startS, enQ] at e1 ⊢
      rw [e1]; rfl
  · refine ⟨M', runD_rt ?_⟩
    rw [e2]
    cases b with
    | false =>
      simp [startS, enQ] at e1 ⊢
      rw [e1]; rfl
    | true =>
      simp [startS, enQ] at e1 ⊢
      rw [e1]; rfl
theorem r_require_sequence (b : Bool) {q : List Stp} (h : SqOk q) (M : Mem) : runP D_require_sequence [enQ b q] M = .ok .non M := by
  have hf := fun M => r_first_invalid b h M
  refine runP_ok ⟨[], runD_nx (s := [some (enQ b q), some .non]) ?_⟩ (by simp [noCelL, nc_q]) rfl
  unfold E_require_sequence
  cases b with
  | false => simp [enQ] at hf; simp [startS, enQ, hf]
  | true => simp [enQ] at hf; simp [startS, enQ, hf]
/-- sequences -/
abbrev Qs := List (Bool × List Stp)
def enQs (l : Qs) : T := .lst (l.map fun p => enQ p.1 p.2)
theorem nc_qs (l : Qs) : noCel (enQs l) = true := by unfold enQs; simp only [noCel]; exact noCelL_map (fun p => nc_q p.1 p.2) l
theorem r_require_sequences {l : Qs} (h : ∀ p ∈ l, SqOk p.2) (M : Mem) : runP D_require_sequences [enQs l] M = .ok .non M := by
  refine runP_ok ⟨[], runD_nx (s := [some (enQs l), none, none, none]) ?_⟩ (by simp [noCelL, nc_qs]) rfl
  have key := forL_foldM (α := Unit) (g := gTup (gsCons (gN 1) (gsCons (gN 2) gsNil))) (b := dTrim [1, 2] (dTry (dDrop (dCallP 1 D_require_sequence [] (dCons (dVar 2) dNil))))) (it := fun p : (Bool × List Stp) × Nat => .tup [.int (p.2 : Int), enQ p.1.1 p.1.2]) (sO := fun _ => [some (enQs l), none, none, none]) (mO := fun _ => []) (f := fun a _ => a) (Inv := fun _ _ => True) l.zipIdx (fun p hp r a _ => by
    refine ⟨[some (enQs l), some (.int (p.2 : Int)), some (enQ p.1.1 p.1.2), none], by simp, ?_, trivial⟩
    have hm : p.1 ∈ l := by
      obtain ⟨s, i⟩ := p
      exact (List.mem_zipIdx' hp).2 ▸ List.getElem_mem _
    simp [r_require_sequence p.1.1 (h p.1 hm), w_kTrim0]) () trivial
  unfold E_require_sequences
  simp [startS, enQs, enum_map] at key ⊢
  rw [key]
/-! equality -/
def eqSc (a b : Sc) : Bool := a.length == b.length && a.all fun p => b.lookup p.1 == some p.2
def allSc : Ne → Ne → Bool
  | x :: xs, y :: ys => eqSc x y && allSc xs ys
  | _, _ => true
def eqON : Option Ne → Option Ne → Bool
  | none, none => true
  | some a, some b => decide (a.length = b.length) && allSc a b
  | _, _ => false
theorem eqD_sc (n : Nat) (b : Sc) : ∀ a : Sc, eqD (eqF true (n + 1)) (b.map fun p => (p.1, T.str p.2)) (a.map fun p => (p.1, T.str p.2)) = some (a.all fun p => b.lookup p.1 == some p.2)
  | [] => rfl
  | p :: r => by
    rw [List.map_cons, List.all_cons]
    unfold eqD
    rw [look_sc, eqD_sc n b r]
    cases b.lookup p.1 with
    | none => rfl
    | some v =>
      simp
      have e : (p.2 == v) = (v == p.2) := by
        by_cases h : p.2 = v
        · rw [h]
        · rw [beq_eq_false_iff_ne.mpr h, beq_eq_false_iff_ne.mpr fun e => h e.symm]
      rw [e]
theorem eqF_sc (n : Nat) (a b : Sc) : eqF true (n + 2) (enSc a) (enSc b) = some (eqSc a b) := by
  unfold enSc
  rw [eqF_dct, eqD_sc]
  simp [eqSc]
theorem allZ_sc (n : Nat) : ∀ a b : Ne, allZ (eqF true (n + 2)) (a.map enSc) (b.map enSc) = some (allSc a b)
  | [], b => by simp [allZ, allSc]
  | _ :: _, [] => by simp [allZ, allSc]
  | x :: xs, y :: ys => by
    rw [List.map_cons, List.map_cons]
    unfold allZ
    rw [eqF_sc, allZ_sc n xs ys]
    simp [allSc]
theorem eqF_on (n : Nat) (a b : Option Ne) : eqF true (n + 3) (enON a) (enON b) = some (eqON a b) := by
  cases a with
  | none => cases b <;> simp [enON, enNe, eqON]
  | some a =>
    cases b with
    | none => simp [enON, enNe, eqON]
    | some b =>
      simp only [enON, enNe, eqON]
      rw [eqF_lst, List.length_map, List.length_map]
      by_cases h : a.length = b.length
      · rw [if_pos h, allZ_sc]; simp [h]
      · rw [if_neg h]; simp [h]
end G
end
section
set_option Elab.async false
set_option linter.all false
set_option maxRecDepth 100000
set_option maxHeartbeats 4000000
namespace G
open PySem PySem.Spec PyProof.Rows L2 Z PySem.SeqAt
theorem eq_on_top (a b : Option Ne) : eqF true (eqDepth + 1) (enON a) (enON b) = some (eqON a b) := eqF_on 28 a b
theorem eq_on_count (a b : Option Ne) : eqF true eqDepth (enON a) (enON b) = some (eqON a b) := eqF_on 27 a b
theorem der_on (a : Option Ne) (M : Mem) : der M (enON a) = enON a := by cases a <;> rfl
/-- observations -/
abbrev Obs := List (Ne × Option Ne)
def enOb (p : Ne × Option Ne) : T := .tup [enNe p.1, enON p.2]
def enObs (o : Obs) : T := .lst (o.map enOb)
theorem nc_ob (p : Ne × Option Ne) : noCel (enOb p) = true := by simp [enOb, noCel, noCelL, nc_ne, nc_on]
theorem nc_obs (o : Obs) : noCel (enObs o) = true := by unfold enObs; simp only [noCel]; exact noCelL_map nc_ob o
structure NOk (n : Ne) (k : Nat) : Prop where
  ok : NeOk n
  sz : SzOk n k
theorem NOk.req {n : Ne} {k : Nat} (h : NOk n k) (M : Mem) : runP D_require_nest [enNe n] M = .ok .non M :=
  r_require_nest h.ok (by have := h.sz.len; omega) (fun s hs => by have := (h.sz.sc s hs).2; omega) M
structure ObOk (o : Obs) (k : Nat) : Prop where
  len : o.length < LIM
  bef : ∀ p ∈ o, NOk p.1 k
  aft : ∀ p ∈ o, ∀ m, p.2 = some m → NOk m 0
structure QsOk (l : Qs) (k : Nat) : Prop where
  len : l.length < LIM
  ok : ∀ p ∈ l, SqOk p.2
  sz : ∀ p ∈ l, p.2.length ≤ k
def expl (l : Qs) (o : Obs) : List Nat := (l.zipIdx.filter fun p => o.all fun ob => eqON (out ob.1 p.1.2) ob.2).map (·.2)
def enI (l : List Nat) : List T := l.map fun (i : Nat) => T.int (i : Int)
theorem enI_app (l : List Nat) (i : Nat) : enI (l ++ [i]) = enI l ++ [T.int (i : Int)] := by unfold enI; simp
@[simp] theorem enI_len (l : List Nat) : (enI l).length = l.length := by unfold enI; simp
theorem lp_obs {l : Qs} {o : Obs} {k : Nat} (ho : ObOk o k) : forL (gTup (gsCons (gN 2) (gsCons (gN 3) gsNil))) (dTrim [2, 3] (dSeq (dDrop (dCallP 1 D_require_nest [] (dCons (dVar 2) dNil))) (dIf (dTst (dBin gIsN (dVar 3) (dC .non))) (dDrop (dCallP 1 D_require_nest [] (dCons (dVar 3) dNil))) dNx)))
    (o.map enOb) [some (enQs l), some (enObs o), none, none, none, none, none] [] = .nx [some (enQs l), some (enObs o), none, none, none, none, none] [] := by
  refine (forL_foldM (α := Unit) (it := enOb) (sO := fun _ => [some (enQs l), some (enObs o), none, none, none, none, none]) (mO := fun _ => []) (f := fun a _ => a) (Inv := fun _ _ => True) o (fun p hp r a _ => ?_) () trivial).1
  refine ⟨[some (enQs l), some (enObs o), some (enNe p.1), some (enON p.2), none, none, none], by simp [enOb], ?_, trivial⟩
  have h1 := (ho.bef p hp).req
  cases e : p.2 with
  | none => simp [h1, enON, w_kTrim0]
  | some m =>
    have h2 := (ho.aft p hp m e).req
    have e2 : gIsN (enNe m) .non [] = some (.bl true, []) := rfl
    simp [h1, enON, h2, e2, w_kTrim0]
theorem lp_expl {l : Qs} {o : Obs} {k : Nat} (hl : QsOk l k) (ho : ObOk o k) : forL (gTup (gsCons (gN 5) (gsCons (gN 6) gsNil))) (dTrim [5, 6] (dIf (dTst (dCall gAll (dCons (dLc false (dWalk (dVar 1)) (gTup (gsCons (gN 2) (gsCons (gN 3) gsNil))) tYesD (dBin gEq (dCallP 2 D_outcome [] (dCons (dVar 2) (dCons (dVar 6) dNil))) (dVar 3)) [2, 3]) dNil))) (dDrop (dMeth "list" gAppend (dVar 4) (dCons (dVar 5) dNil))) dNx))
    (l.zipIdx.map fun p => .tup [.int (p.2 : Int), enQ p.1.1 p.1.2]) [some (enQs l), some (enObs o), none, none, some (.cel 0), none, none] [.live (.lst [])] = .nx [some (enQs l), some (enObs o), none, none, some (.cel 0), none, none] [.live (.lst (enI (expl l o)))] := by
  have h := forL_foldM (α := List Nat) (g := gTup (gsCons (gN 5) (gsCons (gN 6) gsNil))) (b := dTrim [5, 6] (dIf (dTst (dCall gAll (dCons (dLc false (dWalk (dVar 1)) (gTup (gsCons (gN 2) (gsCons (gN 3) gsNil))) tYesD (dBin gEq (dCallP 2 D_outcome [] (dCons (dVar 2) (dCons (dVar 6) dNil))) (dVar 3)) [2, 3]) dNil))) (dDrop (dMeth "list" gAppend (dVar 4) (dCons (dVar 5) dNil))) dNx))
    (it := fun p : (Bool × List Stp) × Nat => .tup [.int (p.2 : Int), enQ p.1.1 p.1.2]) (sO := fun _ => [some (enQs l), some (enObs o), none, none, some (.cel 0), none, none]) (mO := fun acc => [.live (.lst (enI acc))])
    (f := fun acc p => if (o.all fun ob => eqON (out ob.1 p.1.2) ob.2) = true then acc ++ [p.2] else acc) (Inv := fun r acc => r.length + acc.length < LIM) l.zipIdx (fun p hp r acc hi => by
      refine ⟨[some (enQs l), some (enObs o), none, none, some (.cel 0), some (.int (p.2 : Int)), some (enQ p.1.1 p.1.2)], by simp, ?_⟩
      have hm : p.1 ∈ l := by
        obtain ⟨s, i⟩ := p
        exact (List.mem_zipIdx' hp).2 ▸ List.getElem_mem _
      have lc := lcL_mapM (g := gTup (gsCons (gN 2) (gsCons (gN 3) gsNil))) (tt := tYesD) (de := dBin gEq (dCallP 2 D_outcome [] (dCons (dVar 2) (dCons (dVar 6) dNil))) (dVar 3)) (s0 := [some (enQs l), some (enObs o), none, none, some (.cel 0), some (.int (p.2 : Int)), some (enQ p.1.1 p.1.2)])
        (M := [.live (.lst (enI acc))]) (it := enOb) (p := fun _ => true) (f := fun ob => T.bl (eqON (out ob.1 p.1.2) ob.2)) o (fun ob hob => by
          refine ⟨[some (enQs l), some (enObs o), some (enNe ob.1), some (enON ob.2), some (.cel 0), some (.int (p.2 : Int)), some (enQ p.1.1 p.1.2)], by simp [enOb], by simp, fun _ => ?_⟩
          simp [r_outcome p.1.1 ob.1 p.1.2 _ ((ho.bef ob hob).sz.mono (hl.sz p.1 hm)), der_on, eq_on_top])
      have ha := all_map (fun ob : Ne × Option Ne => eqON (out ob.1 p.1.2) ob.2) (o.filter fun _ => true) [.live (.lst (enI acc))]
      have hfil : (o.filter fun _ => true) = o := List.filter_eq_self.mpr fun _ _ => rfl
      have hlen := ho.len
      have hi2 : acc.length < 16777216 := by have := hi; simp at this; omega
      simp at hlen
      simp only [hfil] at lc ha
      cases e : (o.all fun ob => eqON (out ob.1 p.1.2) ob.2) with
      | true =>
        rw [e] at ha
        refine ⟨?_, by simp only [if_true]; simp at hi ⊢; omega⟩
        simp [enObs, Nat.le_of_lt hlen] at lc ⊢
        rw [lc]
        simp [ha, hi2, w_kTrim0, enI_app]
      | false =>
        rw [e] at ha
        refine ⟨?_, by simp at hi ⊢; omega⟩
        simp [enObs, Nat.le_of_lt hlen] at lc ⊢
        rw [lc]
        simp [ha, w_kTrim0]) [] (by simpa using hl.len)
  have e2 : l.zipIdx.foldl (fun acc p => if (o.all fun ob => eqON (out ob.1 p.1.2) ob.2) = true then acc ++ [p.2] else acc) [] = expl l o := by
    unfold expl
    have gen : ∀ (z : List ((Bool × List Stp) × Nat)) (acc : List Nat), z.foldl (fun acc p => if (o.all fun ob => eqON (out ob.1 p.1.2) ob.2) = true then acc ++ [p.2] else acc) acc = acc ++ (z.filter fun p => o.all fun ob => eqON (out ob.1 p.1.2) ob.2).map (·.2) := by
      intro z
      induction z with
      | nil => intro acc; simp
      | cons a r ih =>
        intro acc
        rw [List.foldl_cons, ih]
        cases e : (o.all fun ob => eqON (out ob.1 a.1.2) ob.2) with
        | true => rw [if_pos rfl, List.filter_cons_of_pos (by simpa using e)]; simp
        | false => rw [if_neg (by simp), List.filter_cons_of_neg (by simpa using e)]
    exact (gen l.zipIdx []).trans (by simp)
  rw [e2] at h
  exact h.1
theorem r_explaining_c {l : Qs} {o : Obs} {k : Nat} (hl : QsOk l k) (ho : ObOk o k) (M : Mem) : runN D_explaining_c [enQs l, enObs o] M = .ok (.cel M.length) (M ++ [.live (.lst (enI (expl l o)))]) := by
  refine runN_ok ⟨0, [.live (.lst (enI (expl l o)))], runD_rt ?_, rfl⟩ (by simp [noCelL, nc_qs, nc_obs]) (by simp only [noCel]; exact noCelL_map (fun _ => by simp only [noCel]) _)
  unfold E_explaining_c
  have h1 := fun M => r_require_sequences hl.ok M
  have h2 := lp_obs (l := l) ho
  have h3 := lp_expl hl ho
  have hle : (enQs l) = .lst (l.map fun p => enQ p.1 p.2) := rfl
  simp [startS, h1]
  simp only [enObs] at h2 h3 ⊢
  simp [h2]
  simp only [enQs] at h3 ⊢
  simp [enum_map]
  rw [h3]
  simp
theorem r_explaining {l : Qs} {o : Obs} {k : Nat} (hl : QsOk l k) (ho : ObOk o k) (M : Mem) : runP D_explaining [enQs l, enObs o] M = .ok (.lst (enI (expl l o))) M := by
  have nc : noCelL (enI (expl l o)) = true := noCelL_map (fun _ => by simp only [noCel]) _
  have hd : depL (enI (expl l o)) ≤ 18 := by
    have := depL_map (k := 1) (f := fun i : Nat => T.int (i : Int)) (fun _ => by simp [dep]) (expl l o)
    unfold enI; omega
  refine runP_ok ⟨[.dead], runD_rt ?_⟩ (by simp [noCelL, nc_qs, nc_obs]) (by simp only [noCel]; exact nc)
  unfold E_explaining
  have h1 := fun M => r_require_sequences hl.ok M
  have h2 := lp_obs (l := l) ho
  have h3 := lp_expl hl ho
  simp [startS, h1]
  simp only [enObs] at h2 h3 ⊢
  simp [h2]
  simp only [enQs] at h3 ⊢
  simp [enum_map]
  rw [h3]
  simp [frz_lst0 nc hd]
end G
end
section
set_option Elab.async false
set_option linter.all false
set_option maxRecDepth 100000
set_option maxHeartbeats 4000000
namespace G
open PySem PySem.Spec PyProof.Rows L2 Z PySem.SeqAt
theorem ints_map : ∀ l : List Int, intsT (l.map T.int) = some l
  | [] => rfl
  | x :: r => by rw [List.map_cons]; unfold intsT; rw [ints_map r]; rfl
theorem cnt_on (y : Option Ne) : ∀ rs : List (Option Ne), cntZ (fun x => eqF true eqDepth x (enON y)) (rs.map enON) = some (rs.countP fun x => eqON x y)
  | [] => rfl
  | x :: r => by
    rw [List.map_cons]
    unfold cntZ
    rw [cnt_on y r, eq_on_count]
    simp only [List.countP_cons]
theorem count_on (rs : List (Option Ne)) (y : Option Ne) (M : Mem) : gCount (.lst (rs.map enON)) [enON y] M = some (.int ((rs.countP fun x => eqON x y : Nat) : Int), M) := by
  unfold gCount Z.listOf
  simp only [der_lst', cnt_on]
  rfl
def cnts (rs : List (Option Ne)) : List Int := rs.map fun y => ((rs.countP fun x => eqON x y : Nat) : Int)
def grp (rs : List (Option Ne)) : Int := match cnts rs with
  | [] => 0
  | i :: r => maxI (i :: r)
theorem lc_cnt (rs : List (Option Ne)) (M : Mem) : lcL (gN 1) tYesD (dMeth "list" gCount (dVar 0) (dCons (dVar 1) dNil)) [some (.lst (rs.map enON)), none] (rs.map enON) M = .ok ((cnts rs).map T.int) M := by
  have key := lcL_mapM (g := gN 1) (tt := tYesD) (de := dMeth "list" gCount (dVar 0) (dCons (dVar 1) dNil)) (s0 := [some (.lst (rs.map enON)), none]) (M := M) (it := enON) (p := fun _ => true) (f := fun y => T.int ((rs.countP fun x => eqON x y : Nat) : Int)) rs (fun y hy =>
    ⟨[some (.lst (rs.map enON)), some (enON y)], by simp, by simp, fun _ => by simp [count_on]⟩)
  rw [key, List.filter_eq_self.mpr fun _ _ => rfl]
  unfold cnts
  rw [List.map_map]; rfl
theorem nc_ons (rs : List (Option Ne)) : noCel (.lst (rs.map enON)) = true := by simp only [noCel]; exact noCelL_map nc_on rs
theorem r_largest_group (rs : List (Option Ne)) (h : rs.length ≤ LIM) (M : Mem) : runP D_largest_group [.lst (rs.map enON)] M = .ok (.int (grp rs)) M := by
  refine runP_ok ⟨[], runD_rt ?_⟩ (by simp [noCelL, nc_ons]) rfl
  unfold E_largest_group
  simp at h
  simp [startS, h, lc_cnt]
  unfold kMaxD2 Z.listOf grp
  simp only [der_lst', Option.bind_some, ints_map]
  cases cnts rs <;> rfl
/-! telling -/
def sizes (qs : List (List Stp)) (ns : List Ne) : List Int := ns.map fun n => grp (qs.map fun q => out n q)
def tel (l : List Int) : T := .tup [.int ((l.findIdx fun x => x == minI l : Nat) : Int), .int (minI l)]
theorem find_int (y : Int) : ∀ l : List Int, ((l.map T.int).findIdx? fun x => (eqF false 1 x (.int y)).getD false) = l.findIdx? fun x => x == y
  | [] => rfl
  | x :: r => by
    rw [List.map_cons, List.findIdx?_cons, List.findIdx?_cons, find_int y r]
    rfl
theorem flats_ints : ∀ l : List Int, (l.map T.int).all flatT = true
  | [] => rfl
  | x :: r => by rw [List.map_cons, List.all_cons, flats_ints r]; rfl
theorem index_min (l : List Int) (h : 0 < l.length) (M : Mem) : gIndex (.lst (l.map T.int)) [.int (minI l)] M = some (.int ((l.findIdx fun x => x == minI l : Nat) : Int), M) := by
  unfold gIndex Z.listOf
  simp only [der_lst', flats_ints, flatT, Bool.and_self, if_true, find_int]
  have hx : ∃ x ∈ l, (x == minI l) = true := ⟨minI l, minI_mem h, by simp⟩
  rw [List.findIdx?_eq_some_of_exists hx]
  rfl
theorem min_list (l : List Int) (h : 0 < l.length) (M : Mem) : gMin [.lst (l.map T.int)] M = some (.int (minI l), M) := by
  unfold gMin gMin1 Z.listOf
  simp only [der_lst', Option.bind_some, ints_map]
  cases l with
  | nil => simp at h
  | cons i r => rfl
theorem max_list (l : List Int) (h : 0 < l.length) (M : Mem) : gMax [.lst (l.map T.int)] M = some (.int (maxI l), M) := by
  unfold gMax gMax1 Z.listOf
  simp only [der_lst', Option.bind_some, ints_map]
  cases l with
  | nil => simp at h
  | cons i r => rfl
theorem lc_out {l : Qs} {k : Nat} (hl : QsOk l k) {n : Ne} (hn : SzOk n k) (ns : T) (M : Mem) : lcL (gN 4) tYesD (dCallP 2 D_outcome [] (dCons (dVar 2) (dCons (dVar 4) dNil))) [some (enQs l), some ns, some (enNe n), none, none] (l.map fun p => enQ p.1 p.2) M = .ok ((l.map fun p => out n p.2).map enON) M := by
  have key := lcL_mapM (g := gN 4) (tt := tYesD) (de := dCallP 2 D_outcome [] (dCons (dVar 2) (dCons (dVar 4) dNil))) (s0 := [some (enQs l), some ns, some (enNe n), none, none]) (M := M) (it := fun p : Bool × List Stp => enQ p.1 p.2) (p := fun _ => true) (f := fun p => enON (out n p.2)) l (fun p hp =>
    ⟨[some (enQs l), some ns, some (enNe n), none, some (enQ p.1 p.2)], by simp, by simp, fun _ => by simp [r_outcome p.1 n p.2 _ (hn.mono (hl.sz p hp))]⟩)
  rw [key, List.filter_eq_self.mpr fun _ _ => rfl, List.map_map]; rfl
structure NsOk (ns : List Ne) (k : Nat) : Prop where
  len : ns.length < LIM
  ok : ∀ n ∈ ns, NOk n k
def enNs (ns : List Ne) : T := .lst (ns.map enNe)
theorem nc_ns (ns : List Ne) : noCel (enNs ns) = true := by unfold enNs; simp only [noCel]; exact noCelL_map nc_ne ns
def telT (qs : List (List Stp)) (ns : List Ne) : T := if qs.length = 0 ∨ ns.length = 0 then .tup [.non, .int 0] else tel (sizes qs ns)
theorem nc_telT (qs : List (List Stp)) (ns : List Ne) : noCel (telT qs ns) = true := by
  unfold telT tel; split <;> simp [noCel, noCelL]
theorem r_telling {l : Qs} {ns : List Ne} {k : Nat} (hl : QsOk l k) (hn : NsOk ns k) (M : Mem) : runP D_telling [enQs l, enNs ns] M = .ok (telT (l.map (·.2)) ns) M := by
  refine runP_ok ⟨[], runD_rt ?_⟩ (by simp [noCelL, nc_qs, nc_ns]) (nc_telT _ _)
  have h1 := fun M => r_require_sequences hl.ok M
  have h2 : forL (gN 2) (dTrim [2] (dDrop (dCallP 1 D_require_nest [] (dCons (dVar 2) dNil)))) (ns.map enNe) [some (enQs l), some (enNs ns), none, none, none] [] = .nx [some (enQs l), some (enNs ns), none, none, none] [] :=
    (forL_foldM (α := Unit) (it := enNe) (sO := fun _ => [some (enQs l), some (enNs ns), none, none, none]) (mO := fun _ => []) (f := fun a _ => a) (Inv := fun _ _ => True) ns (fun n hp r a _ =>
      ⟨[some (enQs l), some (enNs ns), some (enNe n), none, none], by simp, by simp [(hn.ok n hp).req, w_kTrim0], trivial⟩) () trivial).1
  have h3 : lcL (gN 2) tYesD (dCallP 1 D_largest_group [] (dCons (dLc false (dWalk (dVar 0)) (gN 4) tYesD (dCallP 2 D_outcome [] (dCons (dVar 2) (dCons (dVar 4) dNil))) [4]) dNil)) [some (enQs l), some (enNs ns), none, none, none] (ns.map enNe) [] = .ok ((sizes (l.map (·.2)) ns).map T.int) [] := by
    have key := lcL_mapM (g := gN 2) (tt := tYesD) (de := dCallP 1 D_largest_group [] (dCons (dLc false (dWalk (dVar 0)) (gN 4) tYesD (dCallP 2 D_outcome [] (dCons (dVar 2) (dCons (dVar 4) dNil))) [4]) dNil)) (s0 := [some (enQs l), some (enNs ns), none, none, none]) (M := []) (it := enNe) (p := fun _ => true) (f := fun n => T.int (grp (l.map fun p => out n p.2))) ns (fun n hp => by
      refine ⟨[some (enQs l), some (enNs ns), some (enNe n), none, none], by simp, by simp, fun _ => ?_⟩
      have e := lc_out hl (hn.ok n hp).sz (enNs ns) []
      have hg := r_largest_group (l.map fun p => out n p.2) (by rw [List.length_map]; exact Nat.le_of_lt hl.len) []
      have hlen := hl.len
      simp at hlen
      simp only [enQs] at e ⊢
      simp [Nat.le_of_lt hlen]
      simp only [List.map_map] at e
      rw [e]
      rw [List.map_map] at hg
      simp [hg])
    rw [key, List.filter_eq_self.mpr fun _ _ => rfl]
    unfold sizes
    rw [List.map_map]
    simp only [List.map_map]
    rfl
  unfold E_telling telT
  have hl1 := hl.len
  have hl2 := hn.len
  simp at hl1 hl2
  simp only [enNs] at h2 h3 ⊢
  simp [startS, h1]
  rw [h2]
  simp only [enQs] at h3 ⊢
  cases l with
  | nil => simp
  | cons a r =>
    have f0 : ∀ z : Nat, ((z : Int) + 1 == 0) = false := fun z => by rw [beq_eq_false_iff_ne]; omega
    cases ns with
    | nil => simp [f0]
    | cons n r2 =>
      have hp : 0 < (sizes (((a :: r) : Qs).map (·.2)) (n :: r2)).length := by simp [sizes]
      have i1 := index_min _ hp []
      have i2 := min_list _ hp []
      simp at hl2 h3 i1 i2
      simp [f0, Nat.le_of_lt hl2]
      rw [h3]
      simp [i1, i2, tel]
end G
end
section
set_option Elab.async false
set_option linter.all false
set_option maxRecDepth 100000
set_option maxHeartbeats 4000000
namespace G
open PySem PySem.Spec PyProof.Rows L2 Z PySem.SeqAt
/-! scopes as functions -/
theorem mem_of_look {s : Sc} {k v : Str} (h : s.lookup k = some v) : (k, v) ∈ s := by
  induction s with
  | nil => simp at h
  | cons p r ih =>
    obtain ⟨a, b⟩ := p
    rw [List.lookup_cons] at h
    cases e : k == a with
    | true =>
      rw [e] at h
      have e1 : k = a := eq_of_beq e
      have e2 : b = v := by simpa using h
      rw [e1, e2]; exact List.mem_cons_self ..
    | false =>
      rw [e] at h
      exact List.mem_cons_of_mem _ (ih h)
theorem look_iff {s : Sc} (h : KeysOk s) {k v : Str} : s.lookup k = some v ↔ (k, v) ∈ s := ⟨mem_of_look, lookup_of_mem h⟩
theorem look_none {s : Sc} {k : Str} : s.lookup k = none ↔ k ∉ s.map (·.1) := by
  constructor
  · intro h c
    obtain ⟨p, hp, e⟩ := List.mem_map.mp c
    induction s with
    | nil => simp at hp
    | cons q r ih =>
      rw [List.lookup_cons] at h
      cases e1 : k == q.1 with
      | true => rw [e1] at h; simp at h
      | false =>
        rw [e1] at h
        rcases List.mem_cons.mp hp with rfl | hp
        · rw [e] at e1; simp at e1
        · exact ih h (List.mem_map.mpr ⟨p, hp, e⟩) hp
  · intro h
    cases e : s.lookup k with
    | none => rfl
    | some v => exact absurd (List.mem_map.mpr ⟨(k, v), mem_of_look e, rfl⟩) h
def lk (s : Sc) : Str → Option Str := fun k => s.lookup k
def den (n : Ne) : List (Str → Option Str) := n.map lk
theorem keys_sub {s t : Sc} (h : ∀ p ∈ s, t.lookup p.1 = some p.2) : (s.map (·.1)) ⊆ (t.map (·.1)) := fun k hk => by
  obtain ⟨p, hp, e⟩ := List.mem_map.mp hk
  rw [← e]
  exact List.mem_map.mpr ⟨_, mem_of_look (h p hp), rfl⟩
theorem eqSc_iff {s t : Sc} (hs : KeysOk s) (ht : KeysOk t) : eqSc s t = true ↔ lk s = lk t := by
  unfold eqSc
  rw [Bool.and_eq_true, List.all_eq_true]
  constructor
  · rintro ⟨hl, ha⟩
    have hl : s.length = t.length := eq_of_beq hl
    have ha : ∀ p ∈ s, t.lookup p.1 = some p.2 := fun p hp => eq_of_beq (ha p hp)
    funext k
    unfold lk
    cases e : s.lookup k with
    | some v => exact (ha _ (mem_of_look e)).symm
    | none =>
      cases e2 : t.lookup k with
      | none => rfl
      | some w =>
        exfalso
        have h1 : (k :: s.map (·.1)) ⊆ t.map (·.1) := fun x hx => by
          rcases List.mem_cons.mp hx with rfl | hx
          · exact List.mem_map.mpr ⟨_, mem_of_look e2, rfl⟩
          · exact keys_sub ha hx
        have h2 : (k :: s.map (·.1)).Nodup := List.nodup_cons.mpr ⟨look_none.mp e, hs⟩
        have := List.Nodup.length_le_of_subset h2 h1
        simp at this
        omega
  · intro h
    have h1 : ∀ p ∈ s, t.lookup p.1 = some p.2 := fun p hp => by
      have := congrFun h p.1
      unfold lk at this
      rw [← this]; exact lookup_of_mem hs hp
    have h2 : ∀ p ∈ t, s.lookup p.1 = some p.2 := fun p hp => by
      have := congrFun h p.1
      unfold lk at this
      rw [this]; exact lookup_of_mem ht hp
    have l1 := List.Nodup.length_le_of_subset hs (keys_sub h1)
    have l2 := List.Nodup.length_le_of_subset ht (keys_sub h2)
    simp at l1 l2
    exact ⟨by simp; omega, fun p hp => by rw [h1 p hp]; simp⟩
abbrev NeK (n : Ne) : Prop := ∀ s ∈ n, KeysOk s
theorem allSc_iff : ∀ {a b : Ne}, NeK a → NeK b → a.length = b.length → (allSc a b = true ↔ den a = den b)
  | [], [], _, _, _ => by simp [allSc, den]
  | [], _ :: _, _, _, h => by simp at h
  | _ :: _, [], _, _, h => by simp at h
  | x :: xs, y :: ys, ha, hb, h => by
    have ih := allSc_iff (fun s hs => ha s (List.mem_cons_of_mem _ hs)) (fun s hs => hb s (List.mem_cons_of_mem _ hs)) (by simpa using h)
    unfold allSc
    rw [Bool.and_eq_true, eqSc_iff (ha x (List.mem_cons_self ..)) (hb y (List.mem_cons_self ..)), ih]
    simp [den]
def denO (n : Option Ne) : Option (List (Str → Option Str)) := n.map den
def NeKO (n : Option Ne) : Prop := ∀ m, n = some m → NeK m
theorem eqON_iff {a b : Option Ne} (ha : NeKO a) (hb : NeKO b) : eqON a b = true ↔ denO a = denO b := by
  cases a with
  | none => cases b <;> simp [eqON, denO]
  | some a =>
    cases b with
    | none => simp [eqON, denO]
    | some b =>
      simp only [eqON, denO, Option.map_some, Option.some.injEq, Bool.and_eq_true, decide_eq_true_eq]
      constructor
      · rintro ⟨h1, h2⟩
        exact (allSc_iff (ha a rfl) (hb b rfl) h1).mp h2
      · intro h
        have hl : a.length = b.length := by
          have := congrArg List.length h
          simpa [den] using this
        exact ⟨hl, (allSc_iff (ha a rfl) (hb b rfl) hl).mpr h⟩
/-- equality depends on what the nests are as functions -/
theorem eqON_congr {a a' b : Option Ne} (ha : NeKO a) (ha' : NeKO a') (hb : NeKO b) (h : denO a = denO a') : eqON a b = eqON a' b := by
  rw [Bool.eq_iff_iff, eqON_iff ha hb, eqON_iff ha' hb, h]
theorem eqON_congr2 {a a' b b' : Option Ne} (ha : NeKO a) (ha' : NeKO a') (hb : NeKO b) (hb' : NeKO b') (h : denO a = denO a') (h2 : denO b = denO b') : eqON a b = eqON a' b' := by
  rw [Bool.eq_iff_iff, eqON_iff ha hb, eqON_iff ha' hb', h, h2]
/-! the law's own steps -/
def lleft (s : Sc) (x : Str) : Sc := ((sortS (s.map (·.1))).filter fun k => !(k == x)).map fun k => (k, (s.lookup k).getD (.ofString ""))
def lset (s : Sc) (x v : Str) : Sc := lleft s x ++ [(x, v)]
theorem sort_perm (l : List Str) : (sortS l).Perm l := List.mergeSort_perm _ _
theorem keys_left {s : Sc} (h : KeysOk s) (x : Str) : KeysOk (lleft s x) := by
  unfold KeysOk lleft
  rw [List.map_map]
  have e : ((fun p : Str × Str => p.1) ∘ fun k => (k, (s.lookup k).getD (.ofString ""))) = id := rfl
  rw [e, List.map_id]
  exact List.Sublist.nodup (List.filter_sublist) ((sort_perm _).nodup_iff.mpr h)
theorem mem_left {s : Sc} {x k v : Str} : (k, v) ∈ lleft s x ↔ k ≠ x ∧ s.lookup k = some v := by
  unfold lleft
  rw [List.mem_map]
  constructor
  · rintro ⟨k', hk, e⟩
    rw [List.mem_filter, (sort_perm _).mem_iff] at hk
    cases e
    refine ⟨by simpa using hk.2, ?_⟩
    cases e2 : s.lookup k with
    | some w => rfl
    | none => exact absurd hk.1 (look_none.mp e2)
  · rintro ⟨h1, h2⟩
    refine ⟨k, ?_, by rw [h2]; rfl⟩
    rw [List.mem_filter, (sort_perm _).mem_iff]
    exact ⟨List.mem_map.mpr ⟨_, mem_of_look h2, rfl⟩, by simpa using h1⟩
theorem lk_left {s : Sc} (h : KeysOk s) (x : Str) : lk (lleft s x) = fun k => if k = x then none else s.lookup k := by
  funext k
  unfold lk
  have hk := keys_left h x
  by_cases e : k = x
  · rw [if_pos e]
    cases e2 : (lleft s x).lookup k with
    | none => rfl
    | some v => exact absurd e (mem_left.mp (mem_of_look e2)).1
  · rw [if_neg e]
    cases e2 : (lleft s x).lookup k with
    | some v => exact (mem_left.mp (mem_of_look e2)).2.symm
    | none =>
      cases e3 : s.lookup k with
      | none => rfl
      | some v =>
        rw [lookup_of_mem hk (mem_left.mpr ⟨e, e3⟩)] at e2
        cases e2
theorem lk_app {s : Sc} {x v : Str} (h : x ∉ s.map (·.1)) : lk (s ++ [(x, v)]) = fun k => if k = x then some v else s.lookup k := by
  funext k
  unfold lk
  induction s with
  | nil =>
    rw [List.nil_append, List.lookup_cons]
    by_cases e : k = x
    · rw [if_pos e]; simp [e]
    · rw [if_neg e]; simp [beq_eq_false_iff_ne.mpr e]
  | cons p r ih =>
    rw [List.map_cons, List.mem_cons, not_or] at h
    rw [List.cons_append, List.lookup_cons, List.lookup_cons, ih h.2]
    cases e : k == p.1 with
    | true =>
      have e1 : k = p.1 := eq_of_beq e
      have ne : ¬ k = x := fun z => h.1 (by rw [← z, e1])
      simp [ne]
    | false => rfl
theorem not_left (s : Sc) (x : Str) : x ∉ (lleft s x).map (·.1) := fun c => by
  obtain ⟨p, hp, e⟩ := List.mem_map.mp c
  exact (mem_left.mp (show (p.1, p.2) ∈ lleft s x from hp)).1 e
theorem keys_lset {s : Sc} (h : KeysOk s) (x v : Str) : KeysOk (lset s x v) := by
  have h1 := keys_left h x
  have h2 := not_left s x
  unfold KeysOk at *
  unfold lset
  rw [List.map_append, List.nodup_append]
  refine ⟨h1, by simp, fun a ha b hb e => ?_⟩
  have hb' : b = x := by simpa using hb
  rw [e, hb'] at ha
  exact h2 ha
theorem lk_del (s : Sc) (x : Str) : lk (delS s x) = fun k => if k = x then none else s.lookup k := by
  funext k
  unfold lk delS
  induction s with
  | nil => simp
  | cons p r ih =>
    obtain ⟨a, b⟩ := p
    by_cases e : a = x
    · rw [List.filter_cons_of_neg (by simp [e]), ih, List.lookup_cons]
      by_cases e2 : k = x
      · rw [if_pos e2, if_pos e2]
      · rw [if_neg e2, if_neg e2, e, beq_eq_false_iff_ne.mpr e2]
    · rw [List.filter_cons_of_pos (by simp [e]), List.lookup_cons, ih, List.lookup_cons]
      by_cases e2 : k = a
      · rw [e2, beq_self_eq_true]
        simp [e]
      · rw [beq_eq_false_iff_ne.mpr e2]
theorem lk_set (s : Sc) (x v : Str) : lk (setS s x v) = fun k => if k = x then some v else s.lookup k := by
  have h := lk_app (s := delS s x) (x := x) (v := v) (not_del s x)
  unfold setS
  unfold delS at h
  rw [h]
  funext k
  by_cases e : k = x
  · rw [if_pos e, if_pos e]
  · rw [if_neg e, if_neg e]
    have := congrFun (lk_del s x) k
    unfold lk delS at this
    rw [this, if_neg e]
theorem lk_lset {s : Sc} (hs : KeysOk s) (x v : Str) : lk (lset s x v) = fun k => if k = x then some v else s.lookup k := by
  have h := lk_app (s := lleft s x) (x := x) (v := v) (not_left s x)
  unfold lset
  rw [h]
  funext k
  by_cases e : k = x
  · rw [if_pos e, if_pos e]
  · rw [if_neg e, if_neg e]
    have := congrFun (lk_left hs x) k
    unfold lk at this
    rw [this, if_neg e]
def lafter (n : Ne) : Stp → Option Ne
  | .bind x v => (match n with
    | [] => none
    | s :: r => some (lset s x v :: r))
  | .drop x => (match n with
    | [] => none
    | s :: r => some (lleft s x :: r))
  | st => after n st
def visD (d : List (Str → Option Str)) (x : Str) : Option Str := d.findSome? fun f => f x
theorem vis_den (n : Ne) (x : Str) : vis n x = visD (den n) x := by
  unfold vis visD den
  rw [List.findSome?_map]
  rfl
/-- the steps of both do the same -/
theorem after_den {n m : Ne} (hn : NeK n) (hm : NeK m) (h : den n = den m) (st : Stp) : denO (after n st) = denO (lafter m st) := by
  have hv : ∀ x, vis n x = vis m x := fun x => by rw [vis_den, vis_den, h]
  have hc : (n = [] ∧ m = []) ∨ ∃ s r t q, n = s :: r ∧ m = t :: q ∧ lk s = lk t ∧ den r = den q := by
    cases n with
    | nil =>
      cases m with
      | nil => exact .inl ⟨rfl, rfl⟩
      | cons t q => simp [den] at h
    | cons s r =>
      cases m with
      | nil => simp [den] at h
      | cons t q =>
        simp only [den, List.map_cons, List.cons.injEq] at h
        exact .inr ⟨s, r, t, q, rfl, rfl, h.1, h.2⟩
  cases st with
  | op => simp only [after, lafter, denO, Option.map_some, den, List.map_cons]; unfold den at h; rw [h]
  | expect x v =>
    simp only [after, lafter]
    rw [hv x]
    split
    · simp [denO, h]
    · rfl
  | free x =>
    simp only [after, lafter]
    rw [hv x]
    split
    · simp [denO, h]
    · rfl
  | cl =>
    rcases hc with ⟨rfl, rfl⟩ | ⟨s, r, t, q, rfl, rfl, h1, h2⟩
    · rfl
    · simp [after, lafter, denO, h2]
  | owned x v =>
    rcases hc with ⟨rfl, rfl⟩ | ⟨s, r, t, q, rfl, rfl, h1, h2⟩
    · rfl
    · have e : s.lookup x = t.lookup x := congrFun h1 x
      simp only [after, lafter]
      rw [e]
      split
      · simp [denO, h]
      · rfl
  | unowned x =>
    rcases hc with ⟨rfl, rfl⟩ | ⟨s, r, t, q, rfl, rfl, h1, h2⟩
    · rfl
    · have e : s.lookup x = t.lookup x := congrFun h1 x
      simp only [after, lafter]
      rw [e]
      split
      · simp [denO, h]
      · rfl
  | bind x v =>
    rcases hc with ⟨rfl, rfl⟩ | ⟨s, r, t, q, rfl, rfl, h1, h2⟩
    · rfl
    · simp only [after, lafter, denO, Option.map_some, den, List.map_cons, Option.some.injEq, List.cons.injEq]
      refine ⟨?_, h2⟩
      rw [lk_set, lk_lset (hm t (List.mem_cons_self ..))]
      funext k
      rw [show s.lookup k = t.lookup k from congrFun h1 k]
  | drop x =>
    rcases hc with ⟨rfl, rfl⟩ | ⟨s, r, t, q, rfl, rfl, h1, h2⟩
    · rfl
    · simp only [after, lafter, denO, Option.map_some, den, List.map_cons, Option.some.injEq, List.cons.injEq]
      refine ⟨?_, h2⟩
      rw [lk_del, lk_left (hm t (List.mem_cons_self ..))]
      funext k
      rw [show s.lookup k = t.lookup k from congrFun h1 k]
end G
end
section
set_option Elab.async false
set_option linter.all false
set_option maxRecDepth 100000
set_option maxHeartbeats 4000000
namespace G
open PySem PySem.Spec PyProof.Rows L2 Z PySem.SeqAt
structure S64 (n : Ne) (k : Nat) : Prop where
  len : n.length + k < 64
  sc : ∀ s ∈ n, KeysOk s ∧ s.length + k < 64
theorem S64.mono {n : Ne} {j k : Nat} (h : S64 n k) (hj : j ≤ k) : S64 n j := ⟨by have := h.len; omega, fun s hs => ⟨(h.sc s hs).1, by have := (h.sc s hs).2; omega⟩⟩
theorem S64.big {n : Ne} {k : Nat} (h : S64 n k) : SzOk n k := ⟨by have := h.len; rw [LIM_big]; omega, fun s hs => ⟨(h.sc s hs).1, by have := (h.sc s hs).2; rw [LIM_big]; omega⟩⟩
theorem S64.keys {n : Ne} {k : Nat} (h : S64 n k) : NeK n := fun s hs => (h.sc s hs).1
theorem len_left (s : Sc) (x : Str) : (lleft s x).length ≤ s.length := by
  unfold lleft
  rw [List.length_map]
  exact Nat.le_trans (List.length_filter_le ..) (by rw [(sort_perm _).length_eq, List.length_map]; exact Nat.le_refl _)
theorem lafter_sz {n m : Ne} {k : Nat} {st : Stp} (h : S64 n (k + 1)) (e : lafter n st = some m) : S64 m k := by
  have h0 := h.mono (Nat.le_succ k)
  cases st with
  | bind x v =>
    cases n with
    | nil => simp [lafter] at e
    | cons s r =>
      simp only [lafter, Option.some.injEq] at e
      subst e
      refine ⟨by have := h0.len; simpa using this, fun t ht => ?_⟩
      rcases List.mem_cons.mp ht with rfl | ht
      · have q := h.sc s (List.mem_cons_self ..)
        refine ⟨keys_lset q.1 x v, ?_⟩
        have := len_left s x
        have e2 : (lset s x v).length = (lleft s x).length + 1 := by unfold lset; simp
        have := q.2
        omega
      · exact h0.sc t (List.mem_cons_of_mem _ ht)
  | drop x =>
    cases n with
    | nil => simp [lafter] at e
    | cons s r =>
      simp only [lafter, Option.some.injEq] at e
      subst e
      refine ⟨by have := h0.len; simpa using this, fun t ht => ?_⟩
      rcases List.mem_cons.mp ht with rfl | ht
      · have q := h0.sc s (List.mem_cons_self ..)
        exact ⟨keys_left q.1 x, by have := len_left s x; have := q.2; omega⟩
      · exact h0.sc t (List.mem_cons_of_mem _ ht)
  | op =>
    simp only [lafter, after, Option.some.injEq] at e
    subst e
    refine ⟨by have := h.len; simp only [List.length_cons]; omega, fun s hs => ?_⟩
    rcases List.mem_cons.mp hs with rfl | hs
    · exact ⟨by simp [KeysOk], by have := h.len; simp only [List.length_nil]; omega⟩
    · exact h0.sc s hs
  | expect x v =>
    simp only [lafter, after] at e
    split at e
    · cases e; exact h0
    · cases e
  | free x =>
    simp only [lafter, after] at e
    split at e
    · cases e; exact h0
    · cases e
  | cl =>
    cases n with
    | nil => simp [lafter, after] at e
    | cons s r =>
      simp only [lafter, after, Option.some.injEq] at e
      subst e
      exact ⟨by have := h.len; simp only [List.length_cons] at this; omega, fun s hs => h0.sc s (List.mem_cons_of_mem _ hs)⟩
  | owned x v =>
    cases n with
    | nil => simp [lafter, after] at e
    | cons s r =>
      simp only [lafter, after] at e
      split at e
      · cases e; exact h0
      · cases e
  | unowned x =>
    cases n with
    | nil => simp [lafter, after] at e
    | cons s r =>
      simp only [lafter, after] at e
      split at e
      · cases e; exact h0
      · cases e
@[simp] theorem in_sc (s : Sc) (x : Str) (M : Mem) : gIn (.str x) (enSc s) M = some (.bl (s.lookup x).isSome, M) := by
  unfold enSc
  rw [in_dct', look_sc]
  cases s.lookup x <;> rfl
theorem ix_sc {s : Sc} {x v : Str} (h : s.lookup x = some v) (M : Mem) : gIx (enSc s) (.str x) M = some (.str v, M) := by
  unfold enSc
  rw [ix_dct', look_sc, h]; rfl
theorem vis_filter (n : Ne) (x : Str) : vis n x = ((n.filter fun s => (s.lookup x).isSome).map fun s => (s.lookup x).getD (.ofString "")).head? := by
  unfold vis
  induction n with
  | nil => rfl
  | cons s r ih =>
    rw [List.findSome?_cons]
    cases e : s.lookup x with
    | some v => rw [List.filter_cons_of_pos (by simp [e])]; simp [e]
    | none => rw [List.filter_cons_of_neg (by simp [e])]; exact ih
theorem r_law_visible (n : Ne) (hl : n.length ≤ LIM) (x : Str) (M : Mem) : runP D_law_visible [enNe n, .int 0, .str x] M = .ok (enO (vis n x)) M := by
  refine runP_ok ⟨[], runD_rt ?_⟩ (by simp [noCelL, nc_ne, noCel]) (nc_o _)
  have key := lcL_mapM (g := gN 4) (tt := dTst (dBin gIn (dVar 2) (dVar 4))) (de := dBin gIx (dVar 4) (dVar 2)) (s0 := [some (enNe n), some (.int 0), some (.str x), none, none]) (M := []) (it := enSc) (p := fun s => (s.lookup x).isSome) (f := fun s => T.str ((s.lookup x).getD (.ofString ""))) n (fun s hs => by
    refine ⟨[some (enNe n), some (.int 0), some (.str x), none, some (enSc s)], by simp, by simp, fun h => ?_⟩
    cases e : s.lookup x with
    | none => rw [e] at h; cases h
    | some v => simp [ix_sc e])
  unfold E_law_visible
  simp at hl
  simp only [enNe] at key
  simp [startS, enNe, hl]
  rw [key]
  have hv := vis_filter n x
  cases e : (n.filter fun s => (s.lookup x).isSome) with
  | nil =>
    rw [e] at hv
    simp [e, hv, enO, eq_nil', allZ]
  | cons s r =>
    rw [e] at hv
    simp [e, hv, enO]
theorem look_sc' (s : Sc) (x : Str) (M : Mem) : gDget (enSc s) [.str x] M = some (enO (s.lookup x), M) := by
  unfold enSc
  rw [dget1', look_sc]
  cases s.lookup x <;> rfl
@[simp] theorem m_sc (g : OpM) (da : DA) (sg : Sg) (s : Sc) (M : Mem) : kMeth1 "dict" g da sg (enSc s) M = (da sg M).bind (kMeth2 g (enSc s)) := rfl
theorem lc_left {n : Ne} {s : Sc} (hs : KeysOk s) {st : Stp} {x : Str} {M : Mem} (hx : gIx (enS st) (.int 1) M = some (.str x, M)) (t2 : T) :
    lcL (gN 4) (dTst (dBin gNe (dVar 4) (dBin gIx (dVar 1) (dC (.int 1))))) (dTup (dCons (dVar 4) (dCons (dBin gIx (dBin gIx (dVar 0) (dC (.int 0))) (dVar 4)) dNil))) [some (enNe (s :: n)), some (enS st), some t2, none, none] ((sortS (s.map (·.1))).map T.str) M
      = .ok ((lleft s x).map fun p => .tup [.str p.1, .str p.2]) M := by
  have key := lcL_mapM (g := gN 4) (tt := dTst (dBin gNe (dVar 4) (dBin gIx (dVar 1) (dC (.int 1))))) (de := dTup (dCons (dVar 4) (dCons (dBin gIx (dBin gIx (dVar 0) (dC (.int 0))) (dVar 4)) dNil))) (s0 := [some (enNe (s :: n)), some (enS st), some t2, none, none]) (M := M) (it := T.str) (p := fun k => !(k == x)) (f := fun k => .tup [.str k, .str ((s.lookup k).getD (.ofString ""))]) (sortS (s.map (·.1))) (fun k hk => by
    refine ⟨[some (enNe (s :: n)), some (enS st), some t2, none, some (.str k)], by simp, by simp [hx], fun _ => ?_⟩
    rw [(sort_perm _).mem_iff] at hk
    cases e : s.lookup k with
    | none => exact absurd hk (look_none.mp e)
    | some v => simp [enNe, ix_sc e])
  rw [key]
  unfold lleft
  rw [List.map_map]
  rfl
theorem pairs_sc : ∀ s : Sc, pairsT (s.map fun p => T.tup [.str p.1, .str p.2]) = some (s.map fun p => (p.1, T.str p.2))
  | [] => rfl
  | p :: r => by rw [List.map_cons]; unfold pairsT; rw [pairs_sc r]; rfl
theorem dict_sc {s : Sc} (h : KeysOk s) (M : Mem) : gDict false [.lst (s.map fun p => T.tup [.str p.1, .str p.2])] M = some (enSc s, M) := by
  unfold gDict
  simp only [der_lst', pairs_sc, mk_false]
  have e := foldl_put (kf := fun p : Str × Str => p.1) (vf := fun p => T.str p.2) s [] h (by simp)
  have e2 : mergeT [] (s.map fun p => (p.1, T.str p.2)) = s.map fun p => (p.1, T.str p.2) := by
    unfold mergeT
    rw [List.foldl_map]
    exact e.trans (by simp)
  rw [e2]; rfl
theorem sorted_sc {s : Sc} (h : s.length < 64) (M : Mem) : gSorted false [enSc s] M = some (.lst ((sortS (s.map (·.1))).map T.str), M) := by
  unfold gSorted gSortX enSc
  simp only [der_dct', List.length_map, h, if_true, mk_false, List.map_map]
  rfl
theorem r_law_after (n : Ne) (st : Stp) (M : Mem) (h : S64 n 1) : runP D_law_after [enNe n, enS st] M = .ok (enON (lafter n st)) M := by
  refine runP_ok ⟨[], runD_rt ?_⟩ (by simp [noCelL, nc_ne, nc_s]) (nc_on _)
  have rv : ∀ x M, runP D_law_visible [.lst (n.map enSc), .int 0, .str x] M = .ok (enO (vis n x)) M := fun x M => r_law_visible n (by have := h.len; rw [LIM_big]; omega) x M
  have hL : n.length + 1 < 64 := h.len
  unfold E_law_after
  cases st with
  | op =>
    simp [startS, enNe, enS, enON, lafter, after]
    rw [if_pos (by omega)]
    simp [enSc]
  | expect x v =>
    simp [startS, enNe, enS, lafter, after, rv, der_o]
    have e := eq_o (vis n x) (some v) eqDepth
    rw [show T.str v = enO (some v) from rfl, e]
    by_cases h : vis n x = some v <;> simp [h, enON, enNe]
  | free x =>
    simp [startS, enNe, enS, lafter, after, rv, der_o]
    have e := eq_o (vis n x) none eqDepth
    rw [show T.non = enO none from rfl, e]
    by_cases h : vis n x = none <;> simp [h, enON, enNe, enO]
  | cl =>
    cases n with
    | nil => simp [startS, enNe, enS, enON, lafter, after, allZ]
    | cons s r => simp [startS, enNe, enS, enON, lafter, after]
  | owned x v =>
    cases n with
    | nil => simp [startS, enNe, enS, enON, lafter, after, allZ]
    | cons s r =>
      simp [startS, enNe, enS, lafter, after, der_o, look_sc']
      have e := eq_o (s.lookup x) (some v) eqDepth
      rw [show T.str v = enO (some v) from rfl, e]
      by_cases h : s.lookup x = some v <;> simp [h, enON, enNe]
  | unowned x =>
    cases n with
    | nil => simp [startS, enNe, enS, enON, lafter, after, allZ]
    | cons s r =>
      simp [startS, enNe, enS, lafter, after, der_o, look_sc']
      have e := eq_o (s.lookup x) none eqDepth
      rw [show T.non = enO none from rfl, e]
      by_cases h : s.lookup x = none <;> simp [h, enON, enNe, enO]
  | bind x v =>
    cases n with
    | nil => simp [startS, enNe, enS, enON, lafter, after, allZ]
    | cons s r =>
      have q := h.sc s (List.mem_cons_self ..)
      have hd := lc_left (n := r) q.1 (st := .bind x v) (x := x) (M := []) rfl (.str v)
      have hs := sorted_sc (s := s) (by omega) []
      have hk := dict_sc (keys_lset q.1 x v) []
      have hlen := len_left s x
      have hsl : (sortS (s.map (·.1))).length = s.length := by rw [(sort_perm _).length_eq, List.length_map]
      simp [enS, enNe] at hd
      unfold lset at hk
      simp at hk
      simp at hL
      simp [startS, enNe, enS, lafter, hs, hsl, show s.length ≤ 16777216 by omega]
      rw [hd]
      have s1 : ∀ j : Int, (sgn 1 || sgn j) = true := fun _ => rfl
      simp [show (lleft s x).length + 1 ≤ 16777216 by omega, hk, show 1 + r.length ≤ 16777216 by omega]
      simp [enON, enNe, lset]
  | drop x =>
    cases n with
    | nil => simp [startS, enNe, enS, enON, lafter, after, allZ]
    | cons s r =>
      have q := h.sc s (List.mem_cons_self ..)
      have hd := lc_left (n := r) q.1 (st := .drop x) (x := x) (M := []) rfl .non
      have hs := sorted_sc (s := s) (by omega) []
      have hk := dict_sc (keys_left q.1 x) []
      have hlen := len_left s x
      have hsl : (sortS (s.map (·.1))).length = s.length := by rw [(sort_perm _).length_eq, List.length_map]
      simp [enS, enNe] at hd
      simp at hL
      simp [startS, enNe, enS, lafter, hs, hsl, show s.length ≤ 16777216 by omega]
      rw [hd]
      simp [show (lleft s x).length ≤ 16777216 by omega, hk, show 1 + r.length ≤ 16777216 by omega]
      simp [enON, enNe]
end G
end
section
set_option Elab.async false
set_option linter.all false
set_option maxRecDepth 100000
set_option maxHeartbeats 4000000
namespace G
open PySem PySem.Spec PyProof.Rows L2 Z PySem.SeqAt
def lout (n : Ne) : List Stp → Option Ne
  | [] => some n
  | s :: r => match lafter n s with
    | none => none
    | some m => lout m r
theorem after_some {n m : Ne} {st : Stp} {k : Nat} (h : SzOk n (k + 1)) (e : after n st = some m) : NeK m := fun s hs => ((after_sz h e).sc s hs).1
theorem out_den : ∀ (q : List Stp) {n m : Ne}, SzOk n q.length → S64 m q.length → den n = den m → denO (out n q) = denO (lout m q)
  | [], n, m, _, _, h => by simp [out, lout, denO, h]
  | st :: r, n, m, hn, hm, h => by
    have e := after_den (fun s hs => (hn.sc s hs).1) hm.keys h st
    unfold out lout
    cases e1 : after n st with
    | none =>
      cases e2 : lafter m st with
      | none => rfl
      | some m' => rw [e1, e2] at e; cases e
    | some n' =>
      cases e2 : lafter m st with
      | none => rw [e1, e2] at e; cases e
      | some m' =>
        rw [e1, e2] at e
        exact out_den r (after_sz (k := r.length) hn e1) (lafter_sz (k := r.length) hm e2) (by simpa [denO] using e)
theorem out_keys : ∀ (q : List Stp) {n : Ne}, SzOk n q.length → NeKO (out n q)
  | [], n, h => fun m e => by simp only [out, Option.some.injEq] at e; subst e; exact fun s hs => (h.sc s hs).1
  | st :: r, n, h => fun m e => by
    unfold out at e
    cases e1 : after n st with
    | none => rw [e1] at e; cases e
    | some n' => rw [e1] at e; exact out_keys r (after_sz (k := r.length) h e1) m e
theorem lout_sz : ∀ (q : List Stp) {n m : Ne}, S64 n q.length → lout n q = some m → S64 m 0
  | [], n, m, h, e => by simp only [lout, Option.some.injEq] at e; subst e; exact h
  | st :: r, n, m, h, e => by
    unfold lout at e
    cases e1 : lafter n st with
    | none => rw [e1] at e; cases e
    | some n' => rw [e1] at e; exact lout_sz r (lafter_sz (k := r.length) h e1) e
theorem lout_keys {q : List Stp} {n : Ne} (h : S64 n q.length) : NeKO (lout n q) := fun m e => (lout_sz q h e).keys
theorem r_law_run (n : Ne) (q : List Stp) (h : S64 n q.length) : ∃ t, noCel t = true ∧ (∀ M, runP D_law_run [enNe n, enQ false q] M = .ok t M) ∧ ((∃ m, lout n q = some m ∧ t = enNe m) ∨ ∃ i : Int, lout n q = none ∧ t = .lst [.str "failed", .int i]) := by
  have key := forL_run (g := gTup (gsCons (gN 3) (gsCons (gN 4) gsNil))) (b := dTrim [3, 4] (dSeq (dAsg 2 (dCallP 2 D_law_after [] (dCons (dVar 2) (dCons (dVar 4) dNil)))) (dIf (dTst (dBin gIs (dVar 2) (dC .non))) (dRet (dLst false (dCons (dC (.str "failed")) (dCons (dVar 3) dNil)))) dNx)))
    (it := fun p : Stp × Nat => .tup [.int (p.2 : Int), enS p.1]) (sO := fun m => [some (enNe n), some (enQ false q), some (enNe m), none, none]) (mO := fun _ => [])
    (f := fun m p => match lafter m p.1 with
      | none => .ret (.lst [.str "failed", .int (p.2 : Int)])
      | some m' => .on m') (Inv := fun r m => S64 m r.length ∧ lout m (r.map (·.1)) = lout n q) (R := fun t => ∃ i : Int, lout n q = none ∧ t = .lst [.str "failed", .int i]) (fun p r m hi => by
      refine ⟨[some (enNe n), some (enQ false q), some (enNe m), some (.int (p.2 : Int)), some (enS p.1)], by simp, ?_⟩
      obtain ⟨h1, h2⟩ := hi
      have h1' : S64 m (r.length + 1) := h1
      have hs := fun M => r_law_after m p.1 M (h1'.mono (by omega))
      cases e : lafter m p.1 with
      | none =>
        rw [e] at hs
        simp only
        refine ⟨⟨[], ?_⟩, p.2, ?_, rfl⟩
        · simp [hs, enON]
        · rw [← h2, List.map_cons]; unfold lout; rw [e]
      | some m' =>
        rw [e] at hs
        simp only
        refine ⟨.inl ?_, lafter_sz h1' e, ?_⟩
        · simp [hs, enON]
          simp [enNe, w_kTrim0]
        · rw [← h2, List.map_cons]
          conv => rhs; unfold lout
          rw [e]) q.zipIdx n ⟨by simpa using h, by rw [List.zipIdx_map_fst]⟩
  rcases key with ⟨m, e1, e2⟩ | ⟨t, M', e1, i, e2, e3⟩
  · have e3 : lout n q = some m := by rw [← e2.2]; rfl
    refine ⟨enNe m, nc_ne m, fun M => runP_ok ⟨[], runD_rt ?_⟩ (by simp [noCelL, nc_ne, nc_q]) (nc_ne m), .inl ⟨m, e3, rfl⟩⟩
    unfold E_law_run
    simp [startS, enQ, enum_map] at e1 ⊢
    rw [e1]; rfl
  · subst e3
    refine ⟨_, by simp [noCel, noCelL], fun M => runP_ok ⟨M', runD_rt ?_⟩ (by simp [noCelL, nc_ne, nc_q]) (by simp [noCel, noCelL]), .inr ⟨i, e2, rfl⟩⟩
    unfold E_law_run
    simp [startS, enQ, enum_map] at e1 ⊢
    rw [e1]; rfl
@[simp] theorem eqX_sc (s : Sc) (x : Str) (M : Mem) : gEqX (enSc s) (.str x) M = some (.bl false, M) := rfl
theorem r_law_result (n : Ne) (q : List Stp) (h : S64 n q.length) (M : Mem) : runP D_law_result [enNe n, enQ false q] M = .ok (enON (lout n q)) M := by
  obtain ⟨t, _, hr, hc⟩ := r_law_run n q h
  refine runP_ok ⟨[], runD_rt ?_⟩ (by simp [noCelL, nc_ne, nc_q]) (nc_on _)
  unfold E_law_result
  rcases hc with ⟨m, e1, rfl⟩ | ⟨i, e1, rfl⟩
  · rw [e1]
    simp [startS, hr]
    cases m with
    | nil => simp [enNe, enON]
    | cons a r =>
      cases r with
      | nil => simp [enNe, enON]
      | cons b r2 =>
        cases r2 with
        | nil => simp [enNe, enON]
        | cons c r3 =>
          have f0 : ((r3.length : Int) + 1 + 1 + 1 == 2) = false := by rw [beq_eq_false_iff_ne]; omega
          simp [enNe, enON, f0]
  · rw [e1]
    simp [startS, hr, enON]
/-! the law's explaining, telling -/
def lq (qs : List (List Stp)) : Qs := qs.map fun q => (false, q)
@[simp] theorem lq_len (qs : List (List Stp)) : (lq qs).length = qs.length := by unfold lq; simp
theorem lq_snd (qs : List (List Stp)) : (lq qs).map (·.2) = qs := by unfold lq; rw [List.map_map]; exact List.map_id qs
theorem enQs_lq (qs : List (List Stp)) : enQs (lq qs) = .lst (qs.map (enQ false)) := by unfold enQs lq; rw [List.map_map]; rfl
theorem ne_on (a b : Option Ne) (M : Mem) : gNe (enON a) (enON b) M = some (.bl (!eqON a b), M) := by
  rw [ne_def', der_on, der_on, eq_on_top]
  cases a <;> rfl
theorem eq_empty (xs : List T) (M : Mem) : gEq (.lst xs) (.lst []) M = some (.bl xs.isEmpty, M) := by
  rw [eq_def', der_lst', der_lst', eq_nil']
structure LOb (o : Obs) (k : Nat) : Prop where
  len : o.length < LIM
  bef : ∀ p ∈ o, S64 p.1 k
  aft : ∀ p ∈ o, NeKO p.2
structure LQs (qs : List (List Stp)) (k : Nat) : Prop where
  len : qs.length < LIM
  sz : ∀ q ∈ qs, q.length ≤ k
def lexpl (qs : List (List Stp)) (o : Obs) : List Nat := (qs.zipIdx.filter fun p => o.all fun ob => eqON (lout ob.1 p.1) ob.2).map (·.2)
theorem r_law_explaining {qs : List (List Stp)} {o : Obs} {k : Nat} (hl : LQs qs k) (ho : LOb o k) (M : Mem) : runP D_law_explaining [enQs (lq qs), enObs o] M = .ok (.lst (enI (lexpl qs o))) M := by
  have nc : noCelL (enI (lexpl qs o)) = true := noCelL_map (fun _ => by simp only [noCel]) _
  have hd : depL (enI (lexpl qs o)) ≤ 18 := by
    have := depL_map (k := 1) (f := fun i : Nat => T.int (i : Int)) (fun _ => by simp [dep]) (lexpl qs o)
    unfold enI; omega
  have h := forL_foldM (α := List Nat) (g := gTup (gsCons (gN 3) (gsCons (gN 4) gsNil))) (b := dTrim [3, 4] (dIf (dTst (dBin gEq (dLc false (dWalk (dVar 1)) (gN 5) (dTst (dBin gNe (dCallP 2 D_law_result [] (dCons (dBin gIx (dVar 5) (dC (.int 0))) (dCons (dVar 4) dNil))) (dBin gIx (dVar 5) (dC (.int 1))))) (dVar 5) [5]) (dLst false dNil))) (dDrop (dMeth "list" gAppend (dVar 2) (dCons (dVar 3) dNil))) dNx))
    (it := fun p : List Stp × Nat => .tup [.int (p.2 : Int), enQ false p.1]) (sO := fun _ => [some (enQs (lq qs)), some (enObs o), some (.cel 0), none, none, none]) (mO := fun acc => [.live (.lst (enI acc))])
    (f := fun acc p => if (o.all fun ob => eqON (lout ob.1 p.1) ob.2) = true then acc ++ [p.2] else acc) (Inv := fun r acc => r.length + acc.length < LIM) qs.zipIdx (fun p hp r acc hi => by
      refine ⟨[some (enQs (lq qs)), some (enObs o), some (.cel 0), some (.int (p.2 : Int)), some (enQ false p.1), none], by simp, ?_⟩
      have hm : p.1 ∈ qs := by
        obtain ⟨s, i⟩ := p
        exact (List.mem_zipIdx' hp).2 ▸ List.getElem_mem _
      have lc := lcL_mapM (g := gN 5) (tt := dTst (dBin gNe (dCallP 2 D_law_result [] (dCons (dBin gIx (dVar 5) (dC (.int 0))) (dCons (dVar 4) dNil))) (dBin gIx (dVar 5) (dC (.int 1))))) (de := dVar 5) (s0 := [some (enQs (lq qs)), some (enObs o), some (.cel 0), some (.int (p.2 : Int)), some (enQ false p.1), none])
        (M := [.live (.lst (enI acc))]) (it := enOb) (p := fun ob => !eqON (lout ob.1 p.1) ob.2) (f := enOb) o (fun ob hob => by
          refine ⟨[some (enQs (lq qs)), some (enObs o), some (.cel 0), some (.int (p.2 : Int)), some (enQ false p.1), some (enOb ob)], by simp, ?_, fun _ => by simp⟩
          have hr := r_law_result ob.1 p.1 ((ho.bef ob hob).mono (hl.sz p.1 hm))
          have hne := fun M => ne_on (lout ob.1 p.1) ob.2 M
          simp only [ne_def'] at hne
          simp [enOb, hr, hne])
      have hi2 : acc.length < 16777216 := by have := hi; simp at this; omega
      have hlen := ho.len
      simp at hlen
      have he : ((o.filter fun ob => !eqON (lout ob.1 p.1) ob.2).map enOb).isEmpty = (o.all fun ob => eqON (lout ob.1 p.1) ob.2) := by
        rw [Bool.eq_iff_iff]; simp [List.isEmpty_iff, List.filter_eq_nil_iff]
      have hq := eq_empty ((o.filter fun ob => !eqON (lout ob.1 p.1) ob.2).map enOb) [.live (.lst (enI acc))]
      rw [he] at hq
      simp only [enObs] at lc ⊢
      cases e : (o.all fun ob => eqON (lout ob.1 p.1) ob.2) with
      | true =>
        rw [e] at hq
        refine ⟨?_, by simp only [if_true]; simp at hi ⊢; omega⟩
        simp only [eq_def'] at hq
        simp [Nat.le_of_lt hlen] at hq ⊢
        rw [lc]
        simp [hq, hi2, w_kTrim0, enI_app]
      | false =>
        rw [e] at hq
        refine ⟨?_, by simp at hi ⊢; omega⟩
        simp only [eq_def'] at hq
        simp [Nat.le_of_lt hlen] at hq ⊢
        rw [lc]
        simp [hq, w_kTrim0]) [] (by simpa using hl.len)
  have e2 : qs.zipIdx.foldl (fun acc p => if (o.all fun ob => eqON (lout ob.1 p.1) ob.2) = true then acc ++ [p.2] else acc) [] = lexpl qs o := by
    unfold lexpl
    have gen : ∀ (z : List (List Stp × Nat)) (acc : List Nat), z.foldl (fun acc p => if (o.all fun ob => eqON (lout ob.1 p.1) ob.2) = true then acc ++ [p.2] else acc) acc = acc ++ (z.filter fun p => o.all fun ob => eqON (lout ob.1 p.1) ob.2).map (·.2) := by
      intro z
      induction z with
      | nil => intro acc; simp
      | cons a r ih =>
        intro acc
        rw [List.foldl_cons, ih]
        cases e : (o.all fun ob => eqON (lout ob.1 a.1) ob.2) with
        | true => rw [if_pos rfl, List.filter_cons_of_pos (by simpa using e)]; simp
        | false => rw [if_neg (by simp), List.filter_cons_of_neg (by simpa using e)]
    exact (gen qs.zipIdx []).trans (by simp)
  rw [e2] at h
  refine runP_ok ⟨[.dead], runD_rt ?_⟩ (by simp [noCelL, nc_qs, nc_obs]) (by simp only [noCel]; exact nc)
  unfold E_law_explaining
  have h1 := h.1
  rw [enQs_lq] at h1 ⊢
  simp only [enI, List.map_nil] at h1
  simp [startS, enum_map] at h1 ⊢
  rw [h1]
  simp [frz_lst0 nc hd]
  have hf := frz_lst0 (M := []) nc hd
  unfold enI at hf
  simp [hf, enI]
end G
end
section
set_option Elab.async false
set_option linter.all false
set_option maxRecDepth 100000
set_option maxHeartbeats 4000000
namespace G
open PySem PySem.Spec PyProof.Rows L2 Z PySem.SeqAt
def lsizes (qs : List (List Stp)) (ns : List Ne) : List Int := ns.map fun n => grp (qs.map fun q => lout n q)
def telL (qs : List (List Stp)) (ns : List Ne) : T := if qs.length = 0 ∨ ns.length = 0 then .tup [.non, .int 0] else tel (lsizes qs ns)
theorem nc_telL (qs : List (List Stp)) (ns : List Ne) : noCel (telL qs ns) = true := by
  unfold telL tel; split <;> simp [noCel, noCelL]
theorem countP_congr' {α : Type} {p q : α → Bool} : ∀ {l : List α}, (∀ x ∈ l, p x = q x) → l.countP p = l.countP q
  | [], _ => rfl
  | x :: r, h => by
    rw [List.countP_cons, List.countP_cons, countP_congr' fun y hy => h y (List.mem_cons_of_mem _ hy), h x (List.mem_cons_self ..)]
theorem grp_eq {qs : List (List Stp)} {n : Ne} {k : Nat} (hq : ∀ q ∈ qs, q.length ≤ k) (hn : S64 n k) : grp (qs.map fun q => out n q) = grp (qs.map fun q => lout n q) := by
  have h1 : ∀ q ∈ qs, NeKO (out n q) ∧ NeKO (lout n q) ∧ denO (out n q) = denO (lout n q) := fun q hm =>
    have s := hn.mono (hq q hm)
    ⟨out_keys q s.big, lout_keys s, out_den q s.big s rfl⟩
  have e : cnts (qs.map fun q => out n q) = cnts (qs.map fun q => lout n q) := by
    unfold cnts
    rw [List.map_map, List.map_map]
    refine List.map_congr_left fun q hm => ?_
    show (((qs.map fun q => out n q).countP fun x => eqON x (out n q) : Nat) : Int) = (((qs.map fun q => lout n q).countP fun x => eqON x (lout n q) : Nat) : Int)
    rw [List.countP_map, List.countP_map]
    congr 1
    refine countP_congr' fun p hp => ?_
    show eqON (out n p) (out n q) = eqON (lout n p) (lout n q)
    exact eqON_congr2 (h1 p hp).1 (h1 p hp).2.1 (h1 q hm).1 (h1 q hm).2.1 (h1 p hp).2.2 (h1 q hm).2.2
  unfold grp
  rw [e]
theorem tel_eq {qs : List (List Stp)} {ns : List Ne} {k : Nat} (hq : ∀ q ∈ qs, q.length ≤ k) (hn : ∀ n ∈ ns, S64 n k) : telT qs ns = telL qs ns := by
  unfold telT telL
  have e : sizes qs ns = lsizes qs ns := by
    unfold sizes lsizes
    exact List.map_congr_left fun n hm => grp_eq hq (hn n hm)
  rw [e]
theorem expl_eq {qs : List (List Stp)} {l : Qs} {o : Obs} {k : Nat} (hl : l.map (·.2) = qs) (hq : ∀ q ∈ qs, q.length ≤ k) (ho : LOb o k) : expl l o = lexpl qs o := by
  subst hl
  unfold expl lexpl
  rw [List.zipIdx_map, List.filter_map, List.map_map]
  have e : (l.zipIdx.filter fun p => o.all fun ob => eqON (out ob.1 p.1.2) ob.2) = l.zipIdx.filter ((fun p : List Stp × Nat => o.all fun ob => eqON (lout ob.1 p.1) ob.2) ∘ Prod.map (·.2) id) := by
    refine List.filter_congr fun p hp => ?_
    have hm : p.1 ∈ l := by
      obtain ⟨s, i⟩ := p
      exact (List.mem_zipIdx' hp).2 ▸ List.getElem_mem _
    have hk : p.1.2.length ≤ k := hq _ (List.mem_map_of_mem hm)
    show (o.all fun ob => eqON (out ob.1 p.1.2) ob.2) = o.all fun ob => eqON (lout ob.1 p.1.2) ob.2
    rw [Bool.eq_iff_iff, List.all_eq_true, List.all_eq_true]
    have h1 : ∀ ob ∈ o, eqON (out ob.1 p.1.2) ob.2 = eqON (lout ob.1 p.1.2) ob.2 := fun ob hob =>
      have s := (ho.bef ob hob).mono hk
      eqON_congr (out_keys _ s.big) (lout_keys s) (ho.aft ob hob) (out_den _ s.big s rfl)
    exact ⟨fun h ob hob => (h1 ob hob) ▸ h ob hob, fun h ob hob => (h1 ob hob).symm ▸ h ob hob⟩
  rw [e]
  rfl
theorem r_law_telling {qs : List (List Stp)} {ns : List Ne} {k : Nat} (hl : LQs qs k) (hn : ns.length < LIM) (hs : ∀ n ∈ ns, S64 n k) (M : Mem) : runP D_law_telling [enQs (lq qs), enNs ns] M = .ok (telL qs ns) M := by
  by_cases h0 : qs.length = 0 ∨ ns.length = 0
  · refine runP_ok ⟨[], runD_rt ?_⟩ (by simp [noCelL, nc_qs, nc_ns]) (nc_telL _ _)
    unfold E_law_telling telL
    rw [if_pos h0, enQs_lq]
    have f1 := eq_empty (qs.map (enQ false)) []
    have f2 := eq_empty (ns.map enNe) []
    simp only [eq_def'] at f1 f2
    cases qs with
    | nil =>
      simp at f1
      simp [startS, enNs, f1, allZ]
    | cons a r =>
      have e2 : ns = [] := by simpa using h0
      subst e2
      simp at f1 f2
      simp [startS, enNs, f1, f2, allZ]
  · have hq0 : 0 < qs.length := by omega
    have hn0 : 0 < ns.length := by omega
    have key := forL_foldM (α := List Int) (g := gN 3) (b := dTrim [3, 4] (dSeq (dAsg 4 (dLc false (dWalk (dVar 0)) (gN 5) tYesD (dCallP 2 D_law_result [] (dCons (dVar 3) (dCons (dVar 5) dNil))) [5])) (dDrop (dMeth "list" gAppend (dVar 2) (dCons (dCall gMax (dCons (dLc false (dWalk (dVar 4)) (gN 6) tYesD (dMeth "list" gCount (dVar 4) (dCons (dVar 6) dNil)) [6]) dNil)) dNil)))))
      (it := enNe) (sO := fun _ => [some (enQs (lq qs)), some (enNs ns), some (.cel 0), none, none, none, none]) (mO := fun acc => [.live (.lst (acc.map T.int))]) (f := fun acc n => acc ++ [grp (qs.map fun q => lout n q)]) (Inv := fun r acc => r.length + acc.length < LIM) ns (fun n hm r acc hi => by
        refine ⟨[some (enQs (lq qs)), some (enNs ns), some (.cel 0), some (enNe n), none, none, none], by simp, ?_, by simp at hi ⊢; omega⟩
        have lc := lcL_mapM (g := gN 5) (tt := tYesD) (de := dCallP 2 D_law_result [] (dCons (dVar 3) (dCons (dVar 5) dNil))) (s0 := [some (enQs (lq qs)), some (enNs ns), some (.cel 0), some (enNe n), none, none, none]) (M := [.live (.lst (acc.map T.int))]) (it := enQ false) (p := fun _ => true) (f := fun q => enON (lout n q)) qs (fun q hq =>
          ⟨[some (enQs (lq qs)), some (enNs ns), some (.cel 0), some (enNe n), none, some (enQ false q), none], by simp, by simp, fun _ => by simp [r_law_result n q ((hs n hm).mono (hl.sz q hq))]⟩)
        rw [List.filter_eq_self.mpr fun _ _ => rfl, show (qs.map fun q => enON (lout n q)) = (qs.map fun q => lout n q).map enON from by rw [List.map_map]; rfl] at lc
        have hlen := hl.len
        have hacc : acc.length < 16777216 := by have := hi; simp at this; omega
        have hr0 : 0 < (qs.map fun q => lout n q).length := by simpa using hq0
        have hrl : (qs.map fun q => lout n q).length ≤ 16777216 := by simp at hlen ⊢; omega
        generalize (qs.map fun q => lout n q) = rs at lc hr0 hrl ⊢
        have lc2 := lcL_mapM (g := gN 6) (tt := tYesD) (de := dMeth "list" gCount (dVar 4) (dCons (dVar 6) dNil)) (s0 := [some (enQs (lq qs)), some (enNs ns), some (.cel 0), some (enNe n), some (.lst (rs.map enON)), none, none]) (M := [.live (.lst (acc.map T.int))]) (it := enON) (p := fun _ => true) (f := fun y => T.int ((rs.countP fun x => eqON x y : Nat) : Int)) rs (fun y hy =>
          ⟨[some (enQs (lq qs)), some (enNs ns), some (.cel 0), some (enNe n), some (.lst (rs.map enON)), none, some (enON y)], by simp, by simp, fun _ => by simp [count_on]⟩)
        rw [List.filter_eq_self.mpr fun _ _ => rfl, show (rs.map fun y => T.int ((rs.countP fun x => eqON x y : Nat) : Int)) = (cnts rs).map T.int from by unfold cnts; rw [List.map_map]; rfl] at lc2
        have hmx := max_list (cnts rs) (by simpa [cnts] using hr0) [.live (.lst (acc.map T.int))]
        have hg : maxI (cnts rs) = grp rs := by
          unfold grp
          cases e : cnts rs with
          | nil => simp [cnts] at e; rw [e] at hr0; simp at hr0
          | cons i r => rfl
        rw [hg] at hmx
        simp at hlen
        rw [enQs_lq] at lc lc2 ⊢
        simp [Nat.le_of_lt hlen]
        rw [lc]
        simp [hrl]
        rw [lc2]
        simp [hmx, hacc, w_kTrim0]) [] (by simpa using hn)
    have e2 : ns.foldl (fun acc n => acc ++ [grp (qs.map fun q => lout n q)]) [] = lsizes qs ns := by
      have gen : ∀ (z : List Ne) (acc : List Int), z.foldl (fun acc n => acc ++ [grp (qs.map fun q => lout n q)]) acc = acc ++ lsizes qs z := by
        intro z
        induction z with
        | nil => intro acc; simp [lsizes]
        | cons a r ih => intro acc; rw [List.foldl_cons, ih]; simp [lsizes]
      exact (gen ns []).trans (by simp)
    rw [e2] at key
    have h1 := key.1
    have nc : noCelL ((lsizes qs ns).map T.int) = true := noCelL_map (fun _ => by simp only [noCel]) _
    have hd : depL ((lsizes qs ns).map T.int) ≤ 18 := by
      have := depL_map (k := 1) (f := T.int) (fun _ => by simp [dep]) (lsizes qs ns)
      omega
    have hf := frz_lst0 (M := []) nc hd
    have hp : 0 < (lsizes qs ns).length := by simpa [lsizes] using hn0
    have i1 := index_min _ hp [.dead]
    have i2 := min_list _ hp [.dead]
    refine runP_ok ⟨[.dead], runD_rt ?_⟩ (by simp [noCelL, nc_qs, nc_ns]) (nc_telL _ _)
    unfold E_law_telling telL
    rw [if_neg h0]
    have f1 := eq_empty (qs.map (enQ false)) []
    have f2 := eq_empty (ns.map enNe) []
    simp only [eq_def'] at f1 f2
    rw [enQs_lq] at h1 ⊢
    have g1 : (qs.map (enQ false)).isEmpty = false := by cases qs with
      | nil => simp at hq0
      | cons a r => rfl
    have g2 : (ns.map enNe).isEmpty = false := by cases ns with
      | nil => simp at hn0
      | cons a r => rfl
    rw [g1] at f1
    rw [g2] at f2
    simp only [enNs] at h1 ⊢
    simp at f1 f2 h1
    simp [startS, f1, f2]
    rw [h1]
    simp [hf, i1, i2, tel]
end G
end
section
set_option Elab.async false
set_option linter.all false
set_option maxRecDepth 100000
set_option maxHeartbeats 4000000
namespace G
open PySem PySem.Spec PyProof.Rows L2 Z PySem.SeqAt
structure DigOk (ds : List Int) (ss : List Int) : Prop where
  len : ds.length = ss.length
  dig : ∀ (i : Nat) (d s : Int), ds[i]? = some d → ss[i]? = some s → 0 ≤ d ∧ d < s
theorem mod_rng (a : Int) {b : Int} (h : 0 < b) : 0 ≤ a % b ∧ a % b < b := ⟨Int.emod_nonneg a (by omega), Int.emod_lt_of_pos a h⟩
theorem r_law_numbers (cell salt : Int) (ss : List Int) (hs : ∀ s ∈ ss, 0 < s ∧ s < 1073741824) (hl : ss.length < 1000000) (h0 : 0 ≤ salt) (h1 : salt < 1000000) :
    ∃ ds, DigOk ds ss ∧ ∀ M, runP D_law_numbers [.int cell, .int salt, .lst (ss.map T.int)] M = .ok (.lst (ds.map T.int)) M := by
  generalize hnum : (if -1 - cell > cell then -1 - cell else cell) = num
  have key := forL_inv (α := Int × List Int) (g := gN 6) (b := dTrim [6, 7] (dIf (dAndT (dTst (dBin gGe (dVar 3) (dBin gPow (dC (.int 10)) (dC (.int 18))))) (dTst (dBin gGt (dVar 4) (dC (.int 0))))) (dSeq (dDrop (dMeth "list" gAppend (dVar 5) (dCons (dBin gMod (dVar 4) (dBin gIx (dVar 2) (dVar 6))) dNil))) (dAsg 4 (dBin gFdiv (dVar 4) (dBin gIx (dVar 2) (dVar 6))))) (dSeq (dAsg 7 (dBin gMod (dBin gPow (dBin (gAdd false) (dBin (gAdd false) (dBin gMod (dVar 3) (dC (.int 2147483629))) (dBin (gMul false) (dC (.int 7919)) (dVar 1))) (dC (.int 1))) (dC (.int 3))) (dC (.int 2147483647)))) (dSeq (dAsg 7 (dBin gMod (dBin (gMul false) (dBin (gAdd false) (dVar 7) (dBin (gMul false) (dC (.int 104729)) (dBin (gAdd false) (dVar 6) (dC (.int 1))))) (dBin (gAdd false) (dVar 6) (dC (.int 3)))) (dC (.int 2147483629)))) (dSeq (dAsg 7 (dBin gMod (dBin (gMul false) (dBin gMod (dBin gPow (dVar 7) (dC (.int 5))) (dC (.int 2147483647))) (dC (.int 48271))) (dC (.int 2147483629)))) (dDrop (dMeth "list" gAppend (dVar 5) (dCons (dBin gMod (dBin gFdiv (dVar 7) (dC (.int 16))) (dBin gIx (dVar 2) (dVar 6))) dNil))))))))
    (it := fun (i : Nat) => T.int (i : Int)) (sO := fun a => [some (.int cell), some (.int salt), some (.lst (ss.map T.int)), some (.int num), some (.int a.1), some (.cel 0), none, none]) (mO := fun a => [.live (.lst (a.2.map T.int))])
    (Inv := fun r a => r = (List.range ss.length).drop a.2.length ∧ a.2.length ≤ ss.length ∧ ∀ (i : Nat) (d s : Int), a.2[i]? = some d → ss[i]? = some s → 0 ≤ d ∧ d < s) (List.range ss.length) (fun i hi r a ha => by
      obtain ⟨left, ds⟩ := a
      obtain ⟨e1, e2, e3⟩ := ha
      simp only at e1 e2 e3
      have hlt : ds.length < ss.length := by
        rcases Nat.lt_or_ge ds.length ss.length with h | h
        · exact h
        · rw [List.drop_of_length_le (by simpa using h)] at e1; cases e1
      have e4 : i = ds.length ∧ r = (List.range ss.length).drop (ds.length + 1) := by
        rw [List.drop_eq_getElem_cons (by simpa using hlt)] at e1
        simp only [List.getElem_range, List.cons.injEq] at e1
        exact e1
      obtain ⟨rfl, rfl⟩ := e4
      have hg : ss[ds.length]? = some ss[ds.length] := List.getElem?_eq_getElem hlt
      have hsz := hs _ (List.getElem_mem hlt)
      have hix : ∀ M, gIx (.lst (ss.map T.int)) (.int (ds.length : Int)) M = some (.int ss[ds.length], M) := fun M => by simp [hg]
      -- one more digit
      have fin : ∀ d : Int, 0 ≤ d → d < ss[ds.length] → ((List.range ss.length).drop (ds.length + 1) = (List.range ss.length).drop (ds ++ [d]).length ∧ (ds ++ [d]).length ≤ ss.length ∧ ∀ (i : Nat) (d' s : Int), (ds ++ [d])[i]? = some d' → ss[i]? = some s → 0 ≤ d' ∧ d' < s) := fun d g1 g2 => by
        refine ⟨by simp, by simp; omega, fun i d' s q1 q2 => ?_⟩
        rcases Nat.lt_or_ge i ds.length with h | h
        · rw [List.getElem?_append_left h] at q1; exact e3 i d' s q1 q2
        · rw [List.getElem?_append_right h] at q1
          have h0 : i - ds.length = 0 := by
            rcases Nat.eq_zero_or_pos (i - ds.length) with z | z
            · exact z
            · rw [List.getElem?_eq_none (by simp; omega)] at q1; cases q1
          have hi2 : i = ds.length := by omega
          rw [h0] at q1
          have q1' : d = d' := by simpa using q1
          rw [hi2, hg] at q2
          cases q2
          subst q1'
          exact ⟨g1, g2⟩
      have hdl : ds.length < 16777216 := by omega
      have z1 : (10 : Int) ^ (18 : Nat) = 1000000000000000000 := by decide
      refine ⟨[some (.int cell), some (.int salt), some (.lst (ss.map T.int)), some (.int num), some (.int left), some (.cel 0), some (.int (ds.length : Int)), none], ?_⟩
      by_cases c : num ≥ 1000000000000000000 ∧ left > 0
      · refine ⟨(left / ss[ds.length], ds ++ [left % ss[ds.length]]), by simp, ?_, fin _ (mod_rng left hsz.1).1 (mod_rng left hsz.1).2⟩
        have c1 : (1000000000000000000 ≤ num) = True := eq_true c.1
        have c2 : (0 < left) = True := eq_true c.2
        simp [z1, c1, c2, hg, hsz.1, fdOk_of hsz.1 hsz.2, hdl, w_kTrim0]
      · -- the other way
        have hp : 0 ≤ num % 2147483629 + 7919 * salt + 1 ∧ num % 2147483629 + 7919 * salt + 1 < 18446744073709551616 := by
          have := mod_rng num (b := 2147483629) (by omega)
          omega
        generalize hA : num % 2147483629 + 7919 * salt + 1 = A at hp
        have hA2 : A.natAbs < 18446744073709551616 := by omega
        generalize hB : A ^ 3 % 2147483647 = B
        have hB2 : 0 ≤ B ∧ B < 2147483647 := by rw [← hB]; exact mod_rng _ (by omega)
        generalize hC : (B + 104729 * ((ds.length : Int) + 1)) * ((ds.length : Int) + 3) % 2147483629 = Cc
        have hC2 : 0 ≤ Cc ∧ Cc < 2147483629 := by rw [← hC]; exact mod_rng _ (by omega)
        generalize hE : Cc ^ 5 % 2147483647 = Ee
        have hE2 : 0 ≤ Ee ∧ Ee < 2147483647 := by rw [← hE]; exact mod_rng _ (by omega)
        generalize hG : Ee * 48271 % 2147483629 = Gg
        have hG2 : 0 ≤ Gg ∧ Gg < 2147483629 := by rw [← hG]; exact mod_rng _ (by omega)
        have s1 : sgn 7919 = true := sgn_of (by omega) (by omega)
        have s2 : sgn 104729 = true := sgn_of (by omega) (by omega)
        have s3 : sgn ((ds.length : Int) + 3) = true := sgn_of (by omega) (by omega)
        have s4 : sgn 48271 = true := sgn_of (by omega) (by omega)
        have s5 : fdOk 16 = true := rfl
        have hC3 : Cc.natAbs < 18446744073709551616 := by omega
        refine ⟨(left, ds ++ [Gg / 16 % ss[ds.length]]), by simp, ?_, fin _ (mod_rng _ hsz.1).1 (mod_rng _ hsz.1).2⟩
        have step : ∀ (tt : DT) (s : Sg) (M : Mem) (a b : DS), tt s M = .ok false M → dIf tt a b s M = b s M := fun tt s M a b h => by
          show (tt s M).toS s (kIf a b s) = b s M
          rw [h]; rfl
        rw [u_trim, step]
        · simp [s1, s2, s3, s4, s5, hA, hA2, hB, hC, hC3, hE, hG, hg, hsz.1, hdl, w_kTrim0]
        · by_cases c1 : 1000000000000000000 ≤ num
          · have c2 : ¬ 0 < left := fun h => c ⟨c1, h⟩
            simp [z1, c1, c2]
          · simp [z1, c1]) (num, []) ⟨by simp, by simp, fun i d s q => by simp at q⟩
  obtain ⟨⟨left, ds⟩, k1, k2, k3, k4⟩ := key
  have hlen : ds.length = ss.length := by
    have : ((List.range ss.length).drop ds.length).length = 0 := by rw [← k2]; rfl
    rw [List.length_drop, List.length_range] at this
    simp only at k3
    omega
  have nc : noCelL (ds.map T.int) = true := noCelL_map (fun _ => by simp only [noCel]) _
  have hd : depL (ds.map T.int) ≤ 18 := by
    have := depL_map (k := 1) (f := T.int) (fun _ => by simp [dep]) ds
    omega
  refine ⟨ds, ⟨hlen, k4⟩, fun M => runP_ok ⟨[.dead], runD_rt ?_⟩ (by simp only [noCelL, noCel, Bool.true_and, Bool.and_true]; exact noCelL_map (fun _ => by simp only [noCel]) _) (by simp only [noCel]; exact nc)⟩
  unfold E_law_numbers
  have hr : Z.inR (ss.length : Int) = true := inR_nat hl
  simp only [List.map_nil] at k1
  have hnum' : (if cell < -1 - cell then -1 - cell else cell) = num := hnum
  simp -implicitDefEqProofs [startS, hr, hnum', rng0_map]
  rw [k1]
  simp [frz_lst0 nc hd]
end G
end
section
set_option Elab.async false
set_option linter.all false
set_option maxRecDepth 100000
set_option maxHeartbeats 4000000
namespace G
open PySem PySem.Spec PyProof.Rows L2 Z PySem.SeqAt
/-- a text of a written list at a drawn place -/
theorem ix_draw (ws : List Str) {i : Int} (h0 : 0 ≤ i) (h1 : i < (ws.length : Int)) : ∃ w ∈ ws, ∀ M, gIx (.lst (ws.map T.str)) (.int i) M = some (.str w, M) := by
  obtain ⟨w, hw, e⟩ := at_in (xs := ws) h0 h1
  refine ⟨w, hw, fun M => ?_⟩
  obtain ⟨n, rfl⟩ := Int.eq_ofNat_of_zero_le h0
  rw [at_pos] at e
  simp [e]
def drawW : List Str := ["open", "close", "bind", "drop", "expect", "free", "owned", "unowned", "bind", "expect"]
def drawN : List Str := ["x", "x", "y", "own"]
theorem nm_draw {x : Str} (h : x ∈ drawN) : x ∈ namesD := by
  simp only [drawN, List.mem_cons, List.not_mem_nil, or_false] at h
  simp only [namesD, List.mem_cons, List.not_mem_nil, or_false]
  rcases h with h | h | h | h
  · exact .inl h
  · exact .inl h
  · exact .inr (.inl h)
  · exact .inr (.inr h)
theorem ok_bind {n v : Str} (hn : n ∈ namesD) (hv : v ∈ valsD) : SOk (.bind n v) ∧ SOk (.expect n v) ∧ SOk (.owned n v) ∧ SOk (.drop n) ∧ SOk (.free n) ∧ SOk (.unowned n) := by
  have m : ∀ s, s ∈ ([.drop n, .free n, .unowned n] ++ valsD.flatMap fun v => [.bind n v, .expect n v, .owned n v] : List Stp) → SOk s := fun s hs => by
    unfold SOk allS
    refine List.mem_append_right _ (List.mem_flatMap.mpr ⟨n, hn, hs⟩)
  have m2 : ∀ s, s ∈ ([.bind n v, .expect n v, .owned n v] : List Stp) → SOk s := fun s hs => m s (List.mem_append_right _ (List.mem_flatMap.mpr ⟨v, hv, hs⟩))
  exact ⟨m2 _ (by simp), m2 _ (by simp), m2 _ (by simp), m _ (by simp), m _ (by simp), m _ (by simp)⟩
theorem ok_op : SOk .op ∧ SOk .cl := by unfold SOk allS; exact ⟨by simp, by simp⟩
theorem r_law_step (a b c : Int) (r : List Int) (h0 : 0 ≤ a) (h1 : 0 ≤ b) (h2 : 0 ≤ c) : ∃ st, SOk st ∧ ∀ M, runP D_law_step [.lst ((a :: b :: c :: r).map T.int)] M = .ok (enS st) M := by
  obtain ⟨w, hw, ew⟩ := ix_draw drawW (mod_rng a (b := 10) (by omega)).1 (mod_rng a (b := 10) (by omega)).2
  obtain ⟨n, hn, en⟩ := ix_draw drawN (mod_rng b (b := 4) (by omega)).1 (mod_rng b (b := 4) (by omega)).2
  obtain ⟨v, hv, ev⟩ := ix_draw valsD (mod_rng c (b := 3) (by omega)).1 (mod_rng c (b := 3) (by omega)).2
  have hs := ok_bind (nm_draw hn) hv
  have nc : noCelL [T.lst ((a :: b :: c :: r).map T.int)] = true := by simp only [noCelL, noCel, Bool.and_true]; exact noCelL_map (fun _ => by simp only [noCel]) _
  have go : ∀ st, SOk st → D_law_step [.lst ((a :: b :: c :: r).map T.int)] [] = .ok (enS st) [] → ∃ st, SOk st ∧ ∀ M, runP D_law_step [.lst ((a :: b :: c :: r).map T.int)] M = .ok (enS st) M := fun st h1 h2 => ⟨st, h1, fun M => runP_ok ⟨[], h2⟩ nc (nc_s st)⟩
  simp only [drawW, drawN, valsD, List.map_cons, List.map_nil] at ew en ev
  have ew' := fun M => ew M
  simp only [ix_lst'] at ew en ev
  simp only [drawW, List.mem_cons, List.not_mem_nil, or_false] at hw
  rcases hw with rfl | rfl | rfl | rfl | rfl | rfl | rfl | rfl | rfl | rfl
  · exact go .op ok_op.1 (by unfold D_law_step; exact runD_rt (by unfold E_law_step; simp [startS, ew, en, ev, enS]))
  · exact go .cl ok_op.2 (by unfold D_law_step; exact runD_rt (by unfold E_law_step; simp [startS, ew, en, ev, enS]))
  · exact go (.bind n v) hs.1 (by unfold D_law_step; exact runD_rt (by unfold E_law_step; simp [startS, ew, en, ev, enS]))
  · exact go (.drop n) hs.2.2.2.1 (by unfold D_law_step; exact runD_rt (by unfold E_law_step; simp [startS, ew, en, ev, enS]))
  · exact go (.expect n v) hs.2.1 (by unfold D_law_step; exact runD_rt (by unfold E_law_step; simp [startS, ew, en, ev, enS]))
  · exact go (.free n) hs.2.2.2.2.1 (by unfold D_law_step; exact runD_rt (by unfold E_law_step; simp [startS, ew, en, ev, enS]))
  · exact go (.owned n v) hs.2.2.1 (by unfold D_law_step; exact runD_rt (by unfold E_law_step; simp [startS, ew, en, ev, enS]))
  · exact go (.unowned n) hs.2.2.2.2.2 (by unfold D_law_step; exact runD_rt (by unfold E_law_step; simp [startS, ew, en, ev, enS]))
  · exact go (.bind n v) hs.1 (by unfold D_law_step; exact runD_rt (by unfold E_law_step; simp [startS, ew, en, ev, enS]))
  · exact go (.expect n v) hs.2.1 (by unfold D_law_step; exact runD_rt (by unfold E_law_step; simp [startS, ew, en, ev, enS]))
/-- digits that are no less than 0 -/
abbrev Pos (ds : List Int) : Prop := ∀ d ∈ ds, 0 ≤ d
theorem drop3 {ds : List Int} {k : Nat} (h : k + 3 ≤ ds.length) : ∃ a b c r, ds.drop k = a :: b :: c :: r := by
  have hl : (ds.drop k).length = ds.length - k := List.length_drop
  match e : ds.drop k with
  | a :: b :: c :: r => exact ⟨a, b, c, r, rfl⟩
  | [] => rw [e] at hl; simp at hl; omega
  | [_] => rw [e] at hl; simp at hl; omega
  | [_, _] => rw [e] at hl; simp at hl; omega
theorem r_law_sequence (ds : List Int) (m : Nat) (hp : Pos ds) (h : 3 * m ≤ ds.length) (hm : m < 1000000) : ∃ q, q.length = m ∧ SqOk q ∧ ∀ M, runP D_law_sequence [.lst (ds.map T.int), .int (m : Int)] M = .ok (enQ false q) M := by
  have nc : noCelL [T.lst (ds.map T.int), .int (m : Int)] = true := by simp only [noCelL, noCel, Bool.and_true]; exact noCelL_map (fun _ => by simp only [noCel]) _
  have key := lcL_ex (γ := Stp) (g := gN 2) (tt := tYesD) (de := dCallP 1 D_law_step [] (dCons (dSl false (dVar 0) (dPart (dBin (gMul false) (dC (.int 3)) (dVar 2))) dNoPart) dNil)) (s0 := [some (.lst (ds.map T.int)), some (.int (m : Int)), none]) (M := []) (it := fun (i : Nat) => T.int (i : Int)) (en := enS) (Q := SOk) (List.range m) (fun i hi => by
    refine ⟨[some (.lst (ds.map T.int)), some (.int (m : Int)), some (.int (i : Int))], by simp, by simp, ?_⟩
    have him : i < m := by simpa using hi
    obtain ⟨a, b, c, r, e⟩ := drop3 (ds := ds) (k := 3 * i) (by omega)
    have hpos : ∀ d ∈ a :: b :: c :: r, 0 ≤ d := fun d hd => hp d (List.mem_of_mem_drop (e ▸ hd))
    obtain ⟨st, h1, h2⟩ := r_law_step a b c r (hpos a (by simp)) (hpos b (by simp)) (hpos c (by simp))
    refine ⟨st, h1, ?_⟩
    have s1 : ∀ j : Int, (sgn 3 || sgn j) = true := fun _ => rfl
    have e2 : (3 : Int) * (i : Int) = ((3 * i : Nat) : Int) := by omega
    have e3 : (ds.map T.int).drop (3 * i) = (a :: b :: c :: r).map T.int := by rw [← List.map_drop, e]
    have hcut : cutT (ds.map T.int) (some (3 * (i : Int))) none = (a :: b :: c :: r).map T.int := by rw [e2, cut_lo, e3]
    simp [s1, hcut]
    simp at h2
    simp [h2])
  obtain ⟨q, g1, g2, g3⟩ := key
  refine ⟨q, by simpa using g1, g2, fun M => runP_ok ⟨[], runD_rt ?_⟩ nc (nc_q false q)⟩
  unfold E_law_sequence
  have hr : Z.inR (m : Int) = true := inR_nat hm
  simp [startS, hr, rng0_map]
  rw [if_pos (by omega), g3]
  simp [enQ]
end G
end
section
set_option Elab.async false
set_option linter.all false
set_option maxRecDepth 100000
set_option maxHeartbeats 4000000
namespace G
open PySem PySem.Spec PyProof.Rows L2 Z PySem.SeqAt
def drawV : List T := [.non, .non, .str "1", .str "2", .str "x"]
theorem draw_val {i : Int} (h0 : 0 ≤ i) (h1 : i < 5) : (∀ M, gIx (.lst drawV) (.int i) M = some (.non, M)) ∨ ∃ v ∈ valsD, ∀ M, gIx (.lst drawV) (.int i) M = some (.str v, M) := by
  obtain ⟨t, ht, e⟩ := at_in (xs := drawV) h0 (by simpa [drawV] using h1)
  have e2 : ∀ M, gIx (.lst drawV) (.int i) M = some (t, M) := fun M => by rw [ix_lst', e]; rfl
  simp only [drawV, List.mem_cons, List.not_mem_nil, or_false] at ht
  rcases ht with rfl | rfl | rfl | rfl | rfl
  · exact .inl e2
  · exact .inl e2
  · exact .inr ⟨_, by simp [valsD], e2⟩
  · exact .inr ⟨_, by simp [valsD], e2⟩
  · exact .inr ⟨_, by simp [valsD], e2⟩
def inner : DS := dTrim [5, 6, 7] (dSeq (dAsg 7 (dBin gIx (dLst false (dCons (dC .non) (dCons (dC .non) (dCons (dC (.str "1")) (dCons (dC (.str "2")) (dCons (dC (.str "x")) dNil)))))) (dBin gMod (dBin gIx (dVar 0) (dBin (gAdd false) (dBin (gAdd false) (dC (.int 1)) (dBin (gMul false) (dC (.int 3)) (dVar 3))) (dVar 5))) (dC (.int 5))))) (dIf (dTst (dBin gIsN (dVar 7) (dC .non))) (dPut (dVar 4) (dVar 6) (dVar 7)) dNx))
def nameIx : List (Str × Nat) := [("x", 0), ("y", 1), ("own", 2)]
theorem lp_inner (ds : List Int) (hp : Pos ds) (deep : Int) (k : Nat) (hk : 1 + 3 * k + 3 ≤ ds.length) (acc : List T) :
    ∃ s : Sc, ScOk s ∧ s.length ≤ 3 ∧ forL (gTup (gsCons (gN 5) (gsCons (gN 6) gsNil))) inner (nameIx.map fun p => .tup [.int (p.2 : Int), .str p.1]) [some (.lst (ds.map T.int)), some (.int deep), some (.cel 0), some (.int (k : Int)), some (.cel 1), none, none, none] [.live (.lst acc), .live (enSc [])]
      = .nx [some (.lst (ds.map T.int)), some (.int deep), some (.cel 0), some (.int (k : Int)), some (.cel 1), none, none, none] [.live (.lst acc), .live (enSc s)] := by
  have key := forL_inv (α := Sc) (g := gTup (gsCons (gN 5) (gsCons (gN 6) gsNil))) (b := inner) (it := fun p : Str × Nat => .tup [.int (p.2 : Int), .str p.1]) (sO := fun _ => [some (.lst (ds.map T.int)), some (.int deep), some (.cel 0), some (.int (k : Int)), some (.cel 1), none, none, none]) (mO := fun s => [.live (.lst acc), .live (enSc s)])
    (Inv := fun r s => ScOk s ∧ s.length + r.length ≤ 3 ∧ (∀ p ∈ r, p.1 ∉ s.map (·.1)) ∧ (r.map (·.1)).Nodup) nameIx (fun p hpm r s hi => by
      obtain ⟨h1, h2, h3, h4⟩ := hi
      have hn : p.1 ∈ namesD ∧ p.2 < 3 := by
        simp only [nameIx, List.mem_cons, List.not_mem_nil, or_false] at hpm
        rcases hpm with rfl | rfl | rfl <;> simp [namesD]
      rw [List.map_cons, List.nodup_cons] at h4
      have hlt : 1 + 3 * k + p.2 < ds.length := by omega
      have hix : ∀ M, gIx (.lst (ds.map T.int)) (.int (1 + 3 * (k : Int) + (p.2 : Int))) M = some (.int ds[1 + 3 * k + p.2], M) := fun M => by
        rw [show (1 : Int) + 3 * (k : Int) + (p.2 : Int) = ((1 + 3 * k + p.2 : Nat) : Int) by omega, ix_lst', at_pos, List.getElem?_map, List.getElem?_eq_getElem hlt]; rfl
      have s1 : ∀ j : Int, (sgn 3 || sgn j) = true := fun _ => rfl
      have hd := mod_rng ds[1 + 3 * k + p.2] (b := 5) (by omega)
      have hix' := hix
      simp only [ix_lst'] at hix
      have hs3 : s.length < 16777216 := by omega
      rcases draw_val hd.1 hd.2 with hv | ⟨v, hv, ev⟩
      · refine ⟨[some (.lst (ds.map T.int)), some (.int deep), some (.cel 0), some (.int (k : Int)), some (.cel 1), some (.int (p.2 : Int)), some (.str p.1), none], s, by simp, ?_, h1, by simp at h2; omega, fun q hq => h3 q (List.mem_cons_of_mem _ hq), h4.2⟩
        simp only [drawV, ix_lst'] at hv
        simp [inner, s1, hix, hv, w_kTrim0]
      · have hnot : p.1 ∉ s.map (·.1) := h3 p (List.mem_cons_self ..)
        refine ⟨[some (.lst (ds.map T.int)), some (.int deep), some (.cel 0), some (.int (k : Int)), some (.cel 1), some (.int (p.2 : Int)), some (.str p.1), none], s ++ [(p.1, v)], by simp, ?_, ⟨?_, ?_⟩, by simp at h2 ⊢; omega, ?_, h4.2⟩
        · simp only [drawV, ix_lst'] at ev
          have hput : putT (s.map fun p => (p.1, T.str p.2)) p.1 (.str v) = (s ++ [(p.1, v)]).map fun p => (p.1, T.str p.2) := by
            rw [putT_new (by rw [List.map_map]; exact hnot)]; simp
          simp [inner, s1, hix, ev, enSc, hput, hs3, w_kTrim0]
        · have hk2 := h1.keys
          unfold KeysOk at hk2 ⊢
          rw [List.map_append, List.nodup_append]
          refine ⟨hk2, by simp, fun a ha b hb e => ?_⟩
          have hb' : b = p.1 := by simpa using hb
          rw [e, hb'] at ha
          exact hnot ha
        · intro q hq
          rcases List.mem_append.mp hq with hq | hq
          · exact h1.ns q hq
          · have : q = (p.1, v) := by simpa using hq
            rw [this]; exact ⟨hn.1, hv⟩
        · intro q hq c
          rw [List.map_append, List.mem_append] at c
          rcases c with c | c
          · exact h3 q (List.mem_cons_of_mem _ hq) c
          · have e : q.1 = p.1 := by simpa using c
            exact h4.1 (by rw [← e]; exact List.mem_map_of_mem hq)) [] ⟨⟨by simp [KeysOk], fun p h => by simp at h⟩, by simp [nameIx], by simp, by simp [nameIx]; decide +kernel⟩
  obtain ⟨s, e, h1, h2, _⟩ := key
  exact ⟨s, h1, by simpa using h2, e⟩
structure NSm (n : Ne) (d : Nat) : Prop where
  ok : NeOk n
  len : n.length ≤ d
  sc : ∀ s ∈ n, s.length ≤ 3
theorem r_law_nest (ds : List Int) (hp : Pos ds) (d : Nat) (h : 1 + 3 * d + 3 ≤ ds.length) (hd : d < 1000) : ∃ n, NSm n d ∧ ∀ M, runP D_law_nest [.lst (ds.map T.int), .int (d : Int)] M = .ok (enNe n) M := by
  have nc : noCelL [T.lst (ds.map T.int), .int (d : Int)] = true := by simp only [noCelL, noCel, Bool.and_true]; exact noCelL_map (fun _ => by simp only [noCel]) _
  have ncd : noCel (T.lst (ds.map T.int)) = true := by simp only [noCel]; exact noCelL_map (fun _ => by simp only [noCel]) _
  obtain ⟨a0, ha0⟩ : ∃ a0, ds.headD 0 = a0 := ⟨_, rfl⟩
  have key := forL_inv (α := Ne) (g := gN 3) (b := dTrim [3, 4, 5, 6, 7] (dSeq (dAsg 4 (dDct0 true)) (dSeq (dForW (dEnum (dCons (dLst false (dCons (dC (.str "x")) (dCons (dC (.str "y")) (dCons (dC (.str "own")) dNil)))) dNil)) (gTup (gsCons (gN 5) (gsCons (gN 6) gsNil))) (dSeq (dAsg 7 (dBin gIx (dLst false (dCons (dC .non) (dCons (dC .non) (dCons (dC (.str "1")) (dCons (dC (.str "2")) (dCons (dC (.str "x")) dNil)))))) (dBin gMod (dBin gIx (dVar 0) (dBin (gAdd false) (dBin (gAdd false) (dC (.int 1)) (dBin (gMul false) (dC (.int 3)) (dVar 3))) (dVar 5))) (dC (.int 5))))) (dIf (dTst (dBin gIsN (dVar 7) (dC .non))) (dPut (dVar 4) (dVar 6) (dVar 7)) dNx)) [5, 6, 7]) (dFrzV 4 (dDrop (dMeth "list" gAppend (dVar 2) (dCons (dVar 4) dNil)))))))
    (it := fun (i : Nat) => T.int (i : Int)) (sO := fun _ => [some (.lst (ds.map T.int)), some (.int (d : Int)), some (.cel 0), none, none, none, none, none]) (mO := fun n => [.live (.lst (n.map enSc))])
    (Inv := fun r n => NeOk n ∧ n.length + r.length ≤ d ∧ ∀ s ∈ n, s.length ≤ 3) (List.range (a0 % ((d : Int) + 1)).toNat) (fun i hi r n hn => by
      obtain ⟨h1, h2, h3⟩ := hn
      have hil : i < d := by
        have := List.mem_range.mp hi
        have hm := mod_rng a0 (b := (d : Int) + 1) (by omega)
        omega
      obtain ⟨s, g1, g2, g3⟩ := lp_inner ds hp (d : Int) i (by omega) (n.map enSc)
      refine ⟨[some (.lst (ds.map T.int)), some (.int (d : Int)), some (.cel 0), some (.int (i : Int)), none, none, none, none], n ++ [s], by simp, ?_, ?_, by simp at h2 ⊢; omega, ?_⟩
      · have hf := frz_dct1 (M := []) (c := .live (.lst (n.map enSc))) (ncf_sc s) (depf_sc s)
        have hz : enumT [T.str "x", T.str "y", T.str "own"] = nameIx.map fun p => .tup [.int (p.2 : Int), .str p.1] := rfl
        simp only [inner, enSc, List.map_nil] at g3
        simp [hz]
        simp only [enSc] at g3 ⊢
        rw [g3]
        simp [hf, show n.length < 16777216 by omega]
        have hncs : noCelL (n.map enSc) = true := noCelL_map nc_sc n
        rw [show (List.map enSc n ++ [T.dct (s.map fun p => (p.1, T.str p.2))]) = (n ++ [s]).map enSc by simp [enSc]]
        have hncs2 : noCel (.lst ((n ++ [s]).map enSc)) = true := by simp only [noCel]; exact noCelL_map nc_sc _
        rw [w_kTrim1 _ (by simp) (by simp [slotB, celB, celBL_of (show noCelL (ds.map T.int) = true from noCelL_map (fun _ => by simp only [noCel]) _)]) (by simp only [List.take_succ_cons, List.take_zero, List.all_cons, List.all_nil, cellB, Bool.and_true]; exact celB_of hncs2)]
        simp [enSc]
      · intro t ht
        rcases List.mem_append.mp ht with ht | ht
        · exact h1 t ht
        · have : t = s := by simpa using ht
          rw [this]; exact g1
      · intro t ht
        rcases List.mem_append.mp ht with ht | ht
        · exact h3 t ht
        · have : t = s := by simpa using ht
          rw [this]; exact g2) [] ⟨fun s hs => by simp at hs, by
            have hm := mod_rng a0 (b := (d : Int) + 1) (by omega)
            simp; omega, fun s hs => by simp at hs⟩
  obtain ⟨n, e, h1, h2, h3⟩ := key
  refine ⟨n, ⟨h1, by simpa using h2, h3⟩, fun M => runP_ok ⟨[.dead], runD_rt ?_⟩ nc (nc_ne n)⟩
  have hnd : noCelL (n.map enSc) = true := noCelL_map nc_sc n
  have hdd : depL (n.map enSc) ≤ 18 := by
    have := depL_map (k := 2) (f := enSc) dep_sc n
    omega
  have hf := frz_lst0 (M := []) hnd hdd
  unfold E_law_nest
  cases ds with
  | nil => simp at h
  | cons a r =>
    have ha : a = a0 := ha0
    subst ha
    have hm := mod_rng a (b := (d : Int) + 1) (by omega)
    have hr : Z.inR (a % ((d : Int) + 1)) = true := inR_of hm.1 (by omega)
    have hb : (0 : Int) < (d : Int) + 1 := by omega
    simp at e
    simp [startS, hr, rng0_map, hb]
    rw [e]
    simp [hf, enNe]
end G
end
section
set_option Elab.async false
set_option linter.all false
set_option maxRecDepth 100000
set_option maxHeartbeats 4000000
namespace G
open PySem PySem.Spec PyProof.Rows L2 Z PySem.SeqAt
theorem sc3 {s : Sc} (h : ScOk s) : s.length ≤ 3 := by
  have h1 : (s.map (·.1)) ⊆ namesD := fun x hx => by
    obtain ⟨p, hp, e⟩ := List.mem_map.mp hx
    rw [← e]; exact (h.ns p hp).1
  have := List.Nodup.length_le_of_subset h.keys h1
  simpa [namesD] using this
structure Dm (n : Ne) (k : Nat) : Prop where
  ok : NeOk n
  len : n.length + k ≤ 20
theorem Dm.mono {n : Ne} {j k : Nat} (h : Dm n k) (hj : j ≤ k) : Dm n j := ⟨h.ok, by have := h.len; omega⟩
theorem Dm.s64 {n : Ne} {k : Nat} (h : Dm n k) : S64 n k := ⟨by have := h.len; omega, fun s hs => ⟨(h.ok s hs).keys, by have := sc3 (h.ok s hs); have := h.len; omega⟩⟩
theorem Dm.nok {n : Ne} {k : Nat} (h : Dm n k) : NOk n k := ⟨h.ok, h.s64.big⟩
theorem NSm.dm {n : Ne} {d : Nat} (h : NSm n d) (hd : d ≤ 3) : Dm n 6 := ⟨h.ok, by have := h.len; omega⟩
def wfS : Stp → Bool
  | .bind n v => namesD.contains n && valsD.contains v
  | _ => true
theorem wf_all : allS.all wfS = true := by decide +kernel
theorem lafter_dm {n m : Ne} {k : Nat} {st : Stp} (h : Dm n (k + 1)) (hs : SOk st) (e : lafter n st = some m) : Dm m k := by
  have h0 := h.mono (Nat.le_succ k)
  have hw : wfS st = true := List.all_eq_true.mp wf_all st hs
  cases st with
  | bind x v =>
    cases n with
    | nil => simp [lafter] at e
    | cons s r =>
      simp only [lafter, Option.some.injEq] at e
      subst e
      simp [wfS] at hw
      refine ⟨fun t ht => ?_, by have := h0.len; simpa using this⟩
      rcases List.mem_cons.mp ht with rfl | ht
      · have q := h.ok s (List.mem_cons_self ..)
        refine ⟨keys_lset q.keys x v, fun p hp => ?_⟩
        unfold lset at hp
        rcases List.mem_append.mp hp with hp | hp
        · exact q.ns (p.1, p.2) (mem_of_look (mem_left.mp (show (p.1, p.2) ∈ lleft s x from hp)).2)
        · have : p = (x, v) := by simpa using hp
          rw [this]; exact hw
      · exact h0.ok t (List.mem_cons_of_mem _ ht)
  | drop x =>
    cases n with
    | nil => simp [lafter] at e
    | cons s r =>
      simp only [lafter, Option.some.injEq] at e
      subst e
      refine ⟨fun t ht => ?_, by have := h0.len; simpa using this⟩
      rcases List.mem_cons.mp ht with rfl | ht
      · have q := h.ok s (List.mem_cons_self ..)
        exact ⟨keys_left q.keys x, fun p hp => q.ns (p.1, p.2) (mem_of_look (mem_left.mp (show (p.1, p.2) ∈ lleft s x from hp)).2)⟩
      · exact h0.ok t (List.mem_cons_of_mem _ ht)
  | op =>
    simp only [lafter, after, Option.some.injEq] at e
    subst e
    refine ⟨fun s hs => ?_, by have := h.len; simp only [List.length_cons]; omega⟩
    rcases List.mem_cons.mp hs with rfl | hs
    · exact ⟨by simp [KeysOk], fun p hp => by simp at hp⟩
    · exact h0.ok s hs
  | expect x v =>
    simp only [lafter, after] at e
    split at e
    · cases e; exact h0
    · cases e
  | free x =>
    simp only [lafter, after] at e
    split at e
    · cases e; exact h0
    · cases e
  | cl =>
    cases n with
    | nil => simp [lafter, after] at e
    | cons s r =>
      simp only [lafter, after, Option.some.injEq] at e
      subst e
      exact ⟨fun s hs => h0.ok s (List.mem_cons_of_mem _ hs), by have := h.len; simp only [List.length_cons] at this; omega⟩
  | owned x v =>
    cases n with
    | nil => simp [lafter, after] at e
    | cons s r =>
      simp only [lafter, after] at e
      split at e
      · cases e; exact h0
      · cases e
  | unowned x =>
    cases n with
    | nil => simp [lafter, after] at e
    | cons s r =>
      simp only [lafter, after] at e
      split at e
      · cases e; exact h0
      · cases e
theorem lout_dm : ∀ (q : List Stp) {n m : Ne}, Dm n q.length → SqOk q → lout n q = some m → Dm m 0
  | [], n, m, h, _, e => by simp only [lout, Option.some.injEq] at e; subst e; exact h
  | st :: r, n, m, h, hs, e => by
    unfold lout at e
    cases e1 : lafter n st with
    | none => rw [e1] at e; cases e
    | some n' => rw [e1] at e; exact lout_dm r (lafter_dm (k := r.length) h (hs st (List.mem_cons_self ..)) e1) (fun s hs' => hs s (List.mem_cons_of_mem _ hs')) e
/-! what repr takes -/
theorem wt_all : allS.all (fun s => Nat.ble (wt (enS s)) 80) = true := by decide +kernel
theorem wt_names : namesD.all (fun s => Nat.ble (reprText s).length 10) = true := by decide +kernel
theorem wt_vals : valsD.all (fun s => Nat.ble (reprText s).length 10) = true := by decide +kernel
theorem wt_s {s : Stp} (h : SOk s) : wt (enS s) ≤ 80 := Nat.le_of_ble_eq_true (List.all_eq_true.mp wt_all s h)
theorem pl_s (s : Stp) : pl (enS s) = true := by cases s <;> simp [enS, pl, plL]
theorem dep_s (s : Stp) : dep (enS s) ≤ 2 := by cases s <;> simp [enS, dep, depL]
theorem pl_sc (s : Sc) : pl (enSc s) = true := by
  unfold enSc
  simp only [pl]
  induction s with
  | nil => simp [plK]
  | cons p r ih => rw [List.map_cons]; simp only [plK, pl, Bool.true_and]; exact ih
theorem wt_sc {s : Sc} (h : ScOk s) : wt (enSc s) ≤ 100 := by
  have h3 := sc3 h
  have : wtK (s.map fun p => (p.1, T.str p.2)) ≤ s.length * 24 := by
    have hn := h.ns
    clear h3
    induction s with
    | nil => simp [wtK]
    | cons p r ih =>
      have ih := ih ⟨(List.nodup_cons.mp h.keys).2, fun q hq => hn q (List.mem_cons_of_mem _ hq)⟩ fun q hq => hn q (List.mem_cons_of_mem _ hq)
      have h1 := hn p (List.mem_cons_self ..)
      have w1 := Nat.le_of_ble_eq_true (List.all_eq_true.mp wt_names p.1 h1.1)
      have w2 := Nat.le_of_ble_eq_true (List.all_eq_true.mp wt_vals p.2 h1.2)
      rw [List.map_cons, List.length_cons, Nat.succ_mul]
      simp only [wtK, wt]
      omega
  unfold enSc
  simp only [wt]
  omega
theorem pl_ne (n : Ne) : pl (enNe n) = true := by unfold enNe; simp only [pl]; exact plL_map pl_sc n
theorem dep_ne (n : Ne) : dep (enNe n) ≤ 3 := by
  unfold enNe
  simp only [dep]
  have := depL_map (k := 2) dep_sc n
  omega
theorem wt_ne {n : Ne} {k : Nat} (h : Dm n k) : wt (enNe n) ≤ 2100 := by
  unfold enNe
  simp only [wt]
  have h1 := wtL_mapM (f := enSc) (k := 100) n fun s hs => wt_sc (h.ok s hs)
  have h2 := h.len
  omega
theorem pl_on (n : Option Ne) : pl (enON n) = true := by cases n with
  | none => rfl
  | some n => exact pl_ne n
theorem dep_on (n : Option Ne) : dep (enON n) ≤ 3 := by cases n with
  | none => simp [enON, dep]
  | some n => exact dep_ne n
def DmO (n : Option Ne) : Prop := ∀ m, n = some m → Dm m 0
theorem wt_on {n : Option Ne} (h : DmO n) : wt (enON n) ≤ 2100 := by cases n with
  | none => simp [enON, wt]
  | some n => exact wt_ne (h n rfl)
theorem pl_q (b : Bool) (q : List Stp) : pl (enQ b q) = true := by
  unfold enQ
  cases b <;> simp [pl, plL_map pl_s q]
theorem dep_q (b : Bool) (q : List Stp) : dep (enQ b q) ≤ 3 := by
  have := depL_map (k := 2) dep_s q
  unfold enQ
  cases b <;> simp [dep] <;> omega
theorem wt_q {b : Bool} {q : List Stp} (h : SqOk q) (hl : q.length ≤ 6) : wt (enQ b q) ≤ 600 := by
  have h1 := wtL_mapM (f := enS) (k := 80) q fun s hs => wt_s (h s hs)
  unfold enQ
  cases b <;> simp [wt] <;> omega
/-- what a turn's data is -/
structure QD (qs : List (List Stp)) : Prop where
  len : qs.length ≤ 6
  q : ∀ q ∈ qs, SqOk q ∧ q.length ≤ 6
structure ND (ns : List Ne) : Prop where
  len : ns.length ≤ 4
  n : ∀ n ∈ ns, Dm n 6
structure OD (o : Obs) : Prop where
  len : o.length ≤ 5
  o : ∀ p ∈ o, Dm p.1 6 ∧ DmO p.2
theorem OD.ob {o : Obs} (h : OD o) : ObOk o 6 := ⟨by have := h.len; rw [LIM_big]; omega, fun p hp => (h.o p hp).1.nok, fun p hp m e => ((h.o p hp).2 m e).nok⟩
theorem OD.lob {o : Obs} (h : OD o) : LOb o 6 := ⟨by have := h.len; rw [LIM_big]; omega, fun p hp => (h.o p hp).1.s64, fun p hp m e => ((h.o p hp).2 m e).s64.keys⟩
theorem QD.lqs {qs : List (List Stp)} (h : QD qs) : LQs qs 6 := ⟨by have := h.len; rw [LIM_big]; omega, fun q hq => (h.q q hq).2⟩
theorem QD.qs {qs : List (List Stp)} (h : QD qs) {l : Qs} (e : l.map (·.2) = qs) : QsOk l 6 := by
  subst e
  refine ⟨by have := h.len; rw [List.length_map] at this; rw [LIM_big]; omega, fun p hp => (h.q p.2 (List.mem_map_of_mem hp)).1, fun p hp => (h.q p.2 (List.mem_map_of_mem hp)).2⟩
theorem ND.ns {ns : List Ne} (h : ND ns) : NsOk ns 6 := ⟨by have := h.len; rw [LIM_big]; omega, fun n hn => (h.n n hn).nok⟩
theorem pl_qs (l : Qs) : pl (enQs l) = true := by unfold enQs; simp only [pl]; exact plL_map (fun p => pl_q p.1 p.2) l
theorem pl_ns (l : List Ne) : pl (enNs l) = true := by unfold enNs; simp only [pl]; exact plL_map pl_ne l
theorem pl_ob (p : Ne × Option Ne) : pl (enOb p) = true := by simp [enOb, pl, plL, pl_ne, pl_on]
theorem pl_obs (l : Obs) : pl (enObs l) = true := by unfold enObs; simp only [pl]; exact plL_map pl_ob l
theorem dep_qs (l : Qs) : dep (enQs l) ≤ 4 := by
  unfold enQs; simp only [dep]
  have := depL_map (k := 3) (fun p : Bool × List Stp => dep_q p.1 p.2) l
  omega
theorem dep_ns (l : List Ne) : dep (enNs l) ≤ 4 := by
  unfold enNs; simp only [dep]
  have := depL_map (k := 3) dep_ne l
  omega
theorem dep_ob (p : Ne × Option Ne) : dep (enOb p) ≤ 4 := by
  have := dep_ne p.1
  have := dep_on p.2
  simp only [enOb, dep, depL]
  omega
theorem dep_obs (l : Obs) : dep (enObs l) ≤ 5 := by
  unfold enObs; simp only [dep]
  have := depL_map (k := 4) dep_ob l
  omega
theorem wt_qs {qs : List (List Stp)} (h : QD qs) : wt (enQs (lq qs)) ≤ 5000 := by
  rw [enQs_lq]
  simp only [wt]
  have h1 := wtL_mapM (f := enQ false) (k := 600) qs fun q hq => wt_q (h.q q hq).1 (h.q q hq).2
  have := h.len
  omega
theorem wt_ns {ns : List Ne} (h : ND ns) : wt (enNs ns) ≤ 10000 := by
  unfold enNs
  simp only [wt]
  have h1 := wtL_mapM (f := enNe) (k := 2100) ns fun n hn => wt_ne (h.n n hn)
  have := h.len
  omega
theorem wt_ob {p : Ne × Option Ne} (h : Dm p.1 6 ∧ DmO p.2) : wt (enOb p) ≤ 5000 := by
  have h1 := wt_ne h.1
  have h2 := wt_on h.2
  simp only [enOb, wt, wtL]
  omega
theorem wt_obs {o : Obs} (h : OD o) : wt (enObs o) ≤ 30000 := by
  unfold enObs
  simp only [wt]
  have h1 := wtL_mapM (f := enOb) (k := 5000) o fun p hp => wt_ob (h.o p hp)
  have := h.len
  omega
theorem repr4 {qs : List (List Stp)} {ns : List Ne} {w b : Obs} (hq : QD qs) (hn : ND ns) (hw : OD w) (hb : OD b) (M : Mem) :
    gRepr [.lst [enQs (lq qs), enNs ns, enObs w, enObs b]] M = some (.str (rp (.lst [enQs (lq qs), enNs ns, enObs w, enObs b])), M) := by
  refine repr_of (by simp [pl, plL, pl_qs, pl_ns, pl_obs]) ?_ ?_ M
  · have := dep_qs (lq qs); have := dep_ns ns; have := dep_obs w; have := dep_obs b
    simp only [dep, depL]; omega
  · have := wt_qs hq; have := wt_ns hn; have := wt_obs hw; have := wt_obs hb
    simp only [wt, wtL]; omega
/-- the indexes that are found -/
theorem expl_lt {qs : List (List Stp)} {o : Obs} {i : Nat} (h : i ∈ lexpl qs o) : i < qs.length := by
  unfold lexpl at h
  obtain ⟨p, hp, e⟩ := List.mem_map.mp h
  have h2 := (List.mem_filter.mp hp).1
  obtain ⟨q, j⟩ := p
  have := (List.mem_zipIdx' h2).1
  rw [← e]; exact this
theorem len_expl (qs : List (List Stp)) (o : Obs) : (lexpl qs o).length ≤ qs.length := by
  unfold lexpl
  rw [List.length_map]
  exact Nat.le_trans (List.length_filter_le ..) (by simp)
theorem wt_small : (List.range 10).all (fun i => Nat.ble (wt (.int (i : Int))) 10) = true := by decide +kernel
theorem wt_i {l : List Nat} (h : ∀ i ∈ l, i < 10) (hl : l.length ≤ 10) : wt (.lst (enI l)) ≤ 1000 ∧ pl (.lst (enI l)) = true ∧ dep (.lst (enI l)) ≤ 2 := by
  refine ⟨?_, ?_, ?_⟩
  · simp only [wt, enI]
    have h1 := wtL_mapM (f := fun i : Nat => T.int (i : Int)) (k := 10) l fun i hi => Nat.le_of_ble_eq_true (List.all_eq_true.mp wt_small i (by simpa using h i hi))
    omega
  · simp only [pl, enI]
    refine plL_mapM l fun i hi => ?_
    have := h i hi
    simp only [pl, Int.natAbs_natCast]
    rw [decide_eq_true_eq]
    exact Nat.lt_of_le_of_lt (Nat.log2_le_self i) (by omega)
  · simp only [dep, enI]
    have := depL_map (k := 1) (f := fun i : Nat => T.int (i : Int)) (fun _ => by simp [dep]) l
    omega
end G
end
section
set_option Elab.async false
set_option linter.all false
set_option maxRecDepth 100000
set_option maxHeartbeats 4000000
/-! the law over data -/
namespace G
open PySem PySem.Spec PyProof.Rows L2 Z PySem.SeqAt
def S0_0 : DS := dAsg 3 (dCallP 3 D_law_numbers [] (dCons (dVar 2) (dCons (dBin (gAdd false) (dC (.int 6000)) (dVar 1)) (dCons (dBin (gMul false) (dLst false (dCons (dC (.int 420)) dNil)) (dC (.int 200))) dNil))))
def S0_1 : DS := dAsg 4 (dLc false (dRange1 (dCons (dBin gMod (dBin gIx (dVar 3) (dC (.int 150))) (dC (.int 7))) dNil)) (gN 15) tYesD (dCallP 2 D_law_sequence [] (dCons (dSl false (dVar 3) (dPart (dBin (gAdd false) (dBin (gMul false) (dC (.int 20)) (dVar 15)) (dC (.int 1)))) dNoPart) (dCons (dBin gMod (dBin gIx (dVar 3) (dBin (gMul false) (dC (.int 20)) (dVar 15))) (dC (.int 7))) dNil))) [15])
def S0_2 : DS := dAsg 5 (dLc false (dRange1 (dCons (dBin gMod (dBin gIx (dVar 3) (dC (.int 151))) (dC (.int 5))) dNil)) (gN 15) tYesD (dCallP 2 D_law_nest [] (dCons (dSl false (dVar 3) (dPart (dBin (gAdd false) (dC (.int 120)) (dBin (gMul false) (dC (.int 13)) (dVar 15)))) dNoPart) (dCons (dC (.int 3)) dNil))) [15])
def S0_3 : DS := dAsg 6 (dBin gIx (dBin (gAdd false) (dVar 4) (dLst false (dCons (dLst false dNil) dNil))) (dBin gMod (dBin gIx (dVar 3) (dC (.int 152))) (dBin (gAdd false) (dCall gLen (dCons (dVar 4) dNil)) (dC (.int 1)))))
def S0_4 : DS := dAsg 7 (dLc false (dWalk (dVar 5)) (gN 16) tYesD (dTup (dCons (dVar 16) (dCons (dCallP 2 D_law_result [] (dCons (dVar 16) (dCons (dVar 6) dNil))) dNil))) [16])
def S0_5 : DS := dAsg 8 (dBin (gAdd false) (dVar 7) (dLst false (dCons (dTup (dCons (dCallP 2 D_law_nest [] (dCons (dSl false (dVar 3) (dPart (dC (.int 180))) dNoPart) (dCons (dC (.int 2)) dNil))) (dCons (dBin gIx (dLst false (dCons (dC .non) (dCons (dLst false dNil) (dCons (dLst false (dCons (dDctQ false (dQcons (dC (.str "x")) (dC (.str "1")) dPnil)) dNil)) dNil)))) (dBin gMod (dBin gIx (dVar 3) (dC (.int 153))) (dC (.int 3)))) dNil))) dNil)))
def S0_6 : DS := dAsg 9 (dCall gRepr (dCons (dLst false (dCons (dVar 4) (dCons (dVar 5) (dCons (dVar 7) (dCons (dVar 8) dNil))))) dNil))
def S0_7_0_0 : DS := dAsg 12 (dLc false (dEnum (dCons (dVar 4) dNil)) (gTup (gsCons (gN 17) (gsCons (gN 18) gsNil))) tYesD (dBin gIx (dLst false (dCons (dVar 18) (dCons (dCall gTuple (dCons (dVar 18) dNil)) dNil))) (dBin gMod (dBin (gAdd false) (dVar 17) (dVar 11)) (dC (.int 2)))) [17, 18])
def S0_7_0_1 : DS := dAsg 13 (dCallN 2 D_explaining_c [] (dCons (dVar 12) (dCons (dVar 10) dNil)))
def S0_7_0_2 : DS := dIf (dTst (dBin gNe (dCall gRepr (dCons (dVar 13) dNil)) (dCall gRepr (dCons (dCallP 2 D_law_explaining [] (dCons (dVar 4) (dCons (dVar 10) dNil))) dNil)))) (dRet (dC (.bl false))) dNx
def S0_7_0_3 : DS := dDrop (dMeth "list" gAppend (dVar 13) (dCons (dC .non) dNil))
def S0_7_0_B : DS := dSeq S0_7_0_0 (dSeq S0_7_0_1 (dSeq S0_7_0_2 S0_7_0_3))
def S0_7_0 : DS := dForW (dRange1 (dCons (dC (.int 2)) dNil)) (gN 11) S0_7_0_B [11, 12, 13]
def S0_7_B : DS := S0_7_0
def S0_7 : DS := dForW (dWalk (dLst false (dCons (dVar 7) (dCons (dVar 8) (dCons (dLst false dNil) (dCons (dSl false (dVar 7) dNoPart (dPart (dC (.int 1)))) (dCons (dRev false (dVar 8)) dNil))))))) (gN 10) S0_7_B [10, 11, 12, 13]
def S0_8_0 : DS := dIf (dTst (dBin gNe (dCallP 2 D_telling [] (dCons (dVar 4) (dCons (dVar 14) dNil))) (dCallP 2 D_law_telling [] (dCons (dVar 4) (dCons (dVar 14) dNil))))) (dRet (dC (.bl false))) dNx
def S0_8_B : DS := S0_8_0
def S0_8 : DS := dForW (dWalk (dLst false (dCons (dVar 5) (dCons (dRev false (dVar 5)) (dCons (dSl false (dVar 5) dNoPart (dPart (dC (.int 1)))) (dCons (dLst false dNil) dNil)))))) (gN 14) S0_8_B [14]
def S0_9 : DS := dIf (dOrT (dTst (dBin gNe (dCallP 2 D_telling [] (dCons (dLst false dNil) (dCons (dVar 5) dNil))) (dTup (dCons (dC .non) (dCons (dC (.int 0)) dNil))))) (dTst (dBin gNe (dCallP 2 D_telling [] (dCons (dSl false (dVar 4) dNoPart (dPart (dC (.int 1)))) (dCons (dVar 5) dNil))) (dCallP 2 D_law_telling [] (dCons (dSl false (dVar 4) dNoPart (dPart (dC (.int 1)))) (dCons (dVar 5) dNil)))))) (dRet (dC (.bl false))) dNx
def S0_10 : DS := dIf (dOrT (dTst (dBin gNe (dCallP 2 D_explaining [] (dCons (dLst false dNil) (dCons (dVar 7) dNil))) (dLst false dNil))) (dTst (dBin gNe (dCall gRepr (dCons (dLst false (dCons (dVar 4) (dCons (dVar 5) (dCons (dVar 7) (dCons (dVar 8) dNil))))) dNil)) (dVar 9)))) (dRet (dC (.bl false))) dNx
def S0_B : DS := dSeq S0_0 (dSeq S0_1 (dSeq S0_2 (dSeq S0_3 (dSeq S0_4 (dSeq S0_5 (dSeq S0_6 (dSeq S0_7 (dSeq S0_8 (dSeq S0_9 S0_10)))))))))
def S0 : DS := dForW (dEnum (dCons (dBin (gAdd false) (dSl false (dVar 0) dNoPart (dPart (dC (.int 6)))) (dBin (gMul false) (dLst false (dCons (dC (.int 7)) dNil)) (dCall gInt (dCons (dBin gEq (dVar 0) (dLst false dNil)) dNil)))) dNil)) (gTup (gsCons (gN 1) (gsCons (gN 2) gsNil))) S0_B [1, 2, 3, 4, 5, 6, 7, 8, 9, 10, 11, 12, 13, 14]
def S1 : DS := dRet (dC (.bl true))
def SB : DS := dSeq S0 S1
theorem E_law_eq : E_law = SB := rfl
theorem ixd {ds : List Int} (n : Nat) (h : n < ds.length) : atI (ds.map T.int) (n : Int) = some (.int ds[n]) := by
  rw [at_pos, List.getElem?_map, List.getElem?_eq_getElem h]; rfl
def st (scr k c : T) (o3 o4 o5 o6 o7 o8 o9 : Option T) : Sg := [some scr, some k, some c, o3, o4, o5, o6, o7, o8, o9, none, none, none, none, none, none, none, none, none]
theorem nc_ints (ds : List Int) : noCelL (ds.map T.int) = true := noCelL_map (fun _ => by simp only [noCel]) _
theorem flat_rep (n : Nat) (a : Int) : (List.replicate n [T.int a]).flatten = (List.replicate n a).map T.int := by
  induction n with
  | zero => rfl
  | succ n ih => rw [List.replicate_succ, List.flatten_cons, ih, List.replicate_succ]; rfl
section
variable {scr : T} {M : Mem}
theorem x0 (cell : Int) (k : Nat) (hk : k < 100) : ∃ ds, DigOk ds (List.replicate 200 420) ∧ S0_0 (st scr (.int (k : Int)) (.int cell) none none none none none none none) M = .nx (st scr (.int (k : Int)) (.int cell) (some (.lst (ds.map T.int))) none none none none none none) M := by
  obtain ⟨ds, h1, h2⟩ := r_law_numbers cell (6000 + (k : Int)) (List.replicate 200 420) (fun s hs => by rw [List.eq_of_mem_replicate hs]; omega) (by simp) (by omega) (by omega)
  refine ⟨ds, h1, ?_⟩
  have hz : (List.replicate 200 [T.int 420]).flatten = (List.replicate 200 420).map T.int := flat_rep 200 420
  unfold S0_0 st
  rw [List.map_replicate] at h2
  simp [-List.reduceReplicate, hz, h2]
structure Dg (ds : List Int) : Prop where
  len : ds.length = 200
  pos : Pos ds
theorem dg_of {ds : List Int} (h : DigOk ds (List.replicate 200 420)) : Dg ds := by
  have hl : ds.length = 200 := by have := h.len; simpa using this
  refine ⟨hl, fun d hd => ?_⟩
  obtain ⟨i, hi, e⟩ := List.getElem_of_mem hd
  exact (h.dig i d 420 (by rw [List.getElem?_eq_getElem hi, e]) (by rw [List.getElem?_replicate, if_pos (by omega)])).1
theorem Pos.drop {ds : List Int} (h : Pos ds) (n : Nat) : Pos (ds.drop n) := fun d hd => h d (List.mem_of_mem_drop hd)
theorem x1 {ds : List Int} (hd : Dg ds) (k c : T) : ∃ qs, QD qs ∧ S0_1 (st scr k c (some (.lst (ds.map T.int))) none none none none none none) M = .nx (st scr k c (some (.lst (ds.map T.int))) (some (enQs (lq qs))) none none none none none) M := by
  have hl := hd.len
  have h150 : atI (ds.map T.int) (150 : Int) = some (.int (ds[150]'(by omega))) := ixd (ds := ds) 150 (by omega)
  have hm := mod_rng (ds[150]'(by omega)) (b := 7) (by omega)
  have key := lcL_ex (γ := List Stp) (g := gN 15) (tt := tYesD) (de := dCallP 2 D_law_sequence [] (dCons (dSl false (dVar 3) (dPart (dBin (gAdd false) (dBin (gMul false) (dC (.int 20)) (dVar 15)) (dC (.int 1)))) dNoPart) (dCons (dBin gMod (dBin gIx (dVar 3) (dBin (gMul false) (dC (.int 20)) (dVar 15))) (dC (.int 7))) dNil))) (s0 := st scr k c (some (.lst (ds.map T.int))) none none none none none none) (M := M) (it := fun (i : Nat) => T.int (i : Int)) (en := enQ false) (Q := fun q => SqOk q ∧ q.length ≤ 6) (List.range (ds[150]'(by omega) % 7).toNat) (fun j hj => by
    have hj : j < 7 := by have := List.mem_range.mp hj; omega
    have hlt : 20 * j < ds.length := by omega
    have e1 : (20 : Int) * (j : Int) = ((20 * j : Nat) : Int) := by omega
    have e2 : (20 : Int) * (j : Int) + 1 = ((20 * j + 1 : Nat) : Int) := by omega
    have hix := ixd (ds := ds) (20 * j) hlt
    rw [← e1] at hix
    have hcut : cutT (ds.map T.int) (some (20 * (j : Int) + 1)) none = (ds.drop (20 * j + 1)).map T.int := by rw [e2, cut_lo, List.map_drop]
    have hm2 := mod_rng (ds[20 * j]'hlt) (b := 7) (by omega)
    obtain ⟨m, hmm⟩ : ∃ m : Nat, ds[20 * j]'hlt % 7 = (m : Int) := ⟨(ds[20 * j]'hlt % 7).toNat, by omega⟩
    obtain ⟨q, g1, g2, g3⟩ := r_law_sequence (ds.drop (20 * j + 1)) m (hd.pos.drop _) (by rw [List.length_drop]; omega) (by omega)
    have s1 : ∀ z : Int, (sgn 20 || sgn z) = true := fun _ => rfl
    refine ⟨[some scr, some k, some c, some (.lst (ds.map T.int)), none, none, none, none, none, none, none, none, none, none, none, some (.int (j : Int)), none, none, none], by simp [st], by simp, q, ⟨g2, by omega⟩, ?_⟩
    simp [s1, hcut, hix, hmm]
    simp at g3
    simp [g3])
  obtain ⟨qs, g1, g2, g3⟩ := key
  refine ⟨qs, ⟨by have := g1; simp at this; omega, g2⟩, ?_⟩
  have hr : Z.inR (ds[150]'(by omega) % 7) = true := inR_of hm.1 (by omega)
  unfold S0_1
  unfold st at g3 ⊢
  simp [h150, hr, rng0_map]
  rw [if_pos (by omega), g3]
  simp [enQs_lq]
theorem x2 {ds : List Int} (hd : Dg ds) (k c q4 : T) : ∃ ns, ND ns ∧ S0_2 (st scr k c (some (.lst (ds.map T.int))) (some q4) none none none none none) M = .nx (st scr k c (some (.lst (ds.map T.int))) (some q4) (some (enNs ns)) none none none none) M := by
  have hl := hd.len
  have h151 : atI (ds.map T.int) (151 : Int) = some (.int (ds[151]'(by omega))) := ixd (ds := ds) 151 (by omega)
  have hm := mod_rng (ds[151]'(by omega)) (b := 5) (by omega)
  have key := lcL_ex (γ := Ne) (g := gN 15) (tt := tYesD) (de := dCallP 2 D_law_nest [] (dCons (dSl false (dVar 3) (dPart (dBin (gAdd false) (dC (.int 120)) (dBin (gMul false) (dC (.int 13)) (dVar 15)))) dNoPart) (dCons (dC (.int 3)) dNil))) (s0 := st scr k c (some (.lst (ds.map T.int))) (some q4) none none none none none) (M := M) (it := fun (i : Nat) => T.int (i : Int)) (en := enNe) (Q := fun n => Dm n 6) (List.range (ds[151]'(by omega) % 5).toNat) (fun j hj => by
    have hj : j < 5 := by have := List.mem_range.mp hj; omega
    have e2 : (120 : Int) + 13 * (j : Int) = ((120 + 13 * j : Nat) : Int) := by omega
    have hcut : cutT (ds.map T.int) (some (120 + 13 * (j : Int))) none = (ds.drop (120 + 13 * j)).map T.int := by rw [e2, cut_lo, List.map_drop]
    obtain ⟨n, g1, g2⟩ := r_law_nest (ds.drop (120 + 13 * j)) (hd.pos.drop _) 3 (by rw [List.length_drop]; omega) (by omega)
    have s1 : ∀ z : Int, (sgn 13 || sgn z) = true := fun _ => rfl
    refine ⟨[some scr, some k, some c, some (.lst (ds.map T.int)), some q4, none, none, none, none, none, none, none, none, none, none, some (.int (j : Int)), none, none, none], by simp [st], by simp, n, g1.dm (by omega), ?_⟩
    simp at g2
    simp [s1, hcut, g2])
  obtain ⟨ns, g1, g2, g3⟩ := key
  refine ⟨ns, ⟨by have := g1; simp at this; omega, g2⟩, ?_⟩
  have hr : Z.inR (ds[151]'(by omega) % 5) = true := inR_of hm.1 (by omega)
  unfold S0_2
  unfold st at g3 ⊢
  simp [h151, hr, rng0_map]
  rw [if_pos (by omega), g3]
  simp [enNs]
theorem x3 {ds : List Int} (hd : Dg ds) {qs : List (List Stp)} (hq : QD qs) (k c q5 : T) : ∃ q0, (SqOk q0 ∧ q0.length ≤ 6) ∧ S0_3 (st scr k c (some (.lst (ds.map T.int))) (some (enQs (lq qs))) (some q5) none none none none) M = .nx (st scr k c (some (.lst (ds.map T.int))) (some (enQs (lq qs))) (some q5) (some (enQ false q0)) none none none) M := by
  have hl := hd.len
  have hql := hq.len
  have h152 : atI (ds.map T.int) (152 : Int) = some (.int (ds[152]'(by omega))) := ixd (ds := ds) 152 (by omega)
  have hm := mod_rng (ds[152]'(by omega)) (b := (qs.length : Int) + 1) (by omega)
  obtain ⟨q0, hm0, e0⟩ := at_in (xs := qs ++ [[]]) hm.1 (by simpa using hm.2)
  have e1 : atI (qs.map (enQ false) ++ [T.lst []]) (ds[152]'(by omega) % ((qs.length : Int) + 1)) = some (enQ false q0) := by
    obtain ⟨n, hn⟩ := Int.eq_ofNat_of_zero_le hm.1
    rw [hn] at e0 ⊢
    rw [show qs.map (enQ false) ++ [T.lst []] = (qs ++ [[]]).map (enQ false) by simp [enQ]]
    rw [at_pos] at e0 ⊢
    rw [List.getElem?_map, e0]; rfl
  refine ⟨q0, ?_, ?_⟩
  · rcases List.mem_append.mp hm0 with h | h
    · exact hq.q q0 h
    · have : q0 = [] := by simpa using h
      subst this
      exact ⟨fun s hs => by simp at hs, by simp⟩
  · unfold S0_3 st
    have hpos : (0 : Int) < (qs.length : Int) + 1 := by omega
    rw [enQs_lq]
    simp [h152, hpos, show qs.length + 1 ≤ 16777216 by omega, e1]
def watched (ns : List Ne) (q0 : List Stp) : Obs := ns.map fun n => (n, lout n q0)
theorem x4 {ns : List Ne} (hn : ND ns) {q0 : List Stp} (hq : q0.length ≤ 6) (k c q3 q4 : T) : S0_4 (st scr k c (some q3) (some q4) (some (enNs ns)) (some (enQ false q0)) none none none) M = .nx (st scr k c (some q3) (some q4) (some (enNs ns)) (some (enQ false q0)) (some (enObs (watched ns q0))) none none) M := by
  have key := lcL_mapM (g := gN 16) (tt := tYesD) (de := dTup (dCons (dVar 16) (dCons (dCallP 2 D_law_result [] (dCons (dVar 16) (dCons (dVar 6) dNil))) dNil))) (s0 := st scr k c (some q3) (some q4) (some (enNs ns)) (some (enQ false q0)) none none none) (M := M) (it := enNe) (p := fun _ => true) (f := fun n => enOb (n, lout n q0)) ns (fun n hm =>
    ⟨[some scr, some k, some c, some q3, some q4, some (enNs ns), some (enQ false q0), none, none, none, none, none, none, none, none, none, some (enNe n), none, none], by simp [st], by simp, fun _ => by simp [r_law_result n q0 ((hn.n n hm).s64.mono hq), enOb]⟩)
  rw [List.filter_eq_self.mpr fun _ _ => rfl] at key
  have hl := hn.len
  unfold S0_4
  simp only [enNs] at key ⊢
  unfold st at key ⊢
  simp [show ns.length ≤ 16777216 by omega]
  rw [key]
  simp [enObs, watched, List.map_map]
theorem od_watched {ns : List Ne} (hn : ND ns) {q0 : List Stp} (hq : SqOk q0 ∧ q0.length ≤ 6) : OD (watched ns q0) := by
  refine ⟨by have := hn.len; unfold watched; rw [List.length_map]; omega, fun p hp => ?_⟩
  unfold watched at hp
  obtain ⟨n, hm, e⟩ := List.mem_map.mp hp
  subst e
  exact ⟨hn.n n hm, fun m e => lout_dm q0 ((hn.n n hm).mono hq.2) hq.1 e⟩
def scx : Sc := [("x", "1")]
theorem sc_ok : ScOk scx := ⟨by simp [KeysOk, scx], fun p hp => by
  have : p = (("x" : Str), ("1" : Str)) := by simpa [scx] using hp
  rw [this]; exact ⟨by decide +kernel, by decide +kernel⟩⟩
theorem hx_scx : T.dct (mergeT [] [(("x" : Str), T.str "1")]) = enSc scx := rfl
theorem dmo_none : DmO none := fun m h => by cases h
theorem dmo_nil : DmO (some []) := fun m h => by
  cases h
  exact ⟨fun s hs => (by simp at hs), by simp⟩
theorem dmo_scx : DmO (some [scx]) := fun m h => by
  cases h
  refine ⟨fun s hs => ?_, by simp⟩
  have : s = scx := by simpa using hs
  rw [this]; exact sc_ok
theorem x5 {ds : List Int} (hd : Dg ds) {w : Obs} (hw : OD w) (hw4 : w.length ≤ 4) (k c q4 q5 q6 : T) : ∃ p : Ne × Option Ne, OD (w ++ [p]) ∧ S0_5 (st scr k c (some (.lst (ds.map T.int))) (some q4) (some q5) (some q6) (some (enObs w)) none none) M = .nx (st scr k c (some (.lst (ds.map T.int))) (some q4) (some q5) (some q6) (some (enObs w)) (some (enObs (w ++ [p]))) none) M := by
  have hl := hd.len
  have h153 : atI (ds.map T.int) (153 : Int) = some (.int (ds[153]'(by omega))) := ixd (ds := ds) 153 (by omega)
  have hm := mod_rng (ds[153]'(by omega)) (b := 3) (by omega)
  obtain ⟨n, g1, g2⟩ := r_law_nest (ds.drop 180) (hd.pos.drop _) 2 (by rw [List.length_drop]; omega) (by omega)
  have hcut : cutT (ds.map T.int) (some 180) none = (ds.drop 180).map T.int := by rw [show (180 : Int) = ((180 : Nat) : Int) from rfl, cut_lo, List.map_drop]
  obtain ⟨o, ho, e0⟩ : ∃ o : Option Ne, DmO o ∧ atI [T.non, .lst [], .lst [enSc scx]] (ds[153]'(by omega) % 3) = some (enON o) := by
    have hc : ds[153]'(by omega) % 3 = 0 ∨ ds[153]'(by omega) % 3 = 1 ∨ ds[153]'(by omega) % 3 = 2 := by omega
    rcases hc with e | e | e
    · exact ⟨none, dmo_none, by rw [e]; rfl⟩
    · exact ⟨some [], dmo_nil, by rw [e]; rfl⟩
    · exact ⟨some [scx], dmo_scx, by rw [e]; rfl⟩
  refine ⟨(n, o), ⟨by simp; omega, fun p hp => ?_⟩, ?_⟩
  · rcases List.mem_append.mp hp with hp | hp
    · exact hw.o p hp
    · have : p = (n, o) := by simpa using hp
      rw [this]; exact ⟨g1.dm (by omega), ho⟩
  · unfold S0_5 st
    simp at g2
    simp only [enObs]
    simp [hcut, g2, h153, hx_scx, e0, show w.length + 1 ≤ 16777216 by omega, enOb]
theorem x6 {qs : List (List Stp)} {ns : List Ne} {w b : Obs} (hq : QD qs) (hn : ND ns) (hw : OD w) (hb : OD b) (k c q3 q6 : T) : S0_6 (st scr k c (some q3) (some (enQs (lq qs))) (some (enNs ns)) (some q6) (some (enObs w)) (some (enObs b)) none) M
    = .nx (st scr k c (some q3) (some (enQs (lq qs))) (some (enNs ns)) (some q6) (some (enObs w)) (some (enObs b)) (some (.str (rp (.lst [enQs (lq qs), enNs ns, enObs w, enObs b]))))) M := by
  unfold S0_6 st
  simp [repr4 hq hn hw hb]
end
end G
end
section
set_option Elab.async false
set_option linter.all false
set_option maxRecDepth 100000
set_option maxHeartbeats 4000000
/-! the law's loop: what a turn does after its data is made -/
namespace G
open PySem PySem.Spec PyProof.Rows L2 Z PySem.SeqAt
def lt (j : Nat) (qs : List (List Stp)) : Qs := qs.zipIdx.map fun p => ((p.2 + j) % 2 == 1, p.1)
theorem lt_snd (j : Nat) (qs : List (List Stp)) : (lt j qs).map (·.2) = qs := by
  unfold lt
  rw [List.map_map]
  exact List.zipIdx_map_fst 0 qs
theorem at2 (q : List Stp) (i j : Nat) : atI [enQ false q, enQ true q] (((i : Int) + (j : Int)) % 2) = some (enQ ((i + j) % 2 == 1) q) := by
  have e : ((i : Int) + (j : Int)) % 2 = (((i + j) % 2 : Nat) : Int) := by omega
  rw [e, at_pos]
  have : (i + j) % 2 = 0 ∨ (i + j) % 2 = 1 := by omega
  rcases this with h | h <;> rw [h] <;> rfl
theorem celB_nc (n : Nat) {t : T} (h : noCel t = true) : celB n t = true := celB_of h
structure NcA (scr k c s3 s5 s6 s7 s8 s9 : T) : Prop where
  a0 : noCel scr = true
  a1 : noCel k = true
  a2 : noCel c = true
  a3 : noCel s3 = true
  a5 : noCel s5 = true
  a6 : noCel s6 = true
  a7 : noCel s7 = true
  a8 : noCel s8 = true
  a9 : noCel s9 = true
section
variable {scr k c s3 s5 s6 s7 s8 s9 : T}
theorem y0 {qs : List (List Stp)} (hq : QD qs) (w : T) (j : Nat) (hj : j < 2) :
    S0_7_0_0 [some scr, some k, some c, some s3, some (enQs (lq qs)), some s5, some s6, some s7, some s8, some s9, some w, some (.int (j : Int)), none, none, none, none, none, none, none] []
    = .nx [some scr, some k, some c, some s3, some (enQs (lq qs)), some s5, some s6, some s7, some s8, some s9, some w, some (.int (j : Int)), some (enQs (lt j qs)), none, none, none, none, none, none] [] := by
  have key := lcL_mapM (g := gTup (gsCons (gN 17) (gsCons (gN 18) gsNil))) (tt := tYesD) (de := dBin gIx (dLst false (dCons (dVar 18) (dCons (dCall gTuple (dCons (dVar 18) dNil)) dNil))) (dBin gMod (dBin (gAdd false) (dVar 17) (dVar 11)) (dC (.int 2))))
    (s0 := [some scr, some k, some c, some s3, some (enQs (lq qs)), some s5, some s6, some s7, some s8, some s9, some w, some (.int (j : Int)), none, none, none, none, none, none, none]) (M := []) (it := fun p : List Stp × Nat => .tup [.int (p.2 : Int), enQ false p.1]) (p := fun _ => true) (f := fun p => enQ ((p.2 + j) % 2 == 1) p.1) qs.zipIdx (fun p hp => by
      refine ⟨[some scr, some k, some c, some s3, some (enQs (lq qs)), some s5, some s6, some s7, some s8, some s9, some w, some (.int (j : Int)), none, none, none, none, none, some (.int (p.2 : Int)), some (enQ false p.1)], by simp, by simp, fun _ => ?_⟩
      have hm : p.1 ∈ qs := by
        obtain ⟨s, i⟩ := p
        exact (List.mem_zipIdx' hp).2 ▸ List.getElem_mem _
      have hl := (hq.q p.1 hm).2
      have ha := at2 p.1 p.2 j
      simp only [enQ] at ha ⊢
      simp at ha
      have tu : ∀ xs : List T, gTuple [.lst xs] [] = some (.tup xs, []) := fun _ => rfl
      simp [tu, ha, show p.1.length ≤ 16777216 by omega])
  rw [List.filter_eq_self.mpr fun _ _ => rfl] at key
  have hl := hq.len
  unfold S0_7_0_0
  rw [enQs_lq] at key ⊢
  simp [enum_map]
  rw [key]
  simp [enQs, lt, List.map_map, show qs.length ≤ 16777216 by omega]
theorem y1 {qs : List (List Stp)} (hq : QD qs) {o : Obs} (ho : OD o) (j : Nat) :
    S0_7_0_1 [some scr, some k, some c, some s3, some (enQs (lq qs)), some s5, some s6, some s7, some s8, some s9, some (enObs o), some (.int (j : Int)), some (enQs (lt j qs)), none, none, none, none, none, none] []
    = .nx [some scr, some k, some c, some s3, some (enQs (lq qs)), some s5, some s6, some s7, some s8, some s9, some (enObs o), some (.int (j : Int)), some (enQs (lt j qs)), some (.cel 0), none, none, none, none, none] [.live (.lst (enI (lexpl qs o)))] := by
  have h := r_explaining_c (hq.qs (lt_snd j qs)) ho.ob []
  rw [expl_eq (lt_snd j qs) hq.lqs.sz ho.lob] at h
  unfold S0_7_0_1
  simp at h
  simp [h]
theorem y2 {qs : List (List Stp)} (hq : QD qs) {o : Obs} (ho : OD o) (j : T) (l : T) :
    S0_7_0_2 [some scr, some k, some c, some s3, some (enQs (lq qs)), some s5, some s6, some s7, some s8, some s9, some (enObs o), some j, some l, some (.cel 0), none, none, none, none, none] [.live (.lst (enI (lexpl qs o)))]
    = .nx [some scr, some k, some c, some s3, some (enQs (lq qs)), some s5, some s6, some s7, some s8, some s9, some (enObs o), some j, some l, some (.cel 0), none, none, none, none, none] [.live (.lst (enI (lexpl qs o)))] := by
  have h := r_law_explaining hq.lqs ho.lob
  have hle := len_expl qs o
  have hql := hq.len
  obtain ⟨w1, w2, w3⟩ := wt_i (l := lexpl qs o) (fun i hi => by have := expl_lt hi; omega) (by omega)
  have r1 := repr_cel (i := 0) (xs := enI (lexpl qs o)) (M := [.live (.lst (enI (lexpl qs o)))]) rfl w2 (by omega) (by omega)
  have r2 := repr_of w2 (by omega) (by omega) [.live (.lst (enI (lexpl qs o)))]
  generalize enI (lexpl qs o) = xs at h r1 r2 ⊢
  unfold S0_7_0_2
  simp [r1, r2, h]
theorem y3 {qs : List (List Stp)} (hq : QD qs) {o : Obs} {s4 s10 : T} (j : T) (l : T) :
    S0_7_0_3 [some scr, some k, some c, some s3, some s4, some s5, some s6, some s7, some s8, some s9, some s10, some j, some l, some (.cel 0), none, none, none, none, none] [.live (.lst (enI (lexpl qs o)))]
    = .nx [some scr, some k, some c, some s3, some s4, some s5, some s6, some s7, some s8, some s9, some s10, some j, some l, some (.cel 0), none, none, none, none, none] [.live (.lst (enI (lexpl qs o) ++ [.non]))] := by
  have hle := len_expl qs o
  have hql := hq.len
  unfold S0_7_0_3
  simp [show (lexpl qs o).length < 16777216 by omega]
theorem y4 (na : NcA scr k c s3 s5 s6 s7 s8 s9) {qs : List (List Stp)} (hq : QD qs) {o : Obs} (ho : OD o) (j : Nat) (hj : j < 2) :
    dTrim [11, 12, 13] S0_7_0_B [some scr, some k, some c, some s3, some (enQs (lq qs)), some s5, some s6, some s7, some s8, some s9, some (enObs o), some (.int (j : Int)), none, none, none, none, none, none, none] []
    = .nx [some scr, some k, some c, some s3, some (enQs (lq qs)), some s5, some s6, some s7, some s8, some s9, some (enObs o), none, none, none, none, none, none, none, none] [] := by
  have h0 := y0 (scr := scr) (k := k) (c := c) (s3 := s3) (s5 := s5) (s6 := s6) (s7 := s7) (s8 := s8) (s9 := s9) hq (enObs o) j hj
  have h1 := y1 (scr := scr) (k := k) (c := c) (s3 := s3) (s5 := s5) (s6 := s6) (s7 := s7) (s8 := s8) (s9 := s9) hq ho j
  have h2 := y2 (scr := scr) (k := k) (c := c) (s3 := s3) (s5 := s5) (s6 := s6) (s7 := s7) (s8 := s8) (s9 := s9) hq ho (.int (j : Int)) (enQs (lt j qs))
  have h3 := y3 (scr := scr) (k := k) (c := c) (s3 := s3) (s5 := s5) (s6 := s6) (s7 := s7) (s8 := s8) (s9 := s9) hq (o := o) (s4 := enQs (lq qs)) (s10 := enObs o) (.int (j : Int)) (enQs (lt j qs))
  rw [u_trim]
  have hb : S0_7_0_B [some scr, some k, some c, some s3, some (enQs (lq qs)), some s5, some s6, some s7, some s8, some s9, some (enObs o), some (.int (j : Int)), none, none, none, none, none, none, none] []
      = .nx [some scr, some k, some c, some s3, some (enQs (lq qs)), some s5, some s6, some s7, some s8, some s9, some (enObs o), some (.int (j : Int)), some (enQs (lt j qs)), some (.cel 0), none, none, none, none, none] [.live (.lst (enI (lexpl qs o) ++ [.non]))] := by
    unfold S0_7_0_B
    rw [u_seq, h0]
    show (dSeq S0_7_0_1 (dSeq S0_7_0_2 S0_7_0_3)) _ _ = _
    rw [u_seq, h1]
    show (dSeq S0_7_0_2 S0_7_0_3) _ _ = _
    rw [u_seq, h2]
    show S0_7_0_3 _ _ = _
    exact h3
  rw [hb]
  exact w_kTrim1 _ (Nat.zero_le _) (by
    show ([some scr, some k, some c, some s3, some (enQs (lq qs)), some s5, some s6, some s7, some s8, some s9, some (enObs o), none, none, none, none, none, none, none, none] : Sg).all (slotB 0) = true
    simp only [List.all_cons, List.all_nil, slotB, celB_nc 0 na.a0, celB_nc 0 na.a1, celB_nc 0 na.a2, celB_nc 0 na.a3, celB_nc 0 na.a5, celB_nc 0 na.a6, celB_nc 0 na.a7, celB_nc 0 na.a8, celB_nc 0 na.a9, celB_nc 0 (nc_qs _), celB_nc 0 (nc_obs _), Bool.and_true, Bool.and_self]) (by rfl)
theorem y5 (na : NcA scr k c s3 s5 s6 s7 s8 s9) {qs : List (List Stp)} (hq : QD qs) {o : Obs} (ho : OD o) :
    dTrim [10, 11, 12, 13] S0_7_B [some scr, some k, some c, some s3, some (enQs (lq qs)), some s5, some s6, some s7, some s8, some s9, some (enObs o), none, none, none, none, none, none, none, none] []
    = .nx [some scr, some k, some c, some s3, some (enQs (lq qs)), some s5, some s6, some s7, some s8, some s9, none, none, none, none, none, none, none, none, none] [] := by
  have key := (forL_foldM (α := Unit) (g := gN 11) (b := dTrim [11, 12, 13] S0_7_0_B) (it := fun j : Nat => T.int (j : Int)) (sO := fun _ => [some scr, some k, some c, some s3, some (enQs (lq qs)), some s5, some s6, some s7, some s8, some s9, some (enObs o), none, none, none, none, none, none, none, none]) (mO := fun _ => []) (f := fun a _ => a) (Inv := fun _ _ => True) (List.range 2) (fun j hj r a _ =>
    ⟨_, rfl, y4 na hq ho j (List.mem_range.mp hj), trivial⟩) () trivial).1
  unfold S0_7_B S0_7_0
  rw [← rng0_map] at key
  have hr : Z.inR 2 = true := rfl
  simp [hr]
  rw [key]
  simp [w_kTrim0]
theorem od_take {o : Obs} (h : OD o) (n : Nat) : OD (o.take n) := ⟨by have := h.len; rw [List.length_take]; omega, fun p hp => h.o p (List.mem_of_mem_take hp)⟩
theorem od_rev {o : Obs} (h : OD o) : OD o.reverse := ⟨by have := h.len; rw [List.length_reverse]; omega, fun p hp => h.o p (List.mem_reverse.mp hp)⟩
theorem od_nil : OD [] := ⟨by simp, fun p hp => by simp at hp⟩
theorem x7 {w b : Obs} (na : NcA scr k c s3 s5 s6 (enObs w) (enObs b) s9) {qs : List (List Stp)} (hq : QD qs) (hw : OD w) (hb : OD b) :
    S0_7 [some scr, some k, some c, some s3, some (enQs (lq qs)), some s5, some s6, some (enObs w), some (enObs b), some s9, none, none, none, none, none, none, none, none, none] []
    = .nx [some scr, some k, some c, some s3, some (enQs (lq qs)), some s5, some s6, some (enObs w), some (enObs b), some s9, none, none, none, none, none, none, none, none, none] [] := by
  have key := (forL_foldM (α := Unit) (g := gN 10) (b := dTrim [10, 11, 12, 13] S0_7_B) (it := enObs) (sO := fun _ => [some scr, some k, some c, some s3, some (enQs (lq qs)), some s5, some s6, some (enObs w), some (enObs b), some s9, none, none, none, none, none, none, none, none, none]) (mO := fun _ => []) (f := fun a _ => a) (Inv := fun _ _ => True) [w, b, [], w.take 1, b.reverse] (fun o ho r a _ =>
    ⟨_, rfl, y5 (na := na) hq (o := o) (by
      simp only [List.mem_cons, List.not_mem_nil, or_false] at ho
      rcases ho with rfl | rfl | rfl | rfl | rfl
      · exact hw
      · exact hb
      · exact od_nil
      · exact od_take hw 1
      · exact od_rev hb), trivial⟩) () trivial).1
  have e1 : enObs (w.take 1) = .lst ((w.map enOb).take 1) := by unfold enObs; rw [List.map_take]
  have e2 : enObs b.reverse = .lst ((b.map enOb).reverse) := by unfold enObs; rw [List.map_reverse]
  have e3 : enObs [] = .lst [] := rfl
  unfold S0_7
  simp only [List.map_cons, List.map_nil, e1, e2, e3] at key
  simp only [enObs] at key ⊢
  simp
  exact key
/-! telling, the rest -/
theorem q_non : eqF true eqDepth .non .non = some true := rfl
theorem q_int (a b : Int) : eqF true eqDepth (.int a) (.int b) = some (a == b) := rfl
theorem ne_same_tel (qs : List (List Stp)) (ns : List Ne) (M : Mem) : gNe (telL qs ns) (telL qs ns) M = some (.bl false, M) := by
  unfold telL tel
  split <;> simp [allZ, q_non, q_int]
theorem nd_take {o : List Ne} (h : ND o) (n : Nat) : ND (o.take n) := ⟨by have := h.len; rw [List.length_take]; omega, fun p hp => h.n p (List.mem_of_mem_take hp)⟩
theorem nd_rev {o : List Ne} (h : ND o) : ND o.reverse := ⟨by have := h.len; rw [List.length_reverse]; omega, fun p hp => h.n p (List.mem_reverse.mp hp)⟩
theorem nd_nil : ND [] := ⟨by simp, fun p hp => by simp at hp⟩
theorem qd_take {o : List (List Stp)} (h : QD o) (n : Nat) : QD (o.take n) := ⟨by have := h.len; rw [List.length_take]; omega, fun p hp => h.q p (List.mem_of_mem_take hp)⟩
theorem qd_nil : QD [] := ⟨by simp, fun p hp => by simp at hp⟩
theorem tell1 {qs : List (List Stp)} (hq : QD qs) {ns : List Ne} (hn : ND ns) (M : Mem) : runP D_telling [enQs (lq qs), enNs ns] M = .ok (telL qs ns) M := by
  have h := r_telling (hq.qs (lq_snd qs)) hn.ns M
  rw [lq_snd, tel_eq hq.lqs.sz fun n hm => (hn.n n hm).s64] at h
  exact h
theorem tell2 {qs : List (List Stp)} (hq : QD qs) {ns : List Ne} (hn : ND ns) (M : Mem) : runP D_law_telling [enQs (lq qs), enNs ns] M = .ok (telL qs ns) M :=
  r_law_telling hq.lqs hn.ns.len (fun n hm => (hn.n n hm).s64) M
theorem z8 {qs : List (List Stp)} (hq : QD qs) {ns : List Ne} (hn : ND ns) :
    dTrim [14] S0_8_B [some scr, some k, some c, some s3, some (enQs (lq qs)), some s5, some s6, some s7, some s8, some s9, none, none, none, none, some (enNs ns), none, none, none, none] []
    = .nx [some scr, some k, some c, some s3, some (enQs (lq qs)), some s5, some s6, some s7, some s8, some s9, none, none, none, none, none, none, none, none, none] [] := by
  have h1 := fun M => tell1 hq hn M
  have h2 := fun M => tell2 hq hn M
  have h3 := fun M => ne_same_tel qs ns M
  generalize telL qs ns = t at h1 h2 h3
  simp only [ne_def'] at h3
  unfold S0_8_B S0_8_0
  simp [h1, h2, h3, w_kTrim0]
theorem x8 {qs : List (List Stp)} (hq : QD qs) {ns : List Ne} (hn : ND ns) :
    S0_8 [some scr, some k, some c, some s3, some (enQs (lq qs)), some (enNs ns), some s6, some s7, some s8, some s9, none, none, none, none, none, none, none, none, none] []
    = .nx [some scr, some k, some c, some s3, some (enQs (lq qs)), some (enNs ns), some s6, some s7, some s8, some s9, none, none, none, none, none, none, none, none, none] [] := by
  have key := (forL_foldM (α := Unit) (g := gN 14) (b := dTrim [14] S0_8_B) (it := enNs) (sO := fun _ => [some scr, some k, some c, some s3, some (enQs (lq qs)), some (enNs ns), some s6, some s7, some s8, some s9, none, none, none, none, none, none, none, none, none]) (mO := fun _ => []) (f := fun a _ => a) (Inv := fun _ _ => True) [ns, ns.reverse, ns.take 1, []] (fun o ho r a _ =>
    ⟨_, rfl, z8 hq (ns := o) (by
      simp only [List.mem_cons, List.not_mem_nil, or_false] at ho
      rcases ho with rfl | rfl | rfl | rfl
      · exact hn
      · exact nd_rev hn
      · exact nd_take hn 1
      · exact nd_nil), trivial⟩) () trivial).1
  have e1 : enNs (ns.take 1) = .lst ((ns.map enNe).take 1) := by unfold enNs; rw [List.map_take]
  have e2 : enNs ns.reverse = .lst ((ns.map enNe).reverse) := by unfold enNs; rw [List.map_reverse]
  have e3 : enNs [] = .lst [] := rfl
  unfold S0_8
  simp only [List.map_cons, List.map_nil, e1, e2, e3] at key
  simp only [enNs] at key ⊢
  simp
  exact key
theorem x9 {qs : List (List Stp)} (hq : QD qs) {ns : List Ne} (hn : ND ns) :
    S0_9 [some scr, some k, some c, some s3, some (enQs (lq qs)), some (enNs ns), some s6, some s7, some s8, some s9, none, none, none, none, none, none, none, none, none] []
    = .nx [some scr, some k, some c, some s3, some (enQs (lq qs)), some (enNs ns), some s6, some s7, some s8, some s9, none, none, none, none, none, none, none, none, none] [] := by
  have h1 := fun M => tell1 (qd_take hq 1) hn M
  have h2 := fun M => tell2 (qd_take hq 1) hn M
  have h3 := fun M => ne_same_tel (qs.take 1) ns M
  have h4 := fun M => tell1 qd_nil hn M
  have e4 : telL [] ns = .tup [.non, .int 0] := by unfold telL; rw [if_pos (by simp)]
  have e5 : enQs (lq []) = .lst [] := rfl
  have e6 : enQs (lq (qs.take 1)) = .lst ((qs.map (enQ false)).take 1) := by rw [enQs_lq, List.map_take]
  rw [e4, e5] at h4
  generalize telL (qs.take 1) ns = t at h1 h2 h3
  rw [e6] at h1 h2
  simp only [ne_def'] at h3
  rw [enQs_lq]
  unfold S0_9
  simp [h1, h2, h3, h4, allZ, q_non, q_int]
theorem x10 {qs : List (List Stp)} (hq : QD qs) {ns : List Ne} (hn : ND ns) {w b : Obs} (hw : OD w) (hb : OD b) :
    S0_10 [some scr, some k, some c, some s3, some (enQs (lq qs)), some (enNs ns), some s6, some (enObs w), some (enObs b), some (.str (rp (.lst [enQs (lq qs), enNs ns, enObs w, enObs b]))), none, none, none, none, none, none, none, none, none] []
    = .nx [some scr, some k, some c, some s3, some (enQs (lq qs)), some (enNs ns), some s6, some (enObs w), some (enObs b), some (.str (rp (.lst [enQs (lq qs), enNs ns, enObs w, enObs b]))), none, none, none, none, none, none, none, none, none] [] := by
  have h1 := fun M => r_explaining (qd_nil.qs (lq_snd [])) hw.ob M
  have e5 : enQs (lq []) = .lst [] := rfl
  have e6 : expl (lq []) w = [] := rfl
  have e7 : enI [] = [] := rfl
  rw [e5, e6, e7] at h1
  have h2 := repr4 hq hn hw hb []
  generalize rp (.lst [enQs (lq qs), enNs ns, enObs w, enObs b]) = r at h2 ⊢
  unfold S0_10
  simp [h1, h2, allZ]
end
end G
end
section
set_option Elab.async false
set_option linter.all false
set_option maxRecDepth 100000
set_option maxHeartbeats 4000000
/-! the law answers True -/
namespace G
open PySem PySem.Spec PyProof.Rows L2 Z PySem.SeqAt
theorem chain {a : DS} {b : DS} {s s' : Sg} {M M' : Mem} {r : OutS} (h : a s M = .nx s' M') (h2 : b s' M' = r) : dSeq a b s M = r := by
  rw [u_seq, h]
  exact h2
theorem turn (scr : T) (hs : noCel scr = true) (k : Nat) (hk : k < 100) (cell : Int) :
    dTrim [1, 2, 3, 4, 5, 6, 7, 8, 9, 10, 11, 12, 13, 14] S0_B (st scr (.int (k : Int)) (.int cell) none none none none none none none) []
    = .nx [some scr, none, none, none, none, none, none, none, none, none, none, none, none, none, none, none, none, none, none] [] := by
  obtain ⟨ds, g0, h0⟩ := x0 (scr := scr) (M := []) cell k hk
  have hd := dg_of g0
  obtain ⟨qs, hq, h1⟩ := x1 (scr := scr) (M := []) hd (.int (k : Int)) (.int cell)
  obtain ⟨ns, hn, h2⟩ := x2 (scr := scr) (M := []) hd (.int (k : Int)) (.int cell) (enQs (lq qs))
  obtain ⟨q0, hq0, h3⟩ := x3 (scr := scr) (M := []) hd hq (.int (k : Int)) (.int cell) (enNs ns)
  have h4 := x4 (scr := scr) (M := []) hn hq0.2 (.int (k : Int)) (.int cell) (.lst (ds.map T.int)) (enQs (lq qs))
  have hw := od_watched hn hq0
  have hw4 : (watched ns q0).length ≤ 4 := by unfold watched; rw [List.length_map]; exact hn.len
  obtain ⟨p, hb, h5⟩ := x5 (scr := scr) (M := []) hd hw hw4 (.int (k : Int)) (.int cell) (enQs (lq qs)) (enNs ns) (enQ false q0)
  generalize watched ns q0 = w at h4 hw hb h5
  have h6 := x6 (scr := scr) (M := []) hq hn hw hb (.int (k : Int)) (.int cell) (.lst (ds.map T.int)) (enQ false q0)
  have na : NcA scr (.int (k : Int)) (.int cell) (.lst (ds.map T.int)) (enNs ns) (enQ false q0) (enObs w) (enObs (w ++ [p])) (.str (rp (.lst [enQs (lq qs), enNs ns, enObs w, enObs (w ++ [p])]))) :=
    ⟨hs, by simp only [noCel], by simp only [noCel], by simp only [noCel]; exact nc_ints ds, nc_ns ns, nc_q false q0, nc_obs w, nc_obs _, by simp only [noCel]⟩
  have h7 := x7 na hq hw hb
  have h8 := x8 (scr := scr) (k := .int (k : Int)) (c := .int cell) (s3 := .lst (ds.map T.int)) (s6 := enQ false q0) (s7 := enObs w) (s8 := enObs (w ++ [p])) (s9 := .str (rp (.lst [enQs (lq qs), enNs ns, enObs w, enObs (w ++ [p])]))) hq hn
  have h9 := x9 (scr := scr) (k := .int (k : Int)) (c := .int cell) (s3 := .lst (ds.map T.int)) (s6 := enQ false q0) (s7 := enObs w) (s8 := enObs (w ++ [p])) (s9 := .str (rp (.lst [enQs (lq qs), enNs ns, enObs w, enObs (w ++ [p])]))) hq hn
  have h10 := x10 (scr := scr) (k := .int (k : Int)) (c := .int cell) (s3 := .lst (ds.map T.int)) (s6 := enQ false q0) hq hn hw hb
  unfold st at h0 h1 h2 h3 h4 h5 h6 ⊢
  rw [u_trim]
  unfold S0_B
  have hb := chain (b := dSeq S0_1 (dSeq S0_2 (dSeq S0_3 (dSeq S0_4 (dSeq S0_5 (dSeq S0_6 (dSeq S0_7 (dSeq S0_8 (dSeq S0_9 S0_10))))))))) h0 (chain (b := dSeq S0_2 (dSeq S0_3 (dSeq S0_4 (dSeq S0_5 (dSeq S0_6 (dSeq S0_7 (dSeq S0_8 (dSeq S0_9 S0_10)))))))) h1 (chain (b := dSeq S0_3 (dSeq S0_4 (dSeq S0_5 (dSeq S0_6 (dSeq S0_7 (dSeq S0_8 (dSeq S0_9 S0_10))))))) h2 (chain (b := dSeq S0_4 (dSeq S0_5 (dSeq S0_6 (dSeq S0_7 (dSeq S0_8 (dSeq S0_9 S0_10)))))) h3 (chain (b := dSeq S0_5 (dSeq S0_6 (dSeq S0_7 (dSeq S0_8 (dSeq S0_9 S0_10))))) h4 (chain (b := dSeq S0_6 (dSeq S0_7 (dSeq S0_8 (dSeq S0_9 S0_10)))) h5 (chain (b := dSeq S0_7 (dSeq S0_8 (dSeq S0_9 S0_10))) h6 (chain (b := dSeq S0_8 (dSeq S0_9 S0_10)) h7 (chain (b := dSeq S0_9 S0_10) h8 (chain (b := S0_10) h9 h10)))))))))
  rw [hb]
  simp [w_kTrim0]
end G
end
section
set_option Elab.async false
set_option linter.all false
set_option maxRecDepth 100000
set_option maxHeartbeats 4000000
/-! the law answers True -/
namespace G
open PySem PySem.Spec PyProof.Rows L2 Z PySem.SeqAt
def cells (ns : List Int) : List Int := ns.take 6 ++ (if ns = [] then [7] else [])
theorem cells_len (ns : List Int) : (cells ns).length < 100 := by
  unfold cells
  rw [List.length_append, List.length_take]
  split <;> simp <;> omega
theorem outer (ns : List Int) : forL (gTup (gsCons (gN 1) (gsCons (gN 2) gsNil))) (dTrim [1, 2, 3, 4, 5, 6, 7, 8, 9, 10, 11, 12, 13, 14] S0_B) (enumT ((cells ns).map T.int))
    [some (.fz (ns.map T.int)), none, none, none, none, none, none, none, none, none, none, none, none, none, none, none, none, none, none] []
    = .nx [some (.fz (ns.map T.int)), none, none, none, none, none, none, none, none, none, none, none, none, none, none, none, none, none, none] [] := by
  rw [enum_map]
  exact (forL_foldM (α := Unit) (it := fun p : Int × Nat => T.tup [.int (p.2 : Int), .int p.1]) (sO := fun _ => [some (.fz (ns.map T.int)), none, none, none, none, none, none, none, none, none, none, none, none, none, none, none, none, none, none]) (mO := fun _ => []) (f := fun a _ => a) (Inv := fun _ _ => True) (cells ns).zipIdx (fun p hp r a _ =>
    ⟨st (.fz (ns.map T.int)) (.int (p.2 : Int)) (.int p.1) none none none none none none none, by simp [st], turn (.fz (ns.map T.int)) (by simp only [noCel]; exact nc_ints ns) p.2 (by
      obtain ⟨s, i⟩ := p
      have := (List.mem_zipIdx' hp).1
      have := cells_len ns
      show i < 100
      omega) p.1, trivial⟩) () trivial).1
theorem law_true (ns : List Int) (h : ns.length ≤ 63) : ∃ M', D_law [.fz (ns.map T.int)] [] = .ok (.bl true) M' := by
  have ho := outer ns
  have key : ∃ M', E_law [some (.fz (ns.map T.int)), none, none, none, none, none, none, none, none, none, none, none, none, none, none, none, none, none, none] [] = .rt (.bl true) M' := by
    rw [E_law_eq]
    unfold SB
    have cut6 : ∀ xs : List T, cutT xs none (some 6) = xs.take 6 := fun xs => cut_hi xs 6
    have s1 : ∀ s M, S1 s M = .rt (.bl true) M := fun _ _ => rfl
    refine ⟨[], chain (b := S1) (s' := [some (.fz (ns.map T.int)), none, none, none, none, none, none, none, none, none, none, none, none, none, none, none, none, none, none]) (M' := []) ?_ (s1 _ _)⟩
    unfold S0
    cases ns with
    | nil =>
      have e : (cells []).map T.int = [.int 7] := by simp [cells]
      rw [e] at ho
      simp [allZ, cut6]
      simp at ho
      exact ho
    | cons a r =>
      have e : (cells (a :: r)).map T.int = ((a :: r).map T.int).take 6 := by
        unfold cells
        rw [if_neg (by simp), List.append_nil, List.map_take]
      rw [e] at ho
      have hl : min 5 r.length + 1 ≤ 16777216 := by omega
      have hl2 : min 5 r.length ≤ 16777215 := by omega
      simp [allZ, cut6, hl, hl2] at ho ⊢
      exact ho
  obtain ⟨M', e⟩ := key
  have es : startS 19 [.fz (ns.map T.int)] = [some (.fz (ns.map T.int)), none, none, none, none, none, none, none, none, none, none, none, none, none, none, none, none, none, none] := by simp [startS]
  refine ⟨M', ?_⟩
  unfold D_law
  refine runD_rt ?_
  rw [es]
  exact e
end G
end
section
set_option Elab.async false
set_option linter.all false
set_option maxRecDepth 100000
set_option maxHeartbeats 4000000
/-! the walk -/
namespace G
open PySem PySem.Spec PyProof.Rows L2 Z PySem.SeqAt
def top (i : Nat) : Stmt := PySem.Challenge.pw_scopeeffect_k60_observations_explained.main.body.getD i (.Pass ⟨0, 0, 0, 0⟩)
abbrev s_law_numbers : Stmt := top 31
def sc_law_numbers : Scope := Scope.mk .function [("_law_cell", .local), ("_law_salt", .local), ("_law_sizes", .local), ("_law_number", .local), ("_law_left", .local), ("_law_result_here", .local), ("_law_k", .local), ("_law_one", .local), ("max", .globalImplicit), ("range", .globalImplicit), ("len", .globalImplicit)] false false []
def N_law_numbers : List Str := ["_law_cell", "_law_salt", "_law_sizes", "_law_number", "_law_left", "_law_result_here", "_law_k", "_law_one"]
def J_law_numbers : Ix := ⟨N_law_numbers, sc_law_numbers, fun _ => true⟩
theorem F_law_numbers_0 : varB J_law_numbers 0 "_law_cell" = true ∧ glB J_law_numbers "max" = true ∧ stB J_law_numbers 3 "_law_number" = true ∧ varB J_law_numbers 3 "_law_number" = true ∧ stB J_law_numbers 4 "_law_left" = true ∧ stB J_law_numbers 5 "_law_result_here" = true ∧ varB J_law_numbers 2 "_law_sizes" = true ∧ glB J_law_numbers "len" = true ∧ glB J_law_numbers "range" = true ∧ stB J_law_numbers 6 "_law_k" = true ∧ varB J_law_numbers 4 "_law_left" = true ∧ varB J_law_numbers 5 "_law_result_here" = true ∧ varB J_law_numbers 6 "_law_k" = true ∧ varB J_law_numbers 1 "_law_salt" = true ∧ stB J_law_numbers 7 "_law_one" = true ∧ varB J_law_numbers 7 "_law_one" = true := by decide +kernel
theorem q_law_numbers_0 : varB J_law_numbers 0 "_law_cell" = true := F_law_numbers_0.1
theorem q_law_numbers_1 : glB J_law_numbers "max" = true := F_law_numbers_0.2.1
theorem q_law_numbers_2 : stB J_law_numbers 3 "_law_number" = true := F_law_numbers_0.2.2.1
theorem q_law_numbers_3 : varB J_law_numbers 3 "_law_number" = true := F_law_numbers_0.2.2.2.1
theorem q_law_numbers_4 : stB J_law_numbers 4 "_law_left" = true := F_law_numbers_0.2.2.2.2.1
theorem q_law_numbers_5 : stB J_law_numbers 5 "_law_result_here" = true := F_law_numbers_0.2.2.2.2.2.1
theorem q_law_numbers_6 : varB J_law_numbers 2 "_law_sizes" = true := F_law_numbers_0.2.2.2.2.2.2.1
theorem q_law_numbers_7 : glB J_law_numbers "len" = true := F_law_numbers_0.2.2.2.2.2.2.2.1
theorem q_law_numbers_8 : glB J_law_numbers "range" = true := F_law_numbers_0.2.2.2.2.2.2.2.2.1
theorem q_law_numbers_9 : stB J_law_numbers 6 "_law_k" = true := F_law_numbers_0.2.2.2.2.2.2.2.2.2.1
theorem q_law_numbers_10 : varB J_law_numbers 4 "_law_left" = true := F_law_numbers_0.2.2.2.2.2.2.2.2.2.2.1
theorem q_law_numbers_11 : varB J_law_numbers 5 "_law_result_here" = true := F_law_numbers_0.2.2.2.2.2.2.2.2.2.2.2.1
theorem q_law_numbers_12 : varB J_law_numbers 6 "_law_k" = true := F_law_numbers_0.2.2.2.2.2.2.2.2.2.2.2.2.1
theorem q_law_numbers_13 : varB J_law_numbers 1 "_law_salt" = true := F_law_numbers_0.2.2.2.2.2.2.2.2.2.2.2.2.2.1
theorem q_law_numbers_14 : stB J_law_numbers 7 "_law_one" = true := F_law_numbers_0.2.2.2.2.2.2.2.2.2.2.2.2.2.2.1
theorem q_law_numbers_15 : varB J_law_numbers 7 "_law_one" = true := F_law_numbers_0.2.2.2.2.2.2.2.2.2.2.2.2.2.2.2
theorem e_law_numbers : defScope s_law_numbers = sc_law_numbers := by kernel_rfl
theorem S_law_numbers : FnScope N_law_numbers ["_law_cell", "_law_salt", "_law_sizes"] sc_law_numbers := ⟨rfl, rfl, rfl, by decide +kernel, by decide +kernel, by decide +kernel, by decide +kernel⟩
abbrev s_law_step : Stmt := top 33
def sc_law_step : Scope := Scope.mk .function [("_law_digits", .local), ("_law_word", .local), ("_law_name", .local), ("_law_value", .local)] false false []
def N_law_step : List Str := ["_law_digits", "_law_word", "_law_name", "_law_value"]
def J_law_step : Ix := ⟨N_law_step, sc_law_step, fun _ => true⟩
theorem F_law_step_0 : varB J_law_step 0 "_law_digits" = true ∧ stB J_law_step 1 "_law_word" = true ∧ lcB J_law_step 2 "_law_name" = true ∧ lcB J_law_step 3 "_law_value" = true ∧ varB J_law_step 1 "_law_word" = true ∧ varB J_law_step 2 "_law_name" = true ∧ varB J_law_step 3 "_law_value" = true := by decide +kernel
theorem q_law_step_0 : varB J_law_step 0 "_law_digits" = true := F_law_step_0.1
theorem q_law_step_1 : stB J_law_step 1 "_law_word" = true := F_law_step_0.2.1
theorem q_law_step_2 : lcB J_law_step 2 "_law_name" = true := F_law_step_0.2.2.1
theorem q_law_step_3 : lcB J_law_step 3 "_law_value" = true := F_law_step_0.2.2.2.1
theorem q_law_step_4 : varB J_law_step 1 "_law_word" = true := F_law_step_0.2.2.2.2.1
theorem q_law_step_5 : varB J_law_step 2 "_law_name" = true := F_law_step_0.2.2.2.2.2.1
theorem q_law_step_6 : varB J_law_step 3 "_law_value" = true := F_law_step_0.2.2.2.2.2.2
theorem e_law_step : defScope s_law_step = sc_law_step := by kernel_rfl
theorem S_law_step : FnScope N_law_step ["_law_digits"] sc_law_step := ⟨rfl, rfl, rfl, by decide +kernel, by decide +kernel, by decide +kernel, by decide +kernel⟩
abbrev s_law_sequence : Stmt := top 34
def sc_law_sequence : Scope := Scope.mk .function [("_law_digits", .cell), ("_law_many", .local), ("range", .globalImplicit)] false false [("fast", .str "_law_digits"), ("fast", .str "_law_many"), ("fast", .str "_law_k")]
def sc_law_sequence_1 : Scope := Scope.mk .function [(".0", .local), ("_law_k", .local), ("_law_step", .globalImplicit), ("_law_digits", .free)] false false []
def N_law_sequence : List Str := ["_law_digits", "_law_many", "_law_k"]
def J_law_sequence : Ix := ⟨N_law_sequence, sc_law_sequence, fun _ => true⟩
theorem F_law_sequence_0 : varB J_law_sequence 1 "_law_many" = true ∧ glB J_law_sequence "range" = true ∧ blkB J_law_sequence sc_law_sequence_1 [("_law_k", 2)] = true ∧ stB (J_law_sequence.blk sc_law_sequence_1) 2 "_law_k" = true ∧ varB (J_law_sequence.blk sc_law_sequence_1) 0 "_law_digits" = true ∧ varB (J_law_sequence.blk sc_law_sequence_1) 2 "_law_k" = true ∧ glB (J_law_sequence.blk sc_law_sequence_1) "_law_step" = true := by decide +kernel
theorem q_law_sequence_0 : varB J_law_sequence 1 "_law_many" = true := F_law_sequence_0.1
theorem q_law_sequence_1 : glB J_law_sequence "range" = true := F_law_sequence_0.2.1
theorem q_law_sequence_2 : blkB J_law_sequence sc_law_sequence_1 [("_law_k", 2)] = true := F_law_sequence_0.2.2.1
theorem q_law_sequence_3 : stB (J_law_sequence.blk sc_law_sequence_1) 2 "_law_k" = true := F_law_sequence_0.2.2.2.1
theorem q_law_sequence_4 : varB (J_law_sequence.blk sc_law_sequence_1) 0 "_law_digits" = true := F_law_sequence_0.2.2.2.2.1
theorem q_law_sequence_5 : varB (J_law_sequence.blk sc_law_sequence_1) 2 "_law_k" = true := F_law_sequence_0.2.2.2.2.2.1
theorem q_law_sequence_6 : glB (J_law_sequence.blk sc_law_sequence_1) "_law_step" = true := F_law_sequence_0.2.2.2.2.2.2
theorem e_law_sequence : defScope s_law_sequence = sc_law_sequence := by kernel_rfl
theorem S_law_sequence : FnScope N_law_sequence ["_law_digits", "_law_many"] sc_law_sequence := ⟨rfl, rfl, rfl, by decide +kernel, by decide +kernel, by decide +kernel, by decide +kernel⟩
abbrev s_law_nest : Stmt := top 32
def sc_law_nest : Scope := Scope.mk .function [("_law_digits", .local), ("_law_deep", .local), ("_law_result_here", .local), ("_law_k", .local), ("_law_scope", .local), ("_law_at", .local), ("_law_name", .local), ("_law_value", .local), ("range", .globalImplicit), ("enumerate", .globalImplicit)] false false []
def N_law_nest : List Str := ["_law_digits", "_law_deep", "_law_result_here", "_law_k", "_law_scope", "_law_at", "_law_name", "_law_value"]
def J_law_nest : Ix := ⟨N_law_nest, sc_law_nest, fun _ => true⟩
theorem F_law_nest_0 : stB J_law_nest 2 "_law_result_here" = true ∧ varB J_law_nest 0 "_law_digits" = true ∧ varB J_law_nest 1 "_law_deep" = true ∧ glB J_law_nest "range" = true ∧ stB J_law_nest 3 "_law_k" = true ∧ stB J_law_nest 4 "_law_scope" = true ∧ glB J_law_nest "enumerate" = true ∧ stB J_law_nest 6 "_law_name" = true ∧ stB J_law_nest 5 "_law_at" = true ∧ varB J_law_nest 3 "_law_k" = true ∧ varB J_law_nest 5 "_law_at" = true ∧ stB J_law_nest 7 "_law_value" = true ∧ varB J_law_nest 7 "_law_value" = true ∧ varB J_law_nest 4 "_law_scope" = true ∧ varB J_law_nest 6 "_law_name" = true ∧ varB J_law_nest 2 "_law_result_here" = true := by decide +kernel
theorem q_law_nest_0 : stB J_law_nest 2 "_law_result_here" = true := F_law_nest_0.1
theorem q_law_nest_1 : varB J_law_nest 0 "_law_digits" = true := F_law_nest_0.2.1
theorem q_law_nest_2 : varB J_law_nest 1 "_law_deep" = true := F_law_nest_0.2.2.1
theorem q_law_nest_3 : glB J_law_nest "range" = true := F_law_nest_0.2.2.2.1
theorem q_law_nest_4 : stB J_law_nest 3 "_law_k" = true := F_law_nest_0.2.2.2.2.1
theorem q_law_nest_5 : stB J_law_nest 4 "_law_scope" = true := F_law_nest_0.2.2.2.2.2.1
theorem q_law_nest_6 : glB J_law_nest "enumerate" = true := F_law_nest_0.2.2.2.2.2.2.1
theorem q_law_nest_7 : stB J_law_nest 6 "_law_name" = true := F_law_nest_0.2.2.2.2.2.2.2.1
theorem q_law_nest_8 : stB J_law_nest 5 "_law_at" = true := F_law_nest_0.2.2.2.2.2.2.2.2.1
theorem q_law_nest_9 : varB J_law_nest 3 "_law_k" = true := F_law_nest_0.2.2.2.2.2.2.2.2.2.1
theorem q_law_nest_10 : varB J_law_nest 5 "_law_at" = true := F_law_nest_0.2.2.2.2.2.2.2.2.2.2.1
theorem q_law_nest_11 : stB J_law_nest 7 "_law_value" = true := F_law_nest_0.2.2.2.2.2.2.2.2.2.2.2.1
theorem q_law_nest_12 : varB J_law_nest 7 "_law_value" = true := F_law_nest_0.2.2.2.2.2.2.2.2.2.2.2.2.1
theorem q_law_nest_13 : varB J_law_nest 4 "_law_scope" = true := F_law_nest_0.2.2.2.2.2.2.2.2.2.2.2.2.2.1
theorem q_law_nest_14 : varB J_law_nest 6 "_law_name" = true := F_law_nest_0.2.2.2.2.2.2.2.2.2.2.2.2.2.2.1
theorem q_law_nest_15 : varB J_law_nest 2 "_law_result_here" = true := F_law_nest_0.2.2.2.2.2.2.2.2.2.2.2.2.2.2.2
theorem e_law_nest : defScope s_law_nest = sc_law_nest := by kernel_rfl
theorem S_law_nest : FnScope N_law_nest ["_law_digits", "_law_deep"] sc_law_nest := ⟨rfl, rfl, rfl, by decide +kernel, by decide +kernel, by decide +kernel, by decide +kernel⟩
abbrev s_law_visible : Stmt := top 35
def sc_law_visible : Scope := Scope.mk .function [("_law_nest_here", .local), ("_law_level", .local), ("_law_name", .cell), ("_law_found", .local)] false false [("fast", .str "_law_nest_here"), ("fast", .str "_law_level"), ("fast", .str "_law_name"), ("fast", .str "_law_scope"), ("fast", .str "_law_found")]
def sc_law_visible_1 : Scope := Scope.mk .function [(".0", .local), ("_law_scope", .local), ("_law_name", .free)] false false []
def N_law_visible : List Str := ["_law_nest_here", "_law_level", "_law_name", "_law_found", "_law_scope"]
def J_law_visible : Ix := ⟨N_law_visible, sc_law_visible, fun _ => true⟩
theorem F_law_visible_0 : varB J_law_visible 0 "_law_nest_here" = true ∧ varB J_law_visible 1 "_law_level" = true ∧ blkB J_law_visible sc_law_visible_1 [("_law_scope", 4)] = true ∧ stB (J_law_visible.blk sc_law_visible_1) 4 "_law_scope" = true ∧ varB (J_law_visible.blk sc_law_visible_1) 2 "_law_name" = true ∧ varB (J_law_visible.blk sc_law_visible_1) 4 "_law_scope" = true ∧ lcB J_law_visible 3 "_law_found" = true ∧ swB sc_law_visible_1 "_law_found" = true ∧ varB J_law_visible 3 "_law_found" = true := by decide +kernel
theorem q_law_visible_0 : varB J_law_visible 0 "_law_nest_here" = true := F_law_visible_0.1
theorem q_law_visible_1 : varB J_law_visible 1 "_law_level" = true := F_law_visible_0.2.1
theorem q_law_visible_2 : blkB J_law_visible sc_law_visible_1 [("_law_scope", 4)] = true := F_law_visible_0.2.2.1
theorem q_law_visible_3 : stB (J_law_visible.blk sc_law_visible_1) 4 "_law_scope" = true := F_law_visible_0.2.2.2.1
theorem q_law_visible_4 : varB (J_law_visible.blk sc_law_visible_1) 2 "_law_name" = true := F_law_visible_0.2.2.2.2.1
theorem q_law_visible_5 : varB (J_law_visible.blk sc_law_visible_1) 4 "_law_scope" = true := F_law_visible_0.2.2.2.2.2.1
theorem q_law_visible_6 : lcB J_law_visible 3 "_law_found" = true := F_law_visible_0.2.2.2.2.2.2.1
theorem q_law_visible_7 : swB sc_law_visible_1 "_law_found" = true := F_law_visible_0.2.2.2.2.2.2.2.1
theorem q_law_visible_8 : varB J_law_visible 3 "_law_found" = true := F_law_visible_0.2.2.2.2.2.2.2.2
theorem e_law_visible : defScope s_law_visible = sc_law_visible := by kernel_rfl
theorem S_law_visible : FnScope N_law_visible ["_law_nest_here", "_law_level", "_law_name"] sc_law_visible := ⟨rfl, rfl, rfl, by decide +kernel, by decide +kernel, by decide +kernel, by decide +kernel⟩
abbrev s_law_after : Stmt := top 36
def sc_law_after : Scope := Scope.mk .function [("_law_nest_here", .cell), ("_law_step_here", .cell), ("_law_wish", .local), ("_law_left", .local), ("len", .globalImplicit), ("_law_visible", .globalImplicit), ("sorted", .globalImplicit), ("dict", .globalImplicit), ("int", .globalImplicit)] false false [("fast", .str "_law_nest_here"), ("fast", .str "_law_step_here"), ("fast", .str "_law_wish"), ("fast", .str "_law_name"), ("fast", .str "_law_left")]
def sc_law_after_1 : Scope := Scope.mk .function [(".0", .local), ("_law_name", .local), ("_law_nest_here", .free), ("_law_step_here", .free)] false false []
def N_law_after : List Str := ["_law_nest_here", "_law_step_here", "_law_wish", "_law_left", "_law_name"]
def J_law_after : Ix := ⟨N_law_after, sc_law_after, fun _ => true⟩
theorem F_law_after_0 : varB J_law_after 1 "_law_step_here" = true ∧ glB J_law_after "len" = true ∧ stB J_law_after 2 "_law_wish" = true ∧ varB J_law_after 0 "_law_nest_here" = true ∧ glB J_law_after "_law_visible" = true ∧ varB J_law_after 2 "_law_wish" = true ∧ glB J_law_after "sorted" = true ∧ blkB J_law_after sc_law_after_1 [("_law_name", 4)] = true ∧ stB (J_law_after.blk sc_law_after_1) 4 "_law_name" = true ∧ varB (J_law_after.blk sc_law_after_1) 4 "_law_name" = true ∧ varB (J_law_after.blk sc_law_after_1) 1 "_law_step_here" = true ∧ varB (J_law_after.blk sc_law_after_1) 0 "_law_nest_here" = true ∧ lcB J_law_after 3 "_law_left" = true ∧ swB sc_law_after_1 "_law_left" = true ∧ varB J_law_after 3 "_law_left" = true ∧ glB J_law_after "int" = true ∧ glB J_law_after "dict" = true := by decide +kernel
theorem q_law_after_0 : varB J_law_after 1 "_law_step_here" = true := F_law_after_0.1
theorem q_law_after_1 : glB J_law_after "len" = true := F_law_after_0.2.1
theorem q_law_after_2 : stB J_law_after 2 "_law_wish" = true := F_law_after_0.2.2.1
theorem q_law_after_3 : varB J_law_after 0 "_law_nest_here" = true := F_law_after_0.2.2.2.1
theorem q_law_after_4 : glB J_law_after "_law_visible" = true := F_law_after_0.2.2.2.2.1
theorem q_law_after_5 : varB J_law_after 2 "_law_wish" = true := F_law_after_0.2.2.2.2.2.1
theorem q_law_after_6 : glB J_law_after "sorted" = true := F_law_after_0.2.2.2.2.2.2.1
theorem q_law_after_7 : blkB J_law_after sc_law_after_1 [("_law_name", 4)] = true := F_law_after_0.2.2.2.2.2.2.2.1
theorem q_law_after_8 : stB (J_law_after.blk sc_law_after_1) 4 "_law_name" = true := F_law_after_0.2.2.2.2.2.2.2.2.1
theorem q_law_after_9 : varB (J_law_after.blk sc_law_after_1) 4 "_law_name" = true := F_law_after_0.2.2.2.2.2.2.2.2.2.1
theorem q_law_after_10 : varB (J_law_after.blk sc_law_after_1) 1 "_law_step_here" = true := F_law_after_0.2.2.2.2.2.2.2.2.2.2.1
theorem q_law_after_11 : varB (J_law_after.blk sc_law_after_1) 0 "_law_nest_here" = true := F_law_after_0.2.2.2.2.2.2.2.2.2.2.2.1
theorem q_law_after_12 : lcB J_law_after 3 "_law_left" = true := F_law_after_0.2.2.2.2.2.2.2.2.2.2.2.2.1
theorem q_law_after_13 : swB sc_law_after_1 "_law_left" = true := F_law_after_0.2.2.2.2.2.2.2.2.2.2.2.2.2.1
theorem q_law_after_14 : varB J_law_after 3 "_law_left" = true := F_law_after_0.2.2.2.2.2.2.2.2.2.2.2.2.2.2.1
theorem q_law_after_15 : glB J_law_after "int" = true := F_law_after_0.2.2.2.2.2.2.2.2.2.2.2.2.2.2.2.1
theorem q_law_after_16 : glB J_law_after "dict" = true := F_law_after_0.2.2.2.2.2.2.2.2.2.2.2.2.2.2.2.2
theorem e_law_after : defScope s_law_after = sc_law_after := by kernel_rfl
theorem S_law_after : FnScope N_law_after ["_law_nest_here", "_law_step_here"] sc_law_after := ⟨rfl, rfl, rfl, by decide +kernel, by decide +kernel, by decide +kernel, by decide +kernel⟩
abbrev s_law_run : Stmt := top 37
def sc_law_run : Scope := Scope.mk .function [("_law_nest_here", .local), ("_law_steps", .local), ("_law_result_here", .local), ("_law_at", .local), ("_law_step_here", .local), ("enumerate", .globalImplicit), ("_law_after", .globalImplicit)] false false []
def N_law_run : List Str := ["_law_nest_here", "_law_steps", "_law_result_here", "_law_at", "_law_step_here"]
def J_law_run : Ix := ⟨N_law_run, sc_law_run, fun _ => true⟩
theorem F_law_run_0 : varB J_law_run 0 "_law_nest_here" = true ∧ stB J_law_run 2 "_law_result_here" = true ∧ varB J_law_run 1 "_law_steps" = true ∧ glB J_law_run "enumerate" = true ∧ stB J_law_run 4 "_law_step_here" = true ∧ stB J_law_run 3 "_law_at" = true ∧ varB J_law_run 2 "_law_result_here" = true ∧ varB J_law_run 4 "_law_step_here" = true ∧ glB J_law_run "_law_after" = true ∧ varB J_law_run 3 "_law_at" = true := by decide +kernel
theorem q_law_run_0 : varB J_law_run 0 "_law_nest_here" = true := F_law_run_0.1
theorem q_law_run_1 : stB J_law_run 2 "_law_result_here" = true := F_law_run_0.2.1
theorem q_law_run_2 : varB J_law_run 1 "_law_steps" = true := F_law_run_0.2.2.1
theorem q_law_run_3 : glB J_law_run "enumerate" = true := F_law_run_0.2.2.2.1
theorem q_law_run_4 : stB J_law_run 4 "_law_step_here" = true := F_law_run_0.2.2.2.2.1
theorem q_law_run_5 : stB J_law_run 3 "_law_at" = true := F_law_run_0.2.2.2.2.2.1
theorem q_law_run_6 : varB J_law_run 2 "_law_result_here" = true := F_law_run_0.2.2.2.2.2.2.1
theorem q_law_run_7 : varB J_law_run 4 "_law_step_here" = true := F_law_run_0.2.2.2.2.2.2.2.1
theorem q_law_run_8 : glB J_law_run "_law_after" = true := F_law_run_0.2.2.2.2.2.2.2.2.1
theorem q_law_run_9 : varB J_law_run 3 "_law_at" = true := F_law_run_0.2.2.2.2.2.2.2.2.2
theorem e_law_run : defScope s_law_run = sc_law_run := by kernel_rfl
theorem S_law_run : FnScope N_law_run ["_law_nest_here", "_law_steps"] sc_law_run := ⟨rfl, rfl, rfl, by decide +kernel, by decide +kernel, by decide +kernel, by decide +kernel⟩
abbrev s_law_result : Stmt := top 38
def sc_law_result : Scope := Scope.mk .function [("_law_nest_here", .local), ("_law_steps", .local), ("_law_found", .local), ("_law_run", .globalImplicit), ("len", .globalImplicit)] false false []
def N_law_result : List Str := ["_law_nest_here", "_law_steps", "_law_found"]
def J_law_result : Ix := ⟨N_law_result, sc_law_result, fun _ => true⟩
theorem F_law_result_0 : varB J_law_result 0 "_law_nest_here" = true ∧ varB J_law_result 1 "_law_steps" = true ∧ glB J_law_result "_law_run" = true ∧ stB J_law_result 2 "_law_found" = true ∧ varB J_law_result 2 "_law_found" = true ∧ glB J_law_result "len" = true := by decide +kernel
theorem q_law_result_0 : varB J_law_result 0 "_law_nest_here" = true := F_law_result_0.1
theorem q_law_result_1 : varB J_law_result 1 "_law_steps" = true := F_law_result_0.2.1
theorem q_law_result_2 : glB J_law_result "_law_run" = true := F_law_result_0.2.2.1
theorem q_law_result_3 : stB J_law_result 2 "_law_found" = true := F_law_result_0.2.2.2.1
theorem q_law_result_4 : varB J_law_result 2 "_law_found" = true := F_law_result_0.2.2.2.2.1
theorem q_law_result_5 : glB J_law_result "len" = true := F_law_result_0.2.2.2.2.2
theorem e_law_result : defScope s_law_result = sc_law_result := by kernel_rfl
theorem S_law_result : FnScope N_law_result ["_law_nest_here", "_law_steps"] sc_law_result := ⟨rfl, rfl, rfl, by decide +kernel, by decide +kernel, by decide +kernel, by decide +kernel⟩
abbrev s_is_text_of : Stmt := top 8
def sc_is_text_of : Scope := Scope.mk .function [("value", .local), ("signs", .cell), ("isinstance", .globalImplicit), ("str", .globalImplicit), ("len", .globalImplicit), ("MAX_LENGTH", .globalImplicit), ("all", .globalImplicit)] false false [("fast", .str "value"), ("fast", .str "signs"), ("fast", .str "sign")]
def sc_is_text_of_1 : Scope := Scope.mk .function [(".0", .local), ("sign", .local), ("signs", .free)] false false []
def N_is_text_of : List Str := ["value", "signs", "sign"]
def J_is_text_of : Ix := ⟨N_is_text_of, sc_is_text_of, fun _ => true⟩
theorem F_is_text_of_0 : varB J_is_text_of 0 "value" = true ∧ glB J_is_text_of "str" = true ∧ glB J_is_text_of "isinstance" = true ∧ glB J_is_text_of "len" = true ∧ glB J_is_text_of "MAX_LENGTH" = true ∧ blkB J_is_text_of sc_is_text_of_1 [("sign", 2)] = true ∧ stB (J_is_text_of.blk sc_is_text_of_1) 2 "sign" = true ∧ varB (J_is_text_of.blk sc_is_text_of_1) 2 "sign" = true ∧ varB (J_is_text_of.blk sc_is_text_of_1) 1 "signs" = true ∧ glB J_is_text_of "all" = true := by decide +kernel
theorem q_is_text_of_0 : varB J_is_text_of 0 "value" = true := F_is_text_of_0.1
theorem q_is_text_of_1 : glB J_is_text_of "str" = true := F_is_text_of_0.2.1
theorem q_is_text_of_2 : glB J_is_text_of "isinstance" = true := F_is_text_of_0.2.2.1
theorem q_is_text_of_3 : glB J_is_text_of "len" = true := F_is_text_of_0.2.2.2.1
theorem q_is_text_of_4 : glB J_is_text_of "MAX_LENGTH" = true := F_is_text_of_0.2.2.2.2.1
theorem q_is_text_of_5 : blkB J_is_text_of sc_is_text_of_1 [("sign", 2)] = true := F_is_text_of_0.2.2.2.2.2.1
theorem q_is_text_of_6 : stB (J_is_text_of.blk sc_is_text_of_1) 2 "sign" = true := F_is_text_of_0.2.2.2.2.2.2.1
theorem q_is_text_of_7 : varB (J_is_text_of.blk sc_is_text_of_1) 2 "sign" = true := F_is_text_of_0.2.2.2.2.2.2.2.1
theorem q_is_text_of_8 : varB (J_is_text_of.blk sc_is_text_of_1) 1 "signs" = true := F_is_text_of_0.2.2.2.2.2.2.2.2.1
theorem q_is_text_of_9 : glB J_is_text_of "all" = true := F_is_text_of_0.2.2.2.2.2.2.2.2.2
theorem e_is_text_of : defScope s_is_text_of = sc_is_text_of := by kernel_rfl
theorem S_is_text_of : FnScope N_is_text_of ["value", "signs"] sc_is_text_of := ⟨rfl, rfl, rfl, by decide +kernel, by decide +kernel, by decide +kernel, by decide +kernel⟩
abbrev s_is_name : Stmt := top 9
def sc_is_name : Scope := Scope.mk .function [("value", .local), ("is_text_of", .globalImplicit), ("LETTERS", .globalImplicit)] false false []
def N_is_name : List Str := ["value"]
def J_is_name : Ix := ⟨N_is_name, sc_is_name, fun _ => true⟩
theorem F_is_name_0 : varB J_is_name 0 "value" = true ∧ glB J_is_name "LETTERS" = true ∧ glB J_is_name "is_text_of" = true := by decide +kernel
theorem q_is_name_0 : varB J_is_name 0 "value" = true := F_is_name_0.1
theorem q_is_name_1 : glB J_is_name "LETTERS" = true := F_is_name_0.2.1
theorem q_is_name_2 : glB J_is_name "is_text_of" = true := F_is_name_0.2.2
theorem e_is_name : defScope s_is_name = sc_is_name := by kernel_rfl
theorem S_is_name : FnScope N_is_name ["value"] sc_is_name := ⟨rfl, rfl, rfl, by decide +kernel, by decide +kernel, by decide +kernel, by decide +kernel⟩
abbrev s_is_value : Stmt := top 10
def sc_is_value : Scope := Scope.mk .function [("value", .local), ("is_text_of", .globalImplicit), ("LETTERS", .globalImplicit), ("DIGITS", .globalImplicit)] false false []
def N_is_value : List Str := ["value"]
def J_is_value : Ix := ⟨N_is_value, sc_is_value, fun _ => true⟩
theorem F_is_value_0 : varB J_is_value 0 "value" = true ∧ glB J_is_value "LETTERS" = true ∧ glB J_is_value "DIGITS" = true ∧ glB J_is_value "is_text_of" = true := by decide +kernel
theorem q_is_value_0 : varB J_is_value 0 "value" = true := F_is_value_0.1
theorem q_is_value_1 : glB J_is_value "LETTERS" = true := F_is_value_0.2.1
theorem q_is_value_2 : glB J_is_value "DIGITS" = true := F_is_value_0.2.2.1
theorem q_is_value_3 : glB J_is_value "is_text_of" = true := F_is_value_0.2.2.2
theorem e_is_value : defScope s_is_value = sc_is_value := by kernel_rfl
theorem S_is_value : FnScope N_is_value ["value"] sc_is_value := ⟨rfl, rfl, rfl, by decide +kernel, by decide +kernel, by decide +kernel, by decide +kernel⟩
abbrev s_is_part : Stmt := top 18
def sc_is_part : Scope := Scope.mk .function [("kind", .local), ("value", .local), ("is_name", .globalImplicit), ("is_value", .globalImplicit)] false false []
def N_is_part : List Str := ["kind", "value"]
def J_is_part : Ix := ⟨N_is_part, sc_is_part, fun _ => true⟩
theorem F_is_part_0 : varB J_is_part 0 "kind" = true ∧ varB J_is_part 1 "value" = true ∧ glB J_is_part "is_name" = true ∧ glB J_is_part "is_value" = true := by decide +kernel
theorem q_is_part_0 : varB J_is_part 0 "kind" = true := F_is_part_0.1
theorem q_is_part_1 : varB J_is_part 1 "value" = true := F_is_part_0.2.1
theorem q_is_part_2 : glB J_is_part "is_name" = true := F_is_part_0.2.2.1
theorem q_is_part_3 : glB J_is_part "is_value" = true := F_is_part_0.2.2.2
theorem e_is_part : defScope s_is_part = sc_is_part := by kernel_rfl
theorem S_is_part : FnScope N_is_part ["kind", "value"] sc_is_part := ⟨rfl, rfl, rfl, by decide +kernel, by decide +kernel, by decide +kernel, by decide +kernel⟩
abbrev s_is_step : Stmt := top 19
def sc_is_step : Scope := Scope.mk .function [("value", .local), ("shape", .local), ("isinstance", .globalImplicit), ("tuple", .globalImplicit), ("str", .globalImplicit), ("SHAPES", .globalImplicit), ("len", .globalImplicit), ("all", .globalImplicit), ("zip", .globalImplicit)] false false [("fast", .str "value"), ("fast", .str "shape"), ("fast", .str "kind"), ("fast", .str "part")]
def sc_is_step_1 : Scope := Scope.mk .function [(".0", .local), ("kind", .local), ("part", .local), ("is_part", .globalImplicit)] false false []
def N_is_step : List Str := ["value", "shape", "kind", "part"]
def J_is_step : Ix := ⟨N_is_step, sc_is_step, fun _ => true⟩
theorem F_is_step_0 : varB J_is_step 0 "value" = true ∧ glB J_is_step "tuple" = true ∧ glB J_is_step "isinstance" = true ∧ glB J_is_step "str" = true ∧ glB J_is_step "SHAPES" = true ∧ stB J_is_step 1 "shape" = true ∧ varB J_is_step 1 "shape" = true ∧ glB J_is_step "len" = true ∧ glB J_is_step "zip" = true ∧ blkB J_is_step sc_is_step_1 [("kind", 2), ("part", 3)] = true ∧ stB (J_is_step.blk sc_is_step_1) 3 "part" = true ∧ stB (J_is_step.blk sc_is_step_1) 2 "kind" = true ∧ varB (J_is_step.blk sc_is_step_1) 2 "kind" = true ∧ varB (J_is_step.blk sc_is_step_1) 3 "part" = true ∧ glB (J_is_step.blk sc_is_step_1) "is_part" = true ∧ glB J_is_step "all" = true := by decide +kernel
theorem q_is_step_0 : varB J_is_step 0 "value" = true := F_is_step_0.1
theorem q_is_step_1 : glB J_is_step "tuple" = true := F_is_step_0.2.1
theorem q_is_step_2 : glB J_is_step "isinstance" = true := F_is_step_0.2.2.1
theorem q_is_step_3 : glB J_is_step "str" = true := F_is_step_0.2.2.2.1
theorem q_is_step_4 : glB J_is_step "SHAPES" = true := F_is_step_0.2.2.2.2.1
theorem q_is_step_5 : stB J_is_step 1 "shape" = true := F_is_step_0.2.2.2.2.2.1
theorem q_is_step_6 : varB J_is_step 1 "shape" = true := F_is_step_0.2.2.2.2.2.2.1
theorem q_is_step_7 : glB J_is_step "len" = true := F_is_step_0.2.2.2.2.2.2.2.1
theorem q_is_step_8 : glB J_is_step "zip" = true := F_is_step_0.2.2.2.2.2.2.2.2.1
theorem q_is_step_9 : blkB J_is_step sc_is_step_1 [("kind", 2), ("part", 3)] = true := F_is_step_0.2.2.2.2.2.2.2.2.2.1
theorem q_is_step_10 : stB (J_is_step.blk sc_is_step_1) 3 "part" = true := F_is_step_0.2.2.2.2.2.2.2.2.2.2.1
theorem q_is_step_11 : stB (J_is_step.blk sc_is_step_1) 2 "kind" = true := F_is_step_0.2.2.2.2.2.2.2.2.2.2.2.1
theorem q_is_step_12 : varB (J_is_step.blk sc_is_step_1) 2 "kind" = true := F_is_step_0.2.2.2.2.2.2.2.2.2.2.2.2.1
theorem q_is_step_13 : varB (J_is_step.blk sc_is_step_1) 3 "part" = true := F_is_step_0.2.2.2.2.2.2.2.2.2.2.2.2.2.1
theorem q_is_step_14 : glB (J_is_step.blk sc_is_step_1) "is_part" = true := F_is_step_0.2.2.2.2.2.2.2.2.2.2.2.2.2.2.1
theorem q_is_step_15 : glB J_is_step "all" = true := F_is_step_0.2.2.2.2.2.2.2.2.2.2.2.2.2.2.2
theorem e_is_step : defScope s_is_step = sc_is_step := by kernel_rfl
theorem S_is_step : FnScope N_is_step ["value"] sc_is_step := ⟨rfl, rfl, rfl, by decide +kernel, by decide +kernel, by decide +kernel, by decide +kernel⟩
abbrev s_first_invalid : Stmt := top 20
def sc_first_invalid : Scope := Scope.mk .function [("steps", .local), ("index", .local), ("step", .local), ("enumerate", .globalImplicit), ("is_step", .globalImplicit)] false false []
def N_first_invalid : List Str := ["steps", "index", "step"]
def J_first_invalid : Ix := ⟨N_first_invalid, sc_first_invalid, fun _ => true⟩
theorem F_first_invalid_0 : varB J_first_invalid 0 "steps" = true ∧ glB J_first_invalid "enumerate" = true ∧ stB J_first_invalid 2 "step" = true ∧ stB J_first_invalid 1 "index" = true ∧ varB J_first_invalid 2 "step" = true ∧ glB J_first_invalid "is_step" = true ∧ varB J_first_invalid 1 "index" = true := by decide +kernel
theorem q_first_invalid_0 : varB J_first_invalid 0 "steps" = true := F_first_invalid_0.1
theorem q_first_invalid_1 : glB J_first_invalid "enumerate" = true := F_first_invalid_0.2.1
theorem q_first_invalid_2 : stB J_first_invalid 2 "step" = true := F_first_invalid_0.2.2.1
theorem q_first_invalid_3 : stB J_first_invalid 1 "index" = true := F_first_invalid_0.2.2.2.1
theorem q_first_invalid_4 : varB J_first_invalid 2 "step" = true := F_first_invalid_0.2.2.2.2.1
theorem q_first_invalid_5 : glB J_first_invalid "is_step" = true := F_first_invalid_0.2.2.2.2.2.1
theorem q_first_invalid_6 : varB J_first_invalid 1 "index" = true := F_first_invalid_0.2.2.2.2.2.2
theorem e_first_invalid : defScope s_first_invalid = sc_first_invalid := by kernel_rfl
theorem S_first_invalid : FnScope N_first_invalid ["steps"] sc_first_invalid := ⟨rfl, rfl, rfl, by decide +kernel, by decide +kernel, by decide +kernel, by decide +kernel⟩
abbrev s_require_sequence : Stmt := top 21
def sc_require_sequence : Scope := Scope.mk .function [("value", .local), ("index", .local), ("isinstance", .globalImplicit), ("list", .globalImplicit), ("tuple", .globalImplicit), ("InvalidSequence", .globalImplicit), ("first_invalid", .globalImplicit)] false false []
def N_require_sequence : List Str := ["value", "index"]
def J_require_sequence : Ix := ⟨N_require_sequence, sc_require_sequence, fun _ => true⟩
theorem F_require_sequence_0 : varB J_require_sequence 0 "value" = true ∧ glB J_require_sequence "list" = true ∧ glB J_require_sequence "tuple" = true ∧ glB J_require_sequence "isinstance" = true ∧ glB J_require_sequence "first_invalid" = true ∧ stB J_require_sequence 1 "index" = true ∧ varB J_require_sequence 1 "index" = true := by decide +kernel
theorem q_require_sequence_0 : varB J_require_sequence 0 "value" = true := F_require_sequence_0.1
theorem q_require_sequence_1 : glB J_require_sequence "list" = true := F_require_sequence_0.2.1
theorem q_require_sequence_2 : glB J_require_sequence "tuple" = true := F_require_sequence_0.2.2.1
theorem q_require_sequence_3 : glB J_require_sequence "isinstance" = true := F_require_sequence_0.2.2.2.1
theorem q_require_sequence_4 : glB J_require_sequence "first_invalid" = true := F_require_sequence_0.2.2.2.2.1
theorem q_require_sequence_5 : stB J_require_sequence 1 "index" = true := F_require_sequence_0.2.2.2.2.2.1
theorem q_require_sequence_6 : varB J_require_sequence 1 "index" = true := F_require_sequence_0.2.2.2.2.2.2
theorem e_require_sequence : defScope s_require_sequence = sc_require_sequence := by kernel_rfl
theorem S_require_sequence : FnScope N_require_sequence ["value"] sc_require_sequence := ⟨rfl, rfl, rfl, by decide +kernel, by decide +kernel, by decide +kernel, by decide +kernel⟩
abbrev s_require_sequences : Stmt := top 26
def sc_require_sequences : Scope := Scope.mk .function [("sequences", .local), ("index", .local), ("sequence", .local), ("e", .local), ("enumerate", .globalImplicit), ("require_sequence", .globalImplicit), ("InvalidSequence", .globalImplicit)] false false []
def N_require_sequences : List Str := ["sequences", "index", "sequence", "e"]
def J_require_sequences : Ix := ⟨N_require_sequences, sc_require_sequences, fun _ => true⟩
theorem F_require_sequences_0 : varB J_require_sequences 0 "sequences" = true ∧ glB J_require_sequences "enumerate" = true ∧ stB J_require_sequences 2 "sequence" = true ∧ stB J_require_sequences 1 "index" = true ∧ varB J_require_sequences 2 "sequence" = true ∧ glB J_require_sequences "require_sequence" = true := by decide +kernel
theorem q_require_sequences_0 : varB J_require_sequences 0 "sequences" = true := F_require_sequences_0.1
theorem q_require_sequences_1 : glB J_require_sequences "enumerate" = true := F_require_sequences_0.2.1
theorem q_require_sequences_2 : stB J_require_sequences 2 "sequence" = true := F_require_sequences_0.2.2.1
theorem q_require_sequences_3 : stB J_require_sequences 1 "index" = true := F_require_sequences_0.2.2.2.1
theorem q_require_sequences_4 : varB J_require_sequences 2 "sequence" = true := F_require_sequences_0.2.2.2.2.1
theorem q_require_sequences_5 : glB J_require_sequences "require_sequence" = true := F_require_sequences_0.2.2.2.2.2
theorem e_require_sequences : defScope s_require_sequences = sc_require_sequences := by kernel_rfl
theorem S_require_sequences : FnScope N_require_sequences ["sequences"] sc_require_sequences := ⟨rfl, rfl, rfl, by decide +kernel, by decide +kernel, by decide +kernel, by decide +kernel⟩
abbrev s_is_scope : Stmt := top 11
def sc_is_scope : Scope := Scope.mk .function [("value", .cell), ("isinstance", .globalImplicit), ("dict", .globalImplicit), ("all", .globalImplicit)] false false [("fast", .str "value"), ("fast", .str "name")]
def sc_is_scope_1 : Scope := Scope.mk .function [(".0", .local), ("name", .local), ("is_name", .globalImplicit), ("is_value", .globalImplicit), ("value", .free)] false false []
def N_is_scope : List Str := ["value", "name"]
def J_is_scope : Ix := ⟨N_is_scope, sc_is_scope, fun _ => true⟩
theorem F_is_scope_0 : varB J_is_scope 0 "value" = true ∧ glB J_is_scope "dict" = true ∧ glB J_is_scope "isinstance" = true ∧ blkB J_is_scope sc_is_scope_1 [("name", 1)] = true ∧ stB (J_is_scope.blk sc_is_scope_1) 1 "name" = true ∧ varB (J_is_scope.blk sc_is_scope_1) 1 "name" = true ∧ glB (J_is_scope.blk sc_is_scope_1) "is_name" = true ∧ varB (J_is_scope.blk sc_is_scope_1) 0 "value" = true ∧ glB (J_is_scope.blk sc_is_scope_1) "is_value" = true ∧ glB J_is_scope "all" = true := by decide +kernel
theorem q_is_scope_0 : varB J_is_scope 0 "value" = true := F_is_scope_0.1
theorem q_is_scope_1 : glB J_is_scope "dict" = true := F_is_scope_0.2.1
theorem q_is_scope_2 : glB J_is_scope "isinstance" = true := F_is_scope_0.2.2.1
theorem q_is_scope_3 : blkB J_is_scope sc_is_scope_1 [("name", 1)] = true := F_is_scope_0.2.2.2.1
theorem q_is_scope_4 : stB (J_is_scope.blk sc_is_scope_1) 1 "name" = true := F_is_scope_0.2.2.2.2.1
theorem q_is_scope_5 : varB (J_is_scope.blk sc_is_scope_1) 1 "name" = true := F_is_scope_0.2.2.2.2.2.1
theorem q_is_scope_6 : glB (J_is_scope.blk sc_is_scope_1) "is_name" = true := F_is_scope_0.2.2.2.2.2.2.1
theorem q_is_scope_7 : varB (J_is_scope.blk sc_is_scope_1) 0 "value" = true := F_is_scope_0.2.2.2.2.2.2.2.1
theorem q_is_scope_8 : glB (J_is_scope.blk sc_is_scope_1) "is_value" = true := F_is_scope_0.2.2.2.2.2.2.2.2.1
theorem q_is_scope_9 : glB J_is_scope "all" = true := F_is_scope_0.2.2.2.2.2.2.2.2.2
theorem e_is_scope : defScope s_is_scope = sc_is_scope := by kernel_rfl
theorem S_is_scope : FnScope N_is_scope ["value"] sc_is_scope := ⟨rfl, rfl, rfl, by decide +kernel, by decide +kernel, by decide +kernel, by decide +kernel⟩
abbrev s_is_nest : Stmt := top 12
def sc_is_nest : Scope := Scope.mk .function [("value", .local), ("isinstance", .globalImplicit), ("list", .globalImplicit), ("all", .globalImplicit)] false false [("fast", .str "value"), ("fast", .str "scope")]
def sc_is_nest_1 : Scope := Scope.mk .function [(".0", .local), ("scope", .local), ("is_scope", .globalImplicit)] false false []
def N_is_nest : List Str := ["value", "scope"]
def J_is_nest : Ix := ⟨N_is_nest, sc_is_nest, fun _ => true⟩
theorem F_is_nest_0 : varB J_is_nest 0 "value" = true ∧ glB J_is_nest "list" = true ∧ glB J_is_nest "isinstance" = true ∧ blkB J_is_nest sc_is_nest_1 [("scope", 1)] = true ∧ stB (J_is_nest.blk sc_is_nest_1) 1 "scope" = true ∧ varB (J_is_nest.blk sc_is_nest_1) 1 "scope" = true ∧ glB (J_is_nest.blk sc_is_nest_1) "is_scope" = true ∧ glB J_is_nest "all" = true := by decide +kernel
theorem q_is_nest_0 : varB J_is_nest 0 "value" = true := F_is_nest_0.1
theorem q_is_nest_1 : glB J_is_nest "list" = true := F_is_nest_0.2.1
theorem q_is_nest_2 : glB J_is_nest "isinstance" = true := F_is_nest_0.2.2.1
theorem q_is_nest_3 : blkB J_is_nest sc_is_nest_1 [("scope", 1)] = true := F_is_nest_0.2.2.2.1
theorem q_is_nest_4 : stB (J_is_nest.blk sc_is_nest_1) 1 "scope" = true := F_is_nest_0.2.2.2.2.1
theorem q_is_nest_5 : varB (J_is_nest.blk sc_is_nest_1) 1 "scope" = true := F_is_nest_0.2.2.2.2.2.1
theorem q_is_nest_6 : glB (J_is_nest.blk sc_is_nest_1) "is_scope" = true := F_is_nest_0.2.2.2.2.2.2.1
theorem q_is_nest_7 : glB J_is_nest "all" = true := F_is_nest_0.2.2.2.2.2.2.2
theorem e_is_nest : defScope s_is_nest = sc_is_nest := by kernel_rfl
theorem S_is_nest : FnScope N_is_nest ["value"] sc_is_nest := ⟨rfl, rfl, rfl, by decide +kernel, by decide +kernel, by decide +kernel, by decide +kernel⟩
abbrev s_require_nest : Stmt := top 13
def sc_require_nest : Scope := Scope.mk .function [("value", .local), ("is_nest", .globalImplicit), ("InvalidNest", .globalImplicit)] false false []
def N_require_nest : List Str := ["value"]
def J_require_nest : Ix := ⟨N_require_nest, sc_require_nest, fun _ => true⟩
theorem F_require_nest_0 : varB J_require_nest 0 "value" = true ∧ glB J_require_nest "is_nest" = true := by decide +kernel
theorem q_require_nest_0 : varB J_require_nest 0 "value" = true := F_require_nest_0.1
theorem q_require_nest_1 : glB J_require_nest "is_nest" = true := F_require_nest_0.2
theorem e_require_nest : defScope s_require_nest = sc_require_nest := by kernel_rfl
theorem S_require_nest : FnScope N_require_nest ["value"] sc_require_nest := ⟨rfl, rfl, rfl, by decide +kernel, by decide +kernel, by decide +kernel, by decide +kernel⟩
abbrev s_visible_of : Stmt := top 15
def sc_visible_of : Scope := Scope.mk .function [("nest", .local), ("level", .local), ("name", .local), ("scope", .local)] false false []
def N_visible_of : List Str := ["nest", "level", "name", "scope"]
def J_visible_of : Ix := ⟨N_visible_of, sc_visible_of, fun _ => true⟩
theorem F_visible_of_0 : varB J_visible_of 0 "nest" = true ∧ varB J_visible_of 1 "level" = true ∧ stB J_visible_of 3 "scope" = true ∧ varB J_visible_of 2 "name" = true ∧ varB J_visible_of 3 "scope" = true := by decide +kernel
theorem q_visible_of_0 : varB J_visible_of 0 "nest" = true := F_visible_of_0.1
theorem q_visible_of_1 : varB J_visible_of 1 "level" = true := F_visible_of_0.2.1
theorem q_visible_of_2 : stB J_visible_of 3 "scope" = true := F_visible_of_0.2.2.1
theorem q_visible_of_3 : varB J_visible_of 2 "name" = true := F_visible_of_0.2.2.2.1
theorem q_visible_of_4 : varB J_visible_of 3 "scope" = true := F_visible_of_0.2.2.2.2
theorem e_visible_of : defScope s_visible_of = sc_visible_of := by kernel_rfl
theorem S_visible_of : FnScope N_visible_of ["nest", "level", "name"] sc_visible_of := ⟨rfl, rfl, rfl, by decide +kernel, by decide +kernel, by decide +kernel, by decide +kernel⟩
abbrev s_wanted_value : Stmt := top 22
def sc_wanted_value : Scope := Scope.mk .function [("step", .local), ("len", .globalImplicit)] false false []
def N_wanted_value : List Str := ["step"]
def J_wanted_value : Ix := ⟨N_wanted_value, sc_wanted_value, fun _ => true⟩
theorem F_wanted_value_0 : varB J_wanted_value 0 "step" = true ∧ glB J_wanted_value "len" = true := by decide +kernel
theorem q_wanted_value_0 : varB J_wanted_value 0 "step" = true := F_wanted_value_0.1
theorem q_wanted_value_1 : glB J_wanted_value "len" = true := F_wanted_value_0.2
theorem e_wanted_value : defScope s_wanted_value = sc_wanted_value := by kernel_rfl
theorem S_wanted_value : FnScope N_wanted_value ["step"] sc_wanted_value := ⟨rfl, rfl, rfl, by decide +kernel, by decide +kernel, by decide +kernel, by decide +kernel⟩
abbrev s_own_of : Stmt := top 14
def sc_own_of : Scope := Scope.mk .function [("nest", .local), ("level", .local), ("name", .local), ("len", .globalImplicit)] false false []
def N_own_of : List Str := ["nest", "level", "name"]
def J_own_of : Ix := ⟨N_own_of, sc_own_of, fun _ => true⟩
theorem F_own_of_0 : varB J_own_of 1 "level" = true ∧ varB J_own_of 0 "nest" = true ∧ glB J_own_of "len" = true ∧ varB J_own_of 2 "name" = true := by decide +kernel
theorem q_own_of_0 : varB J_own_of 1 "level" = true := F_own_of_0.1
theorem q_own_of_1 : varB J_own_of 0 "nest" = true := F_own_of_0.2.1
theorem q_own_of_2 : glB J_own_of "len" = true := F_own_of_0.2.2.1
theorem q_own_of_3 : varB J_own_of 2 "name" = true := F_own_of_0.2.2.2
theorem e_own_of : defScope s_own_of = sc_own_of := by kernel_rfl
theorem S_own_of : FnScope N_own_of ["nest", "level", "name"] sc_own_of := ⟨rfl, rfl, rfl, by decide +kernel, by decide +kernel, by decide +kernel, by decide +kernel⟩
abbrev s_after_step : Stmt := top 23
def sc_after_step : Scope := Scope.mk .function [("nest", .local), ("step", .cell), ("scope", .local), ("visible_of", .globalImplicit), ("wanted_value", .globalImplicit), ("own_of", .globalImplicit)] false false [("fast", .str "nest"), ("fast", .str "step"), ("fast", .str "name"), ("fast", .str "value"), ("fast", .str "scope")]
def sc_after_step_1 : Scope := Scope.mk .function [(".0", .local), ("name", .local), ("value", .local), ("step", .free)] false false []
def N_after_step : List Str := ["nest", "step", "scope", "name", "value"]
def J_after_step : Ix := ⟨N_after_step, sc_after_step, fun _ => true⟩
theorem F_after_step_0 : varB J_after_step 1 "step" = true ∧ varB J_after_step 0 "nest" = true ∧ glB J_after_step "visible_of" = true ∧ glB J_after_step "wanted_value" = true ∧ glB J_after_step "own_of" = true ∧ blkB J_after_step sc_after_step_1 [("name", 3), ("value", 4)] = true ∧ stB (J_after_step.blk sc_after_step_1) 4 "value" = true ∧ stB (J_after_step.blk sc_after_step_1) 3 "name" = true ∧ varB (J_after_step.blk sc_after_step_1) 3 "name" = true ∧ varB (J_after_step.blk sc_after_step_1) 1 "step" = true ∧ varB (J_after_step.blk sc_after_step_1) 4 "value" = true ∧ lcB J_after_step 2 "scope" = true ∧ swB sc_after_step_1 "scope" = true ∧ varB J_after_step 2 "scope" = true := by decide +kernel
theorem q_after_step_0 : varB J_after_step 1 "step" = true := F_after_step_0.1
theorem q_after_step_1 : varB J_after_step 0 "nest" = true := F_after_step_0.2.1
theorem q_after_step_2 : glB J_after_step "visible_of" = true := F_after_step_0.2.2.1
theorem q_after_step_3 : glB J_after_step "wanted_value" = true := F_after_step_0.2.2.2.1
theorem q_after_step_4 : glB J_after_step "own_of" = true := F_after_step_0.2.2.2.2.1
theorem q_after_step_5 : blkB J_after_step sc_after_step_1 [("name", 3), ("value", 4)] = true := F_after_step_0.2.2.2.2.2.1
theorem q_after_step_6 : stB (J_after_step.blk sc_after_step_1) 4 "value" = true := F_after_step_0.2.2.2.2.2.2.1
theorem q_after_step_7 : stB (J_after_step.blk sc_after_step_1) 3 "name" = true := F_after_step_0.2.2.2.2.2.2.2.1
theorem q_after_step_8 : varB (J_after_step.blk sc_after_step_1) 3 "name" = true := F_after_step_0.2.2.2.2.2.2.2.2.1
theorem q_after_step_9 : varB (J_after_step.blk sc_after_step_1) 1 "step" = true := F_after_step_0.2.2.2.2.2.2.2.2.2.1
theorem q_after_step_10 : varB (J_after_step.blk sc_after_step_1) 4 "value" = true := F_after_step_0.2.2.2.2.2.2.2.2.2.2.1
theorem q_after_step_11 : lcB J_after_step 2 "scope" = true := F_after_step_0.2.2.2.2.2.2.2.2.2.2.2.1
theorem q_after_step_12 : swB sc_after_step_1 "scope" = true := F_after_step_0.2.2.2.2.2.2.2.2.2.2.2.2.1
theorem q_after_step_13 : varB J_after_step 2 "scope" = true := F_after_step_0.2.2.2.2.2.2.2.2.2.2.2.2.2
theorem e_after_step : defScope s_after_step = sc_after_step := by kernel_rfl
theorem S_after_step : FnScope N_after_step ["nest", "step"] sc_after_step := ⟨rfl, rfl, rfl, by decide +kernel, by decide +kernel, by decide +kernel, by decide +kernel⟩
abbrev s_outcome : Stmt := top 24
def sc_outcome : Scope := Scope.mk .function [("nest", .local), ("sequence", .local), ("present", .local), ("step", .local), ("after_step", .globalImplicit)] false false []
def N_outcome : List Str := ["nest", "sequence", "present", "step"]
def J_outcome : Ix := ⟨N_outcome, sc_outcome, fun _ => true⟩
theorem F_outcome_0 : varB J_outcome 0 "nest" = true ∧ stB J_outcome 2 "present" = true ∧ varB J_outcome 1 "sequence" = true ∧ stB J_outcome 3 "step" = true ∧ varB J_outcome 2 "present" = true ∧ varB J_outcome 3 "step" = true ∧ glB J_outcome "after_step" = true := by decide +kernel
theorem q_outcome_0 : varB J_outcome 0 "nest" = true := F_outcome_0.1
theorem q_outcome_1 : stB J_outcome 2 "present" = true := F_outcome_0.2.1
theorem q_outcome_2 : varB J_outcome 1 "sequence" = true := F_outcome_0.2.2.1
theorem q_outcome_3 : stB J_outcome 3 "step" = true := F_outcome_0.2.2.2.1
theorem q_outcome_4 : varB J_outcome 2 "present" = true := F_outcome_0.2.2.2.2.1
theorem q_outcome_5 : varB J_outcome 3 "step" = true := F_outcome_0.2.2.2.2.2.1
theorem q_outcome_6 : glB J_outcome "after_step" = true := F_outcome_0.2.2.2.2.2.2
theorem e_outcome : defScope s_outcome = sc_outcome := by kernel_rfl
theorem S_outcome : FnScope N_outcome ["nest", "sequence"] sc_outcome := ⟨rfl, rfl, rfl, by decide +kernel, by decide +kernel, by decide +kernel, by decide +kernel⟩
abbrev s_explaining : Stmt := top 27
def sc_explaining : Scope := Scope.mk .function [("sequences", .local), ("observations", .local), ("before", .local), ("after", .local), ("result", .local), ("index", .local), ("sequence", .cell), ("require_sequences", .globalImplicit), ("require_nest", .globalImplicit), ("enumerate", .globalImplicit), ("all", .globalImplicit)] false false [("fast", .str "sequences"), ("fast", .str "observations"), ("fast", .str "before"), ("fast", .str "after"), ("fast", .str "result"), ("fast", .str "index"), ("fast", .str "sequence")]
def sc_explaining_1 : Scope := Scope.mk .function [(".0", .local), ("before", .local), ("after", .local), ("outcome", .globalImplicit), ("sequence", .free)] false false []
def N_explaining : List Str := ["sequences", "observations", "before", "after", "result", "index", "sequence"]
def J_explaining : Ix := ⟨N_explaining, sc_explaining, fun _ => true⟩
theorem F_explaining_0 : varB J_explaining 0 "sequences" = true ∧ glB J_explaining "require_sequences" = true ∧ varB J_explaining 1 "observations" = true ∧ stB J_explaining 3 "after" = true ∧ stB J_explaining 2 "before" = true ∧ varB J_explaining 2 "before" = true ∧ glB J_explaining "require_nest" = true ∧ varB J_explaining 3 "after" = true ∧ stB J_explaining 4 "result" = true ∧ glB J_explaining "enumerate" = true ∧ stB J_explaining 6 "sequence" = true ∧ stB J_explaining 5 "index" = true ∧ blkB J_explaining sc_explaining_1 [("before", 2), ("after", 3)] = true ∧ stB (J_explaining.blk sc_explaining_1) 3 "after" = true ∧ stB (J_explaining.blk sc_explaining_1) 2 "before" = true ∧ varB (J_explaining.blk sc_explaining_1) 2 "before" = true ∧ varB (J_explaining.blk sc_explaining_1) 6 "sequence" = true ∧ glB (J_explaining.blk sc_explaining_1) "outcome" = true ∧ varB (J_explaining.blk sc_explaining_1) 3 "after" = true ∧ glB J_explaining "all" = true ∧ varB J_explaining 4 "result" = true ∧ varB J_explaining 5 "index" = true := by decide +kernel
theorem q_explaining_0 : varB J_explaining 0 "sequences" = true := F_explaining_0.1
theorem q_explaining_1 : glB J_explaining "require_sequences" = true := F_explaining_0.2.1
theorem q_explaining_2 : varB J_explaining 1 "observations" = true := F_explaining_0.2.2.1
theorem q_explaining_3 : stB J_explaining 3 "after" = true := F_explaining_0.2.2.2.1
theorem q_explaining_4 : stB J_explaining 2 "before" = true := F_explaining_0.2.2.2.2.1
theorem q_explaining_5 : varB J_explaining 2 "before" = true := F_explaining_0.2.2.2.2.2.1
theorem q_explaining_6 : glB J_explaining "require_nest" = true := F_explaining_0.2.2.2.2.2.2.1
theorem q_explaining_7 : varB J_explaining 3 "after" = true := F_explaining_0.2.2.2.2.2.2.2.1
theorem q_explaining_8 : stB J_explaining 4 "result" = true := F_explaining_0.2.2.2.2.2.2.2.2.1
theorem q_explaining_9 : glB J_explaining "enumerate" = true := F_explaining_0.2.2.2.2.2.2.2.2.2.1
theorem q_explaining_10 : stB J_explaining 6 "sequence" = true := F_explaining_0.2.2.2.2.2.2.2.2.2.2.1
theorem q_explaining_11 : stB J_explaining 5 "index" = true := F_explaining_0.2.2.2.2.2.2.2.2.2.2.2.1
theorem q_explaining_12 : blkB J_explaining sc_explaining_1 [("before", 2), ("after", 3)] = true := F_explaining_0.2.2.2.2.2.2.2.2.2.2.2.2.1
theorem q_explaining_13 : stB (J_explaining.blk sc_explaining_1) 3 "after" = true := F_explaining_0.2.2.2.2.2.2.2.2.2.2.2.2.2.1
theorem q_explaining_14 : stB (J_explaining.blk sc_explaining_1) 2 "before" = true := F_explaining_0.2.2.2.2.2.2.2.2.2.2.2.2.2.2.1
theorem q_explaining_15 : varB (J_explaining.blk sc_explaining_1) 2 "before" = true := F_explaining_0.2.2.2.2.2.2.2.2.2.2.2.2.2.2.2.1
theorem q_explaining_16 : varB (J_explaining.blk sc_explaining_1) 6 "sequence" = true := F_explaining_0.2.2.2.2.2.2.2.2.2.2.2.2.2.2.2.2.1
theorem q_explaining_17 : glB (J_explaining.blk sc_explaining_1) "outcome" = true := F_explaining_0.2.2.2.2.2.2.2.2.2.2.2.2.2.2.2.2.2.1
theorem q_explaining_18 : varB (J_explaining.blk sc_explaining_1) 3 "after" = true := F_explaining_0.2.2.2.2.2.2.2.2.2.2.2.2.2.2.2.2.2.2.1
theorem q_explaining_19 : glB J_explaining "all" = true := F_explaining_0.2.2.2.2.2.2.2.2.2.2.2.2.2.2.2.2.2.2.2.1
theorem q_explaining_20 : varB J_explaining 4 "result" = true := F_explaining_0.2.2.2.2.2.2.2.2.2.2.2.2.2.2.2.2.2.2.2.2.1
theorem q_explaining_21 : varB J_explaining 5 "index" = true := F_explaining_0.2.2.2.2.2.2.2.2.2.2.2.2.2.2.2.2.2.2.2.2.2
theorem e_explaining : defScope s_explaining = sc_explaining := by kernel_rfl
theorem S_explaining : FnScope N_explaining ["sequences", "observations"] sc_explaining := ⟨rfl, rfl, rfl, by decide +kernel, by decide +kernel, by decide +kernel, by decide +kernel⟩
abbrev s_law_explaining : Stmt := top 39
def sc_law_explaining : Scope := Scope.mk .function [("_law_sequences", .local), ("_law_observations", .local), ("_law_result_here", .local), ("_law_at", .local), ("_law_steps", .cell), ("enumerate", .globalImplicit)] false false [("fast", .str "_law_sequences"), ("fast", .str "_law_observations"), ("fast", .str "_law_result_here"), ("fast", .str "_law_at"), ("fast", .str "_law_steps"), ("fast", .str "_law_one")]
def sc_law_explaining_1 : Scope := Scope.mk .function [(".0", .local), ("_law_one", .local), ("_law_result", .globalImplicit), ("_law_steps", .free)] false false []
def N_law_explaining : List Str := ["_law_sequences", "_law_observations", "_law_result_here", "_law_at", "_law_steps", "_law_one"]
def J_law_explaining : Ix := ⟨N_law_explaining, sc_law_explaining, fun _ => true⟩
theorem F_law_explaining_0 : stB J_law_explaining 2 "_law_result_here" = true ∧ varB J_law_explaining 0 "_law_sequences" = true ∧ glB J_law_explaining "enumerate" = true ∧ stB J_law_explaining 4 "_law_steps" = true ∧ stB J_law_explaining 3 "_law_at" = true ∧ varB J_law_explaining 1 "_law_observations" = true ∧ blkB J_law_explaining sc_law_explaining_1 [("_law_one", 5)] = true ∧ stB (J_law_explaining.blk sc_law_explaining_1) 5 "_law_one" = true ∧ varB (J_law_explaining.blk sc_law_explaining_1) 5 "_law_one" = true ∧ varB (J_law_explaining.blk sc_law_explaining_1) 4 "_law_steps" = true ∧ glB (J_law_explaining.blk sc_law_explaining_1) "_law_result" = true ∧ varB J_law_explaining 2 "_law_result_here" = true ∧ varB J_law_explaining 3 "_law_at" = true := by decide +kernel
theorem q_law_explaining_0 : stB J_law_explaining 2 "_law_result_here" = true := F_law_explaining_0.1
theorem q_law_explaining_1 : varB J_law_explaining 0 "_law_sequences" = true := F_law_explaining_0.2.1
theorem q_law_explaining_2 : glB J_law_explaining "enumerate" = true := F_law_explaining_0.2.2.1
theorem q_law_explaining_3 : stB J_law_explaining 4 "_law_steps" = true := F_law_explaining_0.2.2.2.1
theorem q_law_explaining_4 : stB J_law_explaining 3 "_law_at" = true := F_law_explaining_0.2.2.2.2.1
theorem q_law_explaining_5 : varB J_law_explaining 1 "_law_observations" = true := F_law_explaining_0.2.2.2.2.2.1
theorem q_law_explaining_6 : blkB J_law_explaining sc_law_explaining_1 [("_law_one", 5)] = true := F_law_explaining_0.2.2.2.2.2.2.1
theorem q_law_explaining_7 : stB (J_law_explaining.blk sc_law_explaining_1) 5 "_law_one" = true := F_law_explaining_0.2.2.2.2.2.2.2.1
theorem q_law_explaining_8 : varB (J_law_explaining.blk sc_law_explaining_1) 5 "_law_one" = true := F_law_explaining_0.2.2.2.2.2.2.2.2.1
theorem q_law_explaining_9 : varB (J_law_explaining.blk sc_law_explaining_1) 4 "_law_steps" = true := F_law_explaining_0.2.2.2.2.2.2.2.2.2.1
theorem q_law_explaining_10 : glB (J_law_explaining.blk sc_law_explaining_1) "_law_result" = true := F_law_explaining_0.2.2.2.2.2.2.2.2.2.2.1
theorem q_law_explaining_11 : varB J_law_explaining 2 "_law_result_here" = true := F_law_explaining_0.2.2.2.2.2.2.2.2.2.2.2.1
theorem q_law_explaining_12 : varB J_law_explaining 3 "_law_at" = true := F_law_explaining_0.2.2.2.2.2.2.2.2.2.2.2.2
theorem e_law_explaining : defScope s_law_explaining = sc_law_explaining := by kernel_rfl
theorem S_law_explaining : FnScope N_law_explaining ["_law_sequences", "_law_observations"] sc_law_explaining := ⟨rfl, rfl, rfl, by decide +kernel, by decide +kernel, by decide +kernel, by decide +kernel⟩
abbrev s_largest_group : Stmt := top 28
def sc_largest_group : Scope := Scope.mk .function [("results", .cell), ("max", .globalImplicit)] false false [("fast", .str "results"), ("fast", .str "result")]
def sc_largest_group_1 : Scope := Scope.mk .function [(".0", .local), ("result", .local), ("results", .free)] false false []
def N_largest_group : List Str := ["results", "result"]
def J_largest_group : Ix := ⟨N_largest_group, sc_largest_group, fun _ => true⟩
theorem F_largest_group_0 : varB J_largest_group 0 "results" = true ∧ blkB J_largest_group sc_largest_group_1 [("result", 1)] = true ∧ stB (J_largest_group.blk sc_largest_group_1) 1 "result" = true ∧ varB (J_largest_group.blk sc_largest_group_1) 0 "results" = true ∧ varB (J_largest_group.blk sc_largest_group_1) 1 "result" = true ∧ glB J_largest_group "max" = true := by decide +kernel
theorem q_largest_group_0 : varB J_largest_group 0 "results" = true := F_largest_group_0.1
theorem q_largest_group_1 : blkB J_largest_group sc_largest_group_1 [("result", 1)] = true := F_largest_group_0.2.1
theorem q_largest_group_2 : stB (J_largest_group.blk sc_largest_group_1) 1 "result" = true := F_largest_group_0.2.2.1
theorem q_largest_group_3 : varB (J_largest_group.blk sc_largest_group_1) 0 "results" = true := F_largest_group_0.2.2.2.1
theorem q_largest_group_4 : varB (J_largest_group.blk sc_largest_group_1) 1 "result" = true := F_largest_group_0.2.2.2.2.1
theorem q_largest_group_5 : glB J_largest_group "max" = true := F_largest_group_0.2.2.2.2.2
theorem e_largest_group : defScope s_largest_group = sc_largest_group := by kernel_rfl
theorem S_largest_group : FnScope N_largest_group ["results"] sc_largest_group := ⟨rfl, rfl, rfl, by decide +kernel, by decide +kernel, by decide +kernel, by decide +kernel⟩
abbrev s_telling : Stmt := top 29
def sc_telling : Scope := Scope.mk .function [("sequences", .cell), ("nests", .local), ("nest", .local), ("sizes", .local), ("require_sequences", .globalImplicit), ("require_nest", .globalImplicit), ("len", .globalImplicit), ("min", .globalImplicit)] false false [("fast", .str "sequences"), ("fast", .str "nests"), ("fast", .str "nest"), ("fast", .str "sequence"), ("fast", .str "sizes")]
def sc_telling_1 : Scope := Scope.mk .function [(".0", .local), ("nest", .cell), ("largest_group", .globalImplicit), ("sequences", .free)] false false []
def sc_telling_2 : Scope := Scope.mk .function [(".0", .local), ("sequence", .local), ("outcome", .globalImplicit), ("nest", .free)] false false []
def N_telling : List Str := ["sequences", "nests", "nest", "sizes", "sequence"]
def J_telling : Ix := ⟨N_telling, sc_telling, fun _ => true⟩
theorem F_telling_0 : varB J_telling 0 "sequences" = true ∧ glB J_telling "require_sequences" = true ∧ varB J_telling 1 "nests" = true ∧ stB J_telling 2 "nest" = true ∧ varB J_telling 2 "nest" = true ∧ glB J_telling "require_nest" = true ∧ glB J_telling "len" = true ∧ blkB J_telling sc_telling_1 [("nest", 2)] = true ∧ stB (J_telling.blk sc_telling_1) 2 "nest" = true ∧ varB (J_telling.blk sc_telling_1) 0 "sequences" = true ∧ blkB (J_telling.blk sc_telling_1) sc_telling_2 [("sequence", 4)] = true ∧ stB ((J_telling.blk sc_telling_1).blk sc_telling_2) 4 "sequence" = true ∧ varB ((J_telling.blk sc_telling_1).blk sc_telling_2) 2 "nest" = true ∧ varB ((J_telling.blk sc_telling_1).blk sc_telling_2) 4 "sequence" = true ∧ glB ((J_telling.blk sc_telling_1).blk sc_telling_2) "outcome" = true ∧ glB (J_telling.blk sc_telling_1) "largest_group" = true ∧ lcB J_telling 3 "sizes" = true ∧ swB sc_telling_1 "sizes" = true ∧ varB J_telling 3 "sizes" = true ∧ glB J_telling "min" = true := by decide +kernel
theorem q_telling_0 : varB J_telling 0 "sequences" = true := F_telling_0.1
theorem q_telling_1 : glB J_telling "require_sequences" = true := F_telling_0.2.1
theorem q_telling_2 : varB J_telling 1 "nests" = true := F_telling_0.2.2.1
theorem q_telling_3 : stB J_telling 2 "nest" = true := F_telling_0.2.2.2.1
theorem q_telling_4 : varB J_telling 2 "nest" = true := F_telling_0.2.2.2.2.1
theorem q_telling_5 : glB J_telling "require_nest" = true := F_telling_0.2.2.2.2.2.1
theorem q_telling_6 : glB J_telling "len" = true := F_telling_0.2.2.2.2.2.2.1
theorem q_telling_7 : blkB J_telling sc_telling_1 [("nest", 2)] = true := F_telling_0.2.2.2.2.2.2.2.1
theorem q_telling_8 : stB (J_telling.blk sc_telling_1) 2 "nest" = true := F_telling_0.2.2.2.2.2.2.2.2.1
theorem q_telling_9 : varB (J_telling.blk sc_telling_1) 0 "sequences" = true := F_telling_0.2.2.2.2.2.2.2.2.2.1
theorem q_telling_10 : blkB (J_telling.blk sc_telling_1) sc_telling_2 [("sequence", 4)] = true := F_telling_0.2.2.2.2.2.2.2.2.2.2.1
theorem q_telling_11 : stB ((J_telling.blk sc_telling_1).blk sc_telling_2) 4 "sequence" = true := F_telling_0.2.2.2.2.2.2.2.2.2.2.2.1
theorem q_telling_12 : varB ((J_telling.blk sc_telling_1).blk sc_telling_2) 2 "nest" = true := F_telling_0.2.2.2.2.2.2.2.2.2.2.2.2.1
theorem q_telling_13 : varB ((J_telling.blk sc_telling_1).blk sc_telling_2) 4 "sequence" = true := F_telling_0.2.2.2.2.2.2.2.2.2.2.2.2.2.1
theorem q_telling_14 : glB ((J_telling.blk sc_telling_1).blk sc_telling_2) "outcome" = true := F_telling_0.2.2.2.2.2.2.2.2.2.2.2.2.2.2.1
theorem q_telling_15 : glB (J_telling.blk sc_telling_1) "largest_group" = true := F_telling_0.2.2.2.2.2.2.2.2.2.2.2.2.2.2.2.1
theorem q_telling_16 : lcB J_telling 3 "sizes" = true := F_telling_0.2.2.2.2.2.2.2.2.2.2.2.2.2.2.2.2.1
theorem q_telling_17 : swB sc_telling_1 "sizes" = true := F_telling_0.2.2.2.2.2.2.2.2.2.2.2.2.2.2.2.2.2.1
theorem q_telling_18 : varB J_telling 3 "sizes" = true := F_telling_0.2.2.2.2.2.2.2.2.2.2.2.2.2.2.2.2.2.2.1
theorem q_telling_19 : glB J_telling "min" = true := F_telling_0.2.2.2.2.2.2.2.2.2.2.2.2.2.2.2.2.2.2.2
theorem e_telling : defScope s_telling = sc_telling := by kernel_rfl
theorem S_telling : FnScope N_telling ["sequences", "nests"] sc_telling := ⟨rfl, rfl, rfl, by decide +kernel, by decide +kernel, by decide +kernel, by decide +kernel⟩
abbrev s_law_telling : Stmt := top 40
def sc_law_telling : Scope := Scope.mk .function [("_law_sequences", .local), ("_law_nests", .local), ("_law_sizes", .local), ("_law_nest_here", .cell), ("_law_results", .cell), ("max", .globalImplicit), ("min", .globalImplicit)] false false [("fast", .str "_law_sequences"), ("fast", .str "_law_nests"), ("fast", .str "_law_sizes"), ("fast", .str "_law_nest_here"), ("fast", .str "_law_steps"), ("fast", .str "_law_results"), ("fast", .str "_law_one")]
def sc_law_telling_1 : Scope := Scope.mk .function [(".0", .local), ("_law_steps", .local), ("_law_result", .globalImplicit), ("_law_nest_here", .free)] false false []
def sc_law_telling_2 : Scope := Scope.mk .function [(".0", .local), ("_law_one", .local), ("_law_results", .free)] false false []
def N_law_telling : List Str := ["_law_sequences", "_law_nests", "_law_sizes", "_law_nest_here", "_law_results", "_law_steps", "_law_one"]
def J_law_telling : Ix := ⟨N_law_telling, sc_law_telling, fun _ => true⟩
theorem F_law_telling_0 : varB J_law_telling 0 "_law_sequences" = true ∧ varB J_law_telling 1 "_law_nests" = true ∧ stB J_law_telling 2 "_law_sizes" = true ∧ stB J_law_telling 3 "_law_nest_here" = true ∧ isK J_law_telling.sc "_law_results" .cell = true ∧ blkB J_law_telling sc_law_telling_1 [("_law_steps", 5)] = true ∧ stB (J_law_telling.blk sc_law_telling_1) 5 "_law_steps" = true ∧ varB (J_law_telling.blk sc_law_telling_1) 3 "_law_nest_here" = true ∧ varB (J_law_telling.blk sc_law_telling_1) 5 "_law_steps" = true ∧ glB (J_law_telling.blk sc_law_telling_1) "_law_result" = true ∧ stB J_law_telling 4 "_law_results" = true ∧ varB J_law_telling 2 "_law_sizes" = true ∧ varB J_law_telling 4 "_law_results" = true ∧ blkB J_law_telling sc_law_telling_2 [("_law_one", 6)] = true ∧ stB (J_law_telling.blk sc_law_telling_2) 6 "_law_one" = true ∧ varB (J_law_telling.blk sc_law_telling_2) 4 "_law_results" = true ∧ varB (J_law_telling.blk sc_law_telling_2) 6 "_law_one" = true ∧ glB J_law_telling "max" = true ∧ glB J_law_telling "min" = true := by decide +kernel
theorem q_law_telling_0 : varB J_law_telling 0 "_law_sequences" = true := F_law_telling_0.1
theorem q_law_telling_1 : varB J_law_telling 1 "_law_nests" = true := F_law_telling_0.2.1
theorem q_law_telling_2 : stB J_law_telling 2 "_law_sizes" = true := F_law_telling_0.2.2.1
theorem q_law_telling_3 : stB J_law_telling 3 "_law_nest_here" = true := F_law_telling_0.2.2.2.1
theorem q_law_telling_4 : isK J_law_telling.sc "_law_results" .cell = true := F_law_telling_0.2.2.2.2.1
theorem q_law_telling_5 : blkB J_law_telling sc_law_telling_1 [("_law_steps", 5)] = true := F_law_telling_0.2.2.2.2.2.1
theorem q_law_telling_6 : stB (J_law_telling.blk sc_law_telling_1) 5 "_law_steps" = true := F_law_telling_0.2.2.2.2.2.2.1
theorem q_law_telling_7 : varB (J_law_telling.blk sc_law_telling_1) 3 "_law_nest_here" = true := F_law_telling_0.2.2.2.2.2.2.2.1
theorem q_law_telling_8 : varB (J_law_telling.blk sc_law_telling_1) 5 "_law_steps" = true := F_law_telling_0.2.2.2.2.2.2.2.2.1
theorem q_law_telling_9 : glB (J_law_telling.blk sc_law_telling_1) "_law_result" = true := F_law_telling_0.2.2.2.2.2.2.2.2.2.1
theorem q_law_telling_10 : stB J_law_telling 4 "_law_results" = true := F_law_telling_0.2.2.2.2.2.2.2.2.2.2.1
theorem q_law_telling_11 : varB J_law_telling 2 "_law_sizes" = true := F_law_telling_0.2.2.2.2.2.2.2.2.2.2.2.1
theorem q_law_telling_12 : varB J_law_telling 4 "_law_results" = true := F_law_telling_0.2.2.2.2.2.2.2.2.2.2.2.2.1
theorem q_law_telling_13 : blkB J_law_telling sc_law_telling_2 [("_law_one", 6)] = true := F_law_telling_0.2.2.2.2.2.2.2.2.2.2.2.2.2.1
theorem q_law_telling_14 : stB (J_law_telling.blk sc_law_telling_2) 6 "_law_one" = true := F_law_telling_0.2.2.2.2.2.2.2.2.2.2.2.2.2.2.1
theorem q_law_telling_15 : varB (J_law_telling.blk sc_law_telling_2) 4 "_law_results" = true := F_law_telling_0.2.2.2.2.2.2.2.2.2.2.2.2.2.2.2.1
theorem q_law_telling_16 : varB (J_law_telling.blk sc_law_telling_2) 6 "_law_one" = true := F_law_telling_0.2.2.2.2.2.2.2.2.2.2.2.2.2.2.2.2.1
theorem q_law_telling_17 : glB J_law_telling "max" = true := F_law_telling_0.2.2.2.2.2.2.2.2.2.2.2.2.2.2.2.2.2.1
theorem q_law_telling_18 : glB J_law_telling "min" = true := F_law_telling_0.2.2.2.2.2.2.2.2.2.2.2.2.2.2.2.2.2.2
theorem e_law_telling : defScope s_law_telling = sc_law_telling := by kernel_rfl
theorem S_law_telling : FnScope N_law_telling ["_law_sequences", "_law_nests"] sc_law_telling := ⟨rfl, rfl, rfl, by decide +kernel, by decide +kernel, by decide +kernel, by decide +kernel⟩
abbrev s_law : Stmt := top 41
def sc_law : Scope := Scope.mk .function [("_law_script", .local), ("_law_k", .local), ("_law_cell", .local), ("_law_digits", .cell), ("_law_sequences", .local), ("_law_nests", .local), ("_law_truth", .cell), ("_law_watched", .local), ("_law_bent", .local), ("_law_saved", .local), ("_law_observations", .local), ("_law_turn", .cell), ("_law_given", .local), ("_law_result_here", .local), ("_law_some", .local), ("enumerate", .globalImplicit), ("int", .globalImplicit), ("_law_numbers", .globalImplicit), ("range", .globalImplicit), ("len", .globalImplicit), ("_law_nest", .globalImplicit), ("repr", .globalImplicit), ("explaining", .globalImplicit), ("_law_explaining", .globalImplicit), ("telling", .globalImplicit), ("_law_telling", .globalImplicit)] false false [("fast", .str "_law_script"), ("fast", .str "_law_k"), ("fast", .str "_law_cell"), ("fast", .str "_law_digits"), ("fast", .str "_law_j"), ("fast", .str "_law_sequences"), ("fast", .str "_law_nests"), ("fast", .str "_law_truth"), ("fast", .str "_law_nest_here"), ("fast", .str "_law_watched"), ("fast", .str "_law_bent"), ("fast", .str "_law_saved"), ("fast", .str "_law_observations"), ("fast", .str "_law_turn"), ("fast", .str "_law_at"), ("fast", .str "_law_steps"), ("fast", .str "_law_given"), ("fast", .str "_law_result_here"), ("fast", .str "_law_some")]
def sc_law_1 : Scope := Scope.mk .function [(".0", .local), ("_law_j", .local), ("_law_sequence", .globalImplicit), ("_law_digits", .free)] false false []
def sc_law_2 : Scope := Scope.mk .function [(".0", .local), ("_law_j", .local), ("_law_nest", .globalImplicit), ("_law_digits", .free)] false false []
def sc_law_3 : Scope := Scope.mk .function [(".0", .local), ("_law_nest_here", .local), ("_law_result", .globalImplicit), ("_law_truth", .free)] false false []
def sc_law_4 : Scope := Scope.mk .function [(".0", .local), ("_law_at", .local), ("_law_steps", .local), ("tuple", .globalImplicit), ("_law_turn", .free)] false false []
def N_law : List Str := ["_law_script", "_law_k", "_law_cell", "_law_digits", "_law_sequences", "_law_nests", "_law_truth", "_law_watched", "_law_bent", "_law_saved", "_law_observations", "_law_turn", "_law_given", "_law_result_here", "_law_some", "_law_j", "_law_nest_here", "_law_at", "_law_steps"]
def J_law : Ix := ⟨N_law, sc_law, fun _ => true⟩
theorem F_law_0 : varB J_law 0 "_law_script" = true ∧ glB J_law "int" = true ∧ glB J_law "enumerate" = true ∧ stB J_law 2 "_law_cell" = true ∧ stB J_law 1 "_law_k" = true ∧ varB J_law 2 "_law_cell" = true ∧ varB J_law 1 "_law_k" = true ∧ glB J_law "_law_numbers" = true ∧ stB J_law 3 "_law_digits" = true ∧ varB J_law 3 "_law_digits" = true ∧ glB J_law "range" = true ∧ blkB J_law sc_law_1 [("_law_j", 15)] = true ∧ stB (J_law.blk sc_law_1) 15 "_law_j" = true ∧ varB (J_law.blk sc_law_1) 3 "_law_digits" = true ∧ varB (J_law.blk sc_law_1) 15 "_law_j" = true ∧ glB (J_law.blk sc_law_1) "_law_sequence" = true ∧ lcB J_law 4 "_law_sequences" = true ∧ swB sc_law_1 "_law_sequences" = true ∧ blkB J_law sc_law_2 [("_law_j", 15)] = true ∧ stB (J_law.blk sc_law_2) 15 "_law_j" = true ∧ varB (J_law.blk sc_law_2) 3 "_law_digits" = true ∧ varB (J_law.blk sc_law_2) 15 "_law_j" = true ∧ glB (J_law.blk sc_law_2) "_law_nest" = true ∧ lcB J_law 5 "_law_nests" = true := by decide +kernel
theorem q_law_0 : varB J_law 0 "_law_script" = true := F_law_0.1
theorem q_law_1 : glB J_law "int" = true := F_law_0.2.1
theorem q_law_2 : glB J_law "enumerate" = true := F_law_0.2.2.1
theorem q_law_3 : stB J_law 2 "_law_cell" = true := F_law_0.2.2.2.1
theorem q_law_4 : stB J_law 1 "_law_k" = true := F_law_0.2.2.2.2.1
theorem q_law_5 : varB J_law 2 "_law_cell" = true := F_law_0.2.2.2.2.2.1
theorem q_law_6 : varB J_law 1 "_law_k" = true := F_law_0.2.2.2.2.2.2.1
theorem q_law_7 : glB J_law "_law_numbers" = true := F_law_0.2.2.2.2.2.2.2.1
theorem q_law_8 : stB J_law 3 "_law_digits" = true := F_law_0.2.2.2.2.2.2.2.2.1
theorem q_law_9 : varB J_law 3 "_law_digits" = true := F_law_0.2.2.2.2.2.2.2.2.2.1
theorem q_law_10 : glB J_law "range" = true := F_law_0.2.2.2.2.2.2.2.2.2.2.1
theorem q_law_11 : blkB J_law sc_law_1 [("_law_j", 15)] = true := F_law_0.2.2.2.2.2.2.2.2.2.2.2.1
theorem q_law_12 : stB (J_law.blk sc_law_1) 15 "_law_j" = true := F_law_0.2.2.2.2.2.2.2.2.2.2.2.2.1
theorem q_law_13 : varB (J_law.blk sc_law_1) 3 "_law_digits" = true := F_law_0.2.2.2.2.2.2.2.2.2.2.2.2.2.1
theorem q_law_14 : varB (J_law.blk sc_law_1) 15 "_law_j" = true := F_law_0.2.2.2.2.2.2.2.2.2.2.2.2.2.2.1
theorem q_law_15 : glB (J_law.blk sc_law_1) "_law_sequence" = true := F_law_0.2.2.2.2.2.2.2.2.2.2.2.2.2.2.2.1
theorem q_law_16 : lcB J_law 4 "_law_sequences" = true := F_law_0.2.2.2.2.2.2.2.2.2.2.2.2.2.2.2.2.1
theorem q_law_17 : swB sc_law_1 "_law_sequences" = true := F_law_0.2.2.2.2.2.2.2.2.2.2.2.2.2.2.2.2.2.1
theorem q_law_18 : blkB J_law sc_law_2 [("_law_j", 15)] = true := F_law_0.2.2.2.2.2.2.2.2.2.2.2.2.2.2.2.2.2.2.1
theorem q_law_19 : stB (J_law.blk sc_law_2) 15 "_law_j" = true := F_law_0.2.2.2.2.2.2.2.2.2.2.2.2.2.2.2.2.2.2.2.1
theorem q_law_20 : varB (J_law.blk sc_law_2) 3 "_law_digits" = true := F_law_0.2.2.2.2.2.2.2.2.2.2.2.2.2.2.2.2.2.2.2.2.1
theorem q_law_21 : varB (J_law.blk sc_law_2) 15 "_law_j" = true := F_law_0.2.2.2.2.2.2.2.2.2.2.2.2.2.2.2.2.2.2.2.2.2.1
theorem q_law_22 : glB (J_law.blk sc_law_2) "_law_nest" = true := F_law_0.2.2.2.2.2.2.2.2.2.2.2.2.2.2.2.2.2.2.2.2.2.2.1
theorem q_law_23 : lcB J_law 5 "_law_nests" = true := F_law_0.2.2.2.2.2.2.2.2.2.2.2.2.2.2.2.2.2.2.2.2.2.2.2
theorem F_law_24 : swB sc_law_2 "_law_nests" = true ∧ varB J_law 4 "_law_sequences" = true ∧ glB J_law "len" = true ∧ stB J_law 6 "_law_truth" = true ∧ varB J_law 5 "_law_nests" = true ∧ blkB J_law sc_law_3 [("_law_nest_here", 16)] = true ∧ stB (J_law.blk sc_law_3) 16 "_law_nest_here" = true ∧ varB (J_law.blk sc_law_3) 16 "_law_nest_here" = true ∧ varB (J_law.blk sc_law_3) 6 "_law_truth" = true ∧ glB (J_law.blk sc_law_3) "_law_result" = true ∧ lcB J_law 7 "_law_watched" = true ∧ swB sc_law_3 "_law_watched" = true ∧ varB J_law 7 "_law_watched" = true ∧ glB J_law "_law_nest" = true ∧ stB J_law 8 "_law_bent" = true ∧ varB J_law 8 "_law_bent" = true ∧ glB J_law "repr" = true ∧ stB J_law 9 "_law_saved" = true ∧ stB J_law 10 "_law_observations" = true ∧ stB J_law 11 "_law_turn" = true ∧ blkB J_law sc_law_4 [("_law_at", 17), ("_law_steps", 18)] = true ∧ stB (J_law.blk sc_law_4) 18 "_law_steps" = true ∧ stB (J_law.blk sc_law_4) 17 "_law_at" = true ∧ varB (J_law.blk sc_law_4) 18 "_law_steps" = true := by decide +kernel
theorem q_law_24 : swB sc_law_2 "_law_nests" = true := F_law_24.1
theorem q_law_25 : varB J_law 4 "_law_sequences" = true := F_law_24.2.1
theorem q_law_26 : glB J_law "len" = true := F_law_24.2.2.1
theorem q_law_27 : stB J_law 6 "_law_truth" = true := F_law_24.2.2.2.1
theorem q_law_28 : varB J_law 5 "_law_nests" = true := F_law_24.2.2.2.2.1
theorem q_law_29 : blkB J_law sc_law_3 [("_law_nest_here", 16)] = true := F_law_24.2.2.2.2.2.1
theorem q_law_30 : stB (J_law.blk sc_law_3) 16 "_law_nest_here" = true := F_law_24.2.2.2.2.2.2.1
theorem q_law_31 : varB (J_law.blk sc_law_3) 16 "_law_nest_here" = true := F_law_24.2.2.2.2.2.2.2.1
theorem q_law_32 : varB (J_law.blk sc_law_3) 6 "_law_truth" = true := F_law_24.2.2.2.2.2.2.2.2.1
theorem q_law_33 : glB (J_law.blk sc_law_3) "_law_result" = true := F_law_24.2.2.2.2.2.2.2.2.2.1
theorem q_law_34 : lcB J_law 7 "_law_watched" = true := F_law_24.2.2.2.2.2.2.2.2.2.2.1
theorem q_law_35 : swB sc_law_3 "_law_watched" = true := F_law_24.2.2.2.2.2.2.2.2.2.2.2.1
theorem q_law_36 : varB J_law 7 "_law_watched" = true := F_law_24.2.2.2.2.2.2.2.2.2.2.2.2.1
theorem q_law_37 : glB J_law "_law_nest" = true := F_law_24.2.2.2.2.2.2.2.2.2.2.2.2.2.1
theorem q_law_38 : stB J_law 8 "_law_bent" = true := F_law_24.2.2.2.2.2.2.2.2.2.2.2.2.2.2.1
theorem q_law_39 : varB J_law 8 "_law_bent" = true := F_law_24.2.2.2.2.2.2.2.2.2.2.2.2.2.2.2.1
theorem q_law_40 : glB J_law "repr" = true := F_law_24.2.2.2.2.2.2.2.2.2.2.2.2.2.2.2.2.1
theorem q_law_41 : stB J_law 9 "_law_saved" = true := F_law_24.2.2.2.2.2.2.2.2.2.2.2.2.2.2.2.2.2.1
theorem q_law_42 : stB J_law 10 "_law_observations" = true := F_law_24.2.2.2.2.2.2.2.2.2.2.2.2.2.2.2.2.2.2.1
theorem q_law_43 : stB J_law 11 "_law_turn" = true := F_law_24.2.2.2.2.2.2.2.2.2.2.2.2.2.2.2.2.2.2.2.1
theorem q_law_44 : blkB J_law sc_law_4 [("_law_at", 17), ("_law_steps", 18)] = true := F_law_24.2.2.2.2.2.2.2.2.2.2.2.2.2.2.2.2.2.2.2.2.1
theorem q_law_45 : stB (J_law.blk sc_law_4) 18 "_law_steps" = true := F_law_24.2.2.2.2.2.2.2.2.2.2.2.2.2.2.2.2.2.2.2.2.2.1
theorem q_law_46 : stB (J_law.blk sc_law_4) 17 "_law_at" = true := F_law_24.2.2.2.2.2.2.2.2.2.2.2.2.2.2.2.2.2.2.2.2.2.2.1
theorem q_law_47 : varB (J_law.blk sc_law_4) 18 "_law_steps" = true := F_law_24.2.2.2.2.2.2.2.2.2.2.2.2.2.2.2.2.2.2.2.2.2.2.2
theorem F_law_48 : glB (J_law.blk sc_law_4) "tuple" = true ∧ varB (J_law.blk sc_law_4) 17 "_law_at" = true ∧ varB (J_law.blk sc_law_4) 11 "_law_turn" = true ∧ lcB J_law 12 "_law_given" = true ∧ swB sc_law_4 "_law_given" = true ∧ varB J_law 12 "_law_given" = true ∧ varB J_law 10 "_law_observations" = true ∧ glB J_law "explaining" = true ∧ stB J_law 13 "_law_result_here" = true ∧ varB J_law 13 "_law_result_here" = true ∧ glB J_law "_law_explaining" = true ∧ stB J_law 14 "_law_some" = true ∧ varB J_law 14 "_law_some" = true ∧ glB J_law "telling" = true ∧ glB J_law "_law_telling" = true ∧ varB J_law 9 "_law_saved" = true := by decide +kernel
theorem q_law_48 : glB (J_law.blk sc_law_4) "tuple" = true := F_law_48.1
theorem q_law_49 : varB (J_law.blk sc_law_4) 17 "_law_at" = true := F_law_48.2.1
theorem q_law_50 : varB (J_law.blk sc_law_4) 11 "_law_turn" = true := F_law_48.2.2.1
theorem q_law_51 : lcB J_law 12 "_law_given" = true := F_law_48.2.2.2.1
theorem q_law_52 : swB sc_law_4 "_law_given" = true := F_law_48.2.2.2.2.1
theorem q_law_53 : varB J_law 12 "_law_given" = true := F_law_48.2.2.2.2.2.1
theorem q_law_54 : varB J_law 10 "_law_observations" = true := F_law_48.2.2.2.2.2.2.1
theorem q_law_55 : glB J_law "explaining" = true := F_law_48.2.2.2.2.2.2.2.1
theorem q_law_56 : stB J_law 13 "_law_result_here" = true := F_law_48.2.2.2.2.2.2.2.2.1
theorem q_law_57 : varB J_law 13 "_law_result_here" = true := F_law_48.2.2.2.2.2.2.2.2.2.1
theorem q_law_58 : glB J_law "_law_explaining" = true := F_law_48.2.2.2.2.2.2.2.2.2.2.1
theorem q_law_59 : stB J_law 14 "_law_some" = true := F_law_48.2.2.2.2.2.2.2.2.2.2.2.1
theorem q_law_60 : varB J_law 14 "_law_some" = true := F_law_48.2.2.2.2.2.2.2.2.2.2.2.2.1
theorem q_law_61 : glB J_law "telling" = true := F_law_48.2.2.2.2.2.2.2.2.2.2.2.2.2.1
theorem q_law_62 : glB J_law "_law_telling" = true := F_law_48.2.2.2.2.2.2.2.2.2.2.2.2.2.2.1
theorem q_law_63 : varB J_law 9 "_law_saved" = true := F_law_48.2.2.2.2.2.2.2.2.2.2.2.2.2.2.2
theorem e_law : defScope s_law = sc_law := by kernel_rfl
theorem S_law : FnScope N_law ["_law_script"] sc_law := ⟨rfl, rfl, rfl, by decide +kernel, by decide +kernel, by decide +kernel, by decide +kernel⟩
structure Md (w : World) (K : PySem.W.Frag) (mg : Str → Option Value) : Prop where
  k_DIGITS : ∃ u, mg "DIGITS" = some u ∧ RelV (.str "0123456789") u
  k_LETTERS : ∃ u, mg "LETTERS" = some u ∧ RelV (.str "abcdefghijklmnopqrstuvwxyz") u
  k_MAX_LENGTH : ∃ u, mg "MAX_LENGTH" = some u ∧ RelV (.int 8) u
  t_SHAPES : KT K w (He.ga K "SHAPES") T_SHAPES
  g_SHAPES : mg "SHAPES" = some (.ref (He.ga K "SHAPES"))
  b_all : mg "all" = none
  b_dict : mg "dict" = none
  b_enumerate : mg "enumerate" = none
  b_int : mg "int" = none
  b_isinstance : mg "isinstance" = none
  b_len : mg "len" = none
  b_list : mg "list" = none
  b_max : mg "max" = none
  b_min : mg "min" = none
  b_range : mg "range" = none
  b_repr : mg "repr" = none
  b_sorted : mg "sorted" = none
  b_str : mg "str" = none
  b_tuple : mg "tuple" = none
  b_zip : mg "zip" = none
  f_law_numbers : ∃ fa fd, FunD K "_law_numbers" "_law_numbers" (defArgs s_law_numbers) (defBody s_law_numbers) (defScope s_law_numbers) [] [] fa fd ∧ mg "_law_numbers" = some (.ref fa)
  f_law_step : ∃ fa fd, FunD K "_law_step" "_law_step" (defArgs s_law_step) (defBody s_law_step) (defScope s_law_step) [] [] fa fd ∧ mg "_law_step" = some (.ref fa)
  f_law_sequence : ∃ fa fd, FunD K "_law_sequence" "_law_sequence" (defArgs s_law_sequence) (defBody s_law_sequence) (defScope s_law_sequence) [] [] fa fd ∧ mg "_law_sequence" = some (.ref fa)
  f_law_nest : ∃ fa fd, FunD K "_law_nest" "_law_nest" (defArgs s_law_nest) (defBody s_law_nest) (defScope s_law_nest) [] [] fa fd ∧ mg "_law_nest" = some (.ref fa)
  f_law_visible : ∃ fa fd, FunD K "_law_visible" "_law_visible" (defArgs s_law_visible) (defBody s_law_visible) (defScope s_law_visible) [] [] fa fd ∧ mg "_law_visible" = some (.ref fa)
  f_law_after : ∃ fa fd, FunD K "_law_after" "_law_after" (defArgs s_law_after) (defBody s_law_after) (defScope s_law_after) [] [] fa fd ∧ mg "_law_after" = some (.ref fa)
  f_law_run : ∃ fa fd, FunD K "_law_run" "_law_run" (defArgs s_law_run) (defBody s_law_run) (defScope s_law_run) [] [] fa fd ∧ mg "_law_run" = some (.ref fa)
  f_law_result : ∃ fa fd, FunD K "_law_result" "_law_result" (defArgs s_law_result) (defBody s_law_result) (defScope s_law_result) [] [] fa fd ∧ mg "_law_result" = some (.ref fa)
  f_is_text_of : ∃ fa fd, FunD K "is_text_of" "is_text_of" (defArgs s_is_text_of) (defBody s_is_text_of) (defScope s_is_text_of) [] [] fa fd ∧ mg "is_text_of" = some (.ref fa)
  f_is_name : ∃ fa fd, FunD K "is_name" "is_name" (defArgs s_is_name) (defBody s_is_name) (defScope s_is_name) [] [] fa fd ∧ mg "is_name" = some (.ref fa)
  f_is_value : ∃ fa fd, FunD K "is_value" "is_value" (defArgs s_is_value) (defBody s_is_value) (defScope s_is_value) [] [] fa fd ∧ mg "is_value" = some (.ref fa)
  f_is_part : ∃ fa fd, FunD K "is_part" "is_part" (defArgs s_is_part) (defBody s_is_part) (defScope s_is_part) [] [] fa fd ∧ mg "is_part" = some (.ref fa)
  f_is_step : ∃ fa fd, FunD K "is_step" "is_step" (defArgs s_is_step) (defBody s_is_step) (defScope s_is_step) [] [] fa fd ∧ mg "is_step" = some (.ref fa)
  f_first_invalid : ∃ fa fd, FunD K "first_invalid" "first_invalid" (defArgs s_first_invalid) (defBody s_first_invalid) (defScope s_first_invalid) [] [] fa fd ∧ mg "first_invalid" = some (.ref fa)
  f_require_sequence : ∃ fa fd, FunD K "require_sequence" "require_sequence" (defArgs s_require_sequence) (defBody s_require_sequence) (defScope s_require_sequence) [] [] fa fd ∧ mg "require_sequence" = some (.ref fa)
  f_require_sequences : ∃ fa fd, FunD K "require_sequences" "require_sequences" (defArgs s_require_sequences) (defBody s_require_sequences) (defScope s_require_sequences) [] [] fa fd ∧ mg "require_sequences" = some (.ref fa)
  f_is_scope : ∃ fa fd, FunD K "is_scope" "is_scope" (defArgs s_is_scope) (defBody s_is_scope) (defScope s_is_scope) [] [] fa fd ∧ mg "is_scope" = some (.ref fa)
  f_is_nest : ∃ fa fd, FunD K "is_nest" "is_nest" (defArgs s_is_nest) (defBody s_is_nest) (defScope s_is_nest) [] [] fa fd ∧ mg "is_nest" = some (.ref fa)
  f_require_nest : ∃ fa fd, FunD K "require_nest" "require_nest" (defArgs s_require_nest) (defBody s_require_nest) (defScope s_require_nest) [] [] fa fd ∧ mg "require_nest" = some (.ref fa)
  f_visible_of : ∃ fa fd, FunD K "visible_of" "visible_of" (defArgs s_visible_of) (defBody s_visible_of) (defScope s_visible_of) [] [] fa fd ∧ mg "visible_of" = some (.ref fa)
  f_wanted_value : ∃ fa fd, FunD K "wanted_value" "wanted_value" (defArgs s_wanted_value) (defBody s_wanted_value) (defScope s_wanted_value) [] [] fa fd ∧ mg "wanted_value" = some (.ref fa)
  f_own_of : ∃ fa fd, FunD K "own_of" "own_of" (defArgs s_own_of) (defBody s_own_of) (defScope s_own_of) [] [] fa fd ∧ mg "own_of" = some (.ref fa)
  f_after_step : ∃ fa fd, FunD K "after_step" "after_step" (defArgs s_after_step) (defBody s_after_step) (defScope s_after_step) [] [] fa fd ∧ mg "after_step" = some (.ref fa)
  f_outcome : ∃ fa fd, FunD K "outcome" "outcome" (defArgs s_outcome) (defBody s_outcome) (defScope s_outcome) [] [] fa fd ∧ mg "outcome" = some (.ref fa)
  f_explaining : ∃ fa fd, FunD K "explaining" "explaining" (defArgs s_explaining) (defBody s_explaining) (defScope s_explaining) [] [] fa fd ∧ mg "explaining" = some (.ref fa)
  f_law_explaining : ∃ fa fd, FunD K "_law_explaining" "_law_explaining" (defArgs s_law_explaining) (defBody s_law_explaining) (defScope s_law_explaining) [] [] fa fd ∧ mg "_law_explaining" = some (.ref fa)
  f_largest_group : ∃ fa fd, FunD K "largest_group" "largest_group" (defArgs s_largest_group) (defBody s_largest_group) (defScope s_largest_group) [] [] fa fd ∧ mg "largest_group" = some (.ref fa)
  f_telling : ∃ fa fd, FunD K "telling" "telling" (defArgs s_telling) (defBody s_telling) (defScope s_telling) [] [] fa fd ∧ mg "telling" = some (.ref fa)
  f_law_telling : ∃ fa fd, FunD K "_law_telling" "_law_telling" (defArgs s_law_telling) (defBody s_law_telling) (defScope s_law_telling) [] [] fa fd ∧ mg "_law_telling" = some (.ref fa)
  f_law : ∃ fa fd, FunD K "law" "law" (defArgs s_law) (defBody s_law) (defScope s_law) [] [] fa fd ∧ mg "law" = some (.ref fa)
section
variable {P : Program} {w : World} {K : PySem.W.Frag} {mg : Str → Option Value} {base : Heap} {C : Cfg}
theorem body_law_numbers {X : Cx} {W : WX} (hK : C.K = K) (m : Md w K mg) (hsy : ∃ o, base.get? sysModules = some o) (B : Bd P w K mg base J_law_numbers 0 X) (hp : PassesOwn (model X.prog X.w) X.A X.env X.xe) : PSs X (defBody s_law_numbers) (TSz C W E_law_numbers) :=
  s_cons (b_asg B q_law_numbers_2 (b_callB B (c_max B.calm) q_law_numbers_1 m.b_max rfl (a_cons (b_var B q_law_numbers_0) (a_cons (s_bin z_sub (s_un z_neg (s_c pe_int fun _ _ => .int _)) (b_var B q_law_numbers_0)) a_nil rfl) rfl) rfl rfl) rfl) (s_cons (b_asg B q_law_numbers_4 (b_var B q_law_numbers_3) rfl) (s_cons (b_asg B q_law_numbers_5 (s_lst true a_nil) rfl) (s_cons (b_for (ws := [6]) B [6, 7] hp (i_range1 (B.gl q_law_numbers_8) (B.nx m.b_range) (a_cons (b_callB B (c_len (B.eK hK)) q_law_numbers_7 m.b_len rfl (a_cons (b_var B q_law_numbers_6) a_nil rfl) rfl rfl) a_nil rfl) rfl) (b_name B q_law_numbers_9 rfl) (s_one (s_if (PW.pt (t_and (t_cmp b_ge z_ge (b_var B q_law_numbers_3) (s_bin z_pow (s_c pe_int fun _ _ => .int _) (s_c pe_int fun _ _ => .int _)) rfl) (pw_and1 (t_cmp b_gt z_gt (b_var B q_law_numbers_10) (s_c pe_int fun _ _ => .int _) rfl)))) (s_cons (s_expr (s_meth PySem.F.plainAttrs_list PySem.F.slot_list_append PySem.F.type_list_append mz_append (b_var B q_law_numbers_11) (a_cons (s_bin z_mod (b_var B q_law_numbers_10) (s_ix (B.eK hK) B.u1 (b_var B q_law_numbers_6) (b_var B q_law_numbers_12) (fun _ _ => rfl))) a_nil rfl)) rfl) (s_one (b_asg B q_law_numbers_4 (s_bin z_fdiv (b_var B q_law_numbers_10) (s_ix (B.eK hK) B.u1 (b_var B q_law_numbers_6) (b_var B q_law_numbers_12) (fun _ _ => rfl))) rfl))) (s_cons (b_asg B q_law_numbers_14 (s_bin z_mod (s_bin z_pow (s_bin (z_add (B.eK hK) false) (s_bin (z_add (B.eK hK) false) (s_bin z_mod (b_var B q_law_numbers_3) (s_c pe_int fun _ _ => .int _)) (s_bin (z_mul false) (s_c pe_int fun _ _ => .int _) (b_var B q_law_numbers_13))) (s_c pe_int fun _ _ => .int _)) (s_c pe_int fun _ _ => .int _)) (s_c pe_int fun _ _ => .int _)) rfl) (s_cons (b_asg B q_law_numbers_14 (s_bin z_mod (s_bin (z_mul false) (s_bin (z_add (B.eK hK) false) (b_var B q_law_numbers_15) (s_bin (z_mul false) (s_c pe_int fun _ _ => .int _) (s_bin (z_add (B.eK hK) false) (b_var B q_law_numbers_12) (s_c pe_int fun _ _ => .int _)))) (s_bin (z_add (B.eK hK) false) (b_var B q_law_numbers_12) (s_c pe_int fun _ _ => .int _))) (s_c pe_int fun _ _ => .int _)) rfl) (s_cons (b_asg B q_law_numbers_14 (s_bin z_mod (s_bin (z_mul false) (s_bin z_mod (s_bin z_pow (b_var B q_law_numbers_15) (s_c pe_int fun _ _ => .int _)) (s_c pe_int fun _ _ => .int _)) (s_c pe_int fun _ _ => .int _)) (s_c pe_int fun _ _ => .int _)) rfl) (s_one (s_expr (s_meth PySem.F.plainAttrs_list PySem.F.slot_list_append PySem.F.type_list_append mz_append (b_var B q_law_numbers_11) (a_cons (s_bin z_mod (s_bin z_fdiv (b_var B q_law_numbers_15) (s_c pe_int fun _ _ => .int _)) (s_ix (B.eK hK) B.u1 (b_var B q_law_numbers_6) (b_var B q_law_numbers_12) (fun _ _ => rfl))) a_nil rfl)) rfl)))))))) (s_one (s_ret (s_frz (b_var B q_law_numbers_11)))))))
theorem fnz_law_numbers {fa : Addr} {fd : FuncData} (hK : C.K = K) (m : Md w K mg) (hsy : ∃ o, base.get? sysModules = some o) (F : FunD K "_law_numbers" "_law_numbers" (defArgs s_law_numbers) (defBody s_law_numbers) sc_law_numbers [] [] fa fd) : FnG P w K mg base CX0 1 fa fd ["_law_cell", "_law_salt", "_law_sizes"] (SpZ C 3 (runD N_law_numbers.length E_law_numbers)) :=
  def_z (b := E_law_numbers) F S_law_numbers rfl (fun cdv A outer s H E hid hr hg => by
    exact body_law_numbers (C := C.with hid) hK m hsy ⟨rfl, rfl, rfl, rfl, rfl, rfl, rfl, rfl, S_law_numbers.nd, rfl, hr, hg, rfl⟩ (passes_of rfl))
theorem cal_law_numbers (hK : C.K = K) (m : Md w K mg) (hsy : ∃ o, base.get? sysModules = some o) : CalG P w K mg base C "_law_numbers" 1 3 D_law_numbers [] := by
  obtain ⟨fa, fd, F, gm⟩ := m.f_law_numbers
  rw [e_law_numbers] at F
  have hz : FnG P w K mg base CX0 1 fa fd ["_law_cell", "_law_salt", "_law_sizes"] (SpZ C 3 (runD N_law_numbers.length E_law_numbers)) := fnz_law_numbers hK m hsy F
  exact ⟨fa, fd, ["_law_cell", "_law_salt", "_law_sizes"], [], [], hz, gm, F.kp, F.bindsN (fun _ _ _ _ _ _ us hl => match us, hl with | [_, _, _], _ => rfl), .nil, fun _ _ _ => .nil⟩
theorem body_law_step {X : Cx} {W : WX} (hK : C.K = K) (m : Md w K mg) (hsy : ∃ o, base.get? sysModules = some o) (B : Bd P w K mg base J_law_step 0 X) (hp : PassesOwn (model X.prog X.w) X.A X.env X.xe) : PSs X (defBody s_law_step) (TSz C W E_law_step) :=
  s_cons (b_asg B q_law_step_1 (s_ix (B.eK hK) B.u1 (s_lst false (a_cons (s_c pe_str fun _ _ => .str _) (a_cons (s_c pe_str fun _ _ => .str _) (a_cons (s_c pe_str fun _ _ => .str _) (a_cons (s_c pe_str fun _ _ => .str _) (a_cons (s_c pe_str fun _ _ => .str _) (a_cons (s_c pe_str fun _ _ => .str _) (a_cons (s_c pe_str fun _ _ => .str _) (a_cons (s_c pe_str fun _ _ => .str _) (a_cons (s_c pe_str fun _ _ => .str _) (a_cons (s_c pe_str fun _ _ => .str _) a_nil rfl) rfl) rfl) rfl) rfl) rfl) rfl) rfl) rfl) rfl)) (s_bin z_mod (s_ix (B.eK hK) B.u1 (b_var B q_law_step_0) (s_c pe_int fun _ _ => .int _) (fun _ _ => rfl)) (s_c pe_int fun _ _ => .int _)) (fun _ _ => rfl)) rfl) (s_cons (b_par B q_law_step_2 q_law_step_3 (by decide) (a_cons (s_ix (B.eK hK) B.u1 (s_lst false (a_cons (s_c pe_str fun _ _ => .str _) (a_cons (s_c pe_str fun _ _ => .str _) (a_cons (s_c pe_str fun _ _ => .str _) (a_cons (s_c pe_str fun _ _ => .str _) a_nil rfl) rfl) rfl) rfl)) (s_bin z_mod (s_ix (B.eK hK) B.u1 (b_var B q_law_step_0) (s_c pe_int fun _ _ => .int _) (fun _ _ => rfl)) (s_c pe_int fun _ _ => .int _)) (fun _ _ => rfl)) (a_cons (s_ix (B.eK hK) B.u1 (s_lst false (a_cons (s_c pe_str fun _ _ => .str _) (a_cons (s_c pe_str fun _ _ => .str _) (a_cons (s_c pe_str fun _ _ => .str _) a_nil rfl) rfl) rfl)) (s_bin z_mod (s_ix (B.eK hK) B.u1 (b_var B q_law_step_0) (s_c pe_int fun _ _ => .int _) (fun _ _ => rfl)) (s_c pe_int fun _ _ => .int _)) (fun _ _ => rfl)) a_nil rfl) rfl) (by decide)) (s_cons (s_if (t_cmp b_in (z_in (B.eK hK) B.u64) (b_var B q_law_step_4) (s_lst false (a_cons (s_c pe_str fun _ _ => .str _) (a_cons (s_c pe_str fun _ _ => .str _) a_nil rfl) rfl)) rfl) (s_one (s_ret (s_tup (a_cons (b_var B q_law_step_4) a_nil rfl)))) s_nil) (s_one (s_ret (s_ite (t_cmp b_in (z_in (B.eK hK) B.u64) (b_var B q_law_step_4) (s_lst false (a_cons (s_c pe_str fun _ _ => .str _) (a_cons (s_c pe_str fun _ _ => .str _) (a_cons (s_c pe_str fun _ _ => .str _) a_nil rfl) rfl) rfl)) rfl) (s_tup (a_cons (b_var B q_law_step_4) (a_cons (b_var B q_law_step_5) a_nil rfl) rfl)) (s_tup (a_cons (b_var B q_law_step_4) (a_cons (b_var B q_law_step_5) (a_cons (b_var B q_law_step_6) a_nil rfl) rfl) rfl)))))))
theorem fnz_law_step {fa : Addr} {fd : FuncData} (hK : C.K = K) (m : Md w K mg) (hsy : ∃ o, base.get? sysModules = some o) (F : FunD K "_law_step" "_law_step" (defArgs s_law_step) (defBody s_law_step) sc_law_step [] [] fa fd) : FnG P w K mg base CX0 1 fa fd ["_law_digits"] (SpZ C 1 (runD N_law_step.length E_law_step)) :=
  def_z (b := E_law_step) F S_law_step rfl (fun cdv A outer s H E hid hr hg => by
    exact body_law_step (C := C.with hid) hK m hsy ⟨rfl, rfl, rfl, rfl, rfl, rfl, rfl, rfl, S_law_step.nd, rfl, hr, hg, rfl⟩ (passes_of rfl))
theorem cal_law_step (hK : C.K = K) (m : Md w K mg) (hsy : ∃ o, base.get? sysModules = some o) : CalG P w K mg base C "_law_step" 1 1 D_law_step [] := by
  obtain ⟨fa, fd, F, gm⟩ := m.f_law_step
  rw [e_law_step] at F
  have hz : FnG P w K mg base CX0 1 fa fd ["_law_digits"] (SpZ C 1 (runD N_law_step.length E_law_step)) := fnz_law_step hK m hsy F
  exact ⟨fa, fd, ["_law_digits"], [], [], hz, gm, F.kp, F.bindsN (fun _ _ _ _ _ _ us hl => match us, hl with | [_], _ => rfl), .nil, fun _ _ _ => .nil⟩
theorem body_law_sequence {X : Cx} {W : WX} (hK : C.K = K) (m : Md w K mg) (hsy : ∃ o, base.get? sysModules = some o) (c_law_step : CalG P w K mg base C "_law_step" 1 1 D_law_step []) (B : Bd P w K mg base J_law_sequence 1 X) (hp : PassesOwn (model X.prog X.w) X.A X.env X.xe) : PSs X (defBody s_law_sequence) (TSz C W E_law_sequence) :=
  s_one (s_ret (b_lc B hK false (b := sc_law_sequence_1) (own := [("_law_k", 2)]) q_law_sequence_2 (i_range1 (B.gl q_law_sequence_1) (B.nx m.b_range) (a_cons (b_var B q_law_sequence_0) a_nil rfl) rfl) (fun X1 B1 h1 => have k1 : (C.with h1).K = K := hK; (b_name B1 q_law_sequence_3 rfl)) (fun X1 B1 h1 => have k1 : (C.with h1).K = K := hK; ts_none) (fun X1 B1 h1 => have k1 : (C.with h1).K = K := hK; (b_callP (C := C) B1 c_law_step rfl q_law_sequence_6 (a_cons (s_sl (B1.eK k1) false (b_var B1 q_law_sequence_4) (o_some (s_bin (z_mul false) (s_c pe_int fun _ _ => .int _) (b_var B1 q_law_sequence_5))) o_none) a_nil rfl) rfl rfl))))
theorem fnz_law_sequence {fa : Addr} {fd : FuncData} (hK : C.K = K) (m : Md w K mg) (hsy : ∃ o, base.get? sysModules = some o) (F : FunD K "_law_sequence" "_law_sequence" (defArgs s_law_sequence) (defBody s_law_sequence) sc_law_sequence [] [] fa fd) : FnG P w K mg base CX0 2 fa fd ["_law_digits", "_law_many"] (SpZ C 2 (runD N_law_sequence.length E_law_sequence)) :=
  def_z (b := E_law_sequence) F S_law_sequence rfl (fun cdv A outer s H E hid hr hg => by
    have c_law_step := cal_law_step (P := P) (w := w) (K := K) (mg := mg) (base := base) (C := C.with hid) hK m hsy
    exact body_law_sequence (C := C.with hid) hK m hsy c_law_step ⟨rfl, rfl, rfl, rfl, rfl, rfl, rfl, rfl, S_law_sequence.nd, rfl, hr, hg, rfl⟩ (passes_of rfl))
theorem cal_law_sequence (hK : C.K = K) (m : Md w K mg) (hsy : ∃ o, base.get? sysModules = some o) : CalG P w K mg base C "_law_sequence" 2 2 D_law_sequence [] := by
  obtain ⟨fa, fd, F, gm⟩ := m.f_law_sequence
  rw [e_law_sequence] at F
  have hz : FnG P w K mg base CX0 2 fa fd ["_law_digits", "_law_many"] (SpZ C 2 (runD N_law_sequence.length E_law_sequence)) := fnz_law_sequence hK m hsy F
  exact ⟨fa, fd, ["_law_digits", "_law_many"], [], [], hz, gm, F.kp, F.bindsN (fun _ _ _ _ _ _ us hl => match us, hl with | [_, _], _ => rfl), .nil, fun _ _ _ => .nil⟩
theorem body_law_nest {X : Cx} {W : WX} (hK : C.K = K) (m : Md w K mg) (hsy : ∃ o, base.get? sysModules = some o) (B : Bd P w K mg base J_law_nest 0 X) (hp : PassesOwn (model X.prog X.w) X.A X.env X.xe) : PSs X (defBody s_law_nest) (TSz C W E_law_nest) :=
  s_cons (b_asg B q_law_nest_0 (s_lst true a_nil) rfl) (s_cons (b_for (ws := [3]) B [3, 4, 5, 6, 7] hp (i_range1 (B.gl q_law_nest_3) (B.nx m.b_range) (a_cons (s_bin z_mod (s_ix (B.eK hK) B.u1 (b_var B q_law_nest_1) (s_c pe_int fun _ _ => .int _) (fun _ _ => rfl)) (s_bin (z_add (B.eK hK) false) (b_var B q_law_nest_2) (s_c pe_int fun _ _ => .int _))) a_nil rfl) rfl) (b_name B q_law_nest_4 rfl) (s_cons (b_asg B q_law_nest_5 (s_dct0 true) rfl) (s_cons (b_for (ws := [5, 6]) B [5, 6, 7] hp (i_enum (B.eK hK) (B.gl q_law_nest_6) (B.nx m.b_enumerate) (a_cons (s_lst false (a_cons (s_c pe_str fun _ _ => .str _) (a_cons (s_c pe_str fun _ _ => .str _) (a_cons (s_c pe_str fun _ _ => .str _) a_nil rfl) rfl) rfl)) a_nil rfl) rfl) (g_tup (B.eK hK) B.calm (gs_cons (b_name B q_law_nest_8 rfl) (gs_cons (b_name B q_law_nest_7 rfl) gs_nil rfl) rfl) rfl (gsCons_len (gsCons_len gsNil_len))) (s_cons (b_asg B q_law_nest_11 (s_ix (B.eK hK) B.u1 (s_lst false (a_cons (s_c pe_non fun _ _ => .non) (a_cons (s_c pe_non fun _ _ => .non) (a_cons (s_c pe_str fun _ _ => .str _) (a_cons (s_c pe_str fun _ _ => .str _) (a_cons (s_c pe_str fun _ _ => .str _) a_nil rfl) rfl) rfl) rfl) rfl)) (s_bin z_mod (s_ix (B.eK hK) B.u1 (b_var B q_law_nest_1) (s_bin (z_add (B.eK hK) false) (s_bin (z_add (B.eK hK) false) (s_c pe_int fun _ _ => .int _) (s_bin (z_mul false) (s_c pe_int fun _ _ => .int _) (b_var B q_law_nest_9))) (b_var B q_law_nest_10)) (fun _ _ => rfl)) (s_c pe_int fun _ _ => .int _)) (fun _ _ => rfl)) rfl) (s_one (s_if (t_cmp b_isN z_isN (b_var B q_law_nest_12) (s_c pe_non fun _ _ => .non) rfl) (s_one (s_put B.u1 (b_var B q_law_nest_13) (b_var B q_law_nest_14) (b_var B q_law_nest_12) rfl)) s_nil)))) (ss_frzV 4 (s_one (s_expr (s_meth PySem.F.plainAttrs_list PySem.F.slot_list_append PySem.F.type_list_append mz_append (b_var B q_law_nest_15) (a_cons (b_var B q_law_nest_13) a_nil rfl)) rfl)))))) (s_one (s_ret (s_frz (b_var B q_law_nest_15)))))
theorem fnz_law_nest {fa : Addr} {fd : FuncData} (hK : C.K = K) (m : Md w K mg) (hsy : ∃ o, base.get? sysModules = some o) (F : FunD K "_law_nest" "_law_nest" (defArgs s_law_nest) (defBody s_law_nest) sc_law_nest [] [] fa fd) : FnG P w K mg base CX0 1 fa fd ["_law_digits", "_law_deep"] (SpZ C 2 (runD N_law_nest.length E_law_nest)) :=
  def_z (b := E_law_nest) F S_law_nest rfl (fun cdv A outer s H E hid hr hg => by
    exact body_law_nest (C := C.with hid) hK m hsy ⟨rfl, rfl, rfl, rfl, rfl, rfl, rfl, rfl, S_law_nest.nd, rfl, hr, hg, rfl⟩ (passes_of rfl))
theorem cal_law_nest (hK : C.K = K) (m : Md w K mg) (hsy : ∃ o, base.get? sysModules = some o) : CalG P w K mg base C "_law_nest" 1 2 D_law_nest [] := by
  obtain ⟨fa, fd, F, gm⟩ := m.f_law_nest
  rw [e_law_nest] at F
  have hz : FnG P w K mg base CX0 1 fa fd ["_law_digits", "_law_deep"] (SpZ C 2 (runD N_law_nest.length E_law_nest)) := fnz_law_nest hK m hsy F
  exact ⟨fa, fd, ["_law_digits", "_law_deep"], [], [], hz, gm, F.kp, F.bindsN (fun _ _ _ _ _ _ us hl => match us, hl with | [_, _], _ => rfl), .nil, fun _ _ _ => .nil⟩
theorem body_law_visible {X : Cx} {W : WX} (hK : C.K = K) (m : Md w K mg) (hsy : ∃ o, base.get? sysModules = some o) (B : Bd P w K mg base J_law_visible 0 X) (hp : PassesOwn (model X.prog X.w) X.A X.env X.xe) : PSs X (defBody s_law_visible) (TSz C W E_law_visible) :=
  s_cons (b_setLc B hK false (b := sc_law_visible_1) (own := [("_law_scope", 4)]) q_law_visible_6 q_law_visible_7 rfl q_law_visible_2 (i_val (B.eK hK) (s_sl (B.eK hK) false (b_var B q_law_visible_0) (o_some (b_var B q_law_visible_1)) o_none)) (fun X1 B1 h1 => have k1 : (C.with h1).K = K := hK; (b_name B1 q_law_visible_3 rfl)) (fun X1 B1 h1 => have k1 : (C.with h1).K = K := hK; (ts_one (t_cmp b_in (z_in (B1.eK k1) B1.u64) (b_var B1 q_law_visible_4) (b_var B1 q_law_visible_5) rfl))) (fun X1 B1 h1 => have k1 : (C.with h1).K = K := hK; (s_ix (B1.eK k1) B1.u1 (b_var B1 q_law_visible_5) (b_var B1 q_law_visible_4) (fun _ _ => rfl)))) (s_one (s_ret (s_ite (t_cmp b_ne (z_ne (B.eK hK) B.u64) (b_var B q_law_visible_8) (s_lst false a_nil) rfl) (s_ix (B.eK hK) B.u1 (b_var B q_law_visible_8) (s_c pe_int fun _ _ => .int _) (fun _ _ => rfl)) (s_c pe_non fun _ _ => .non))))
theorem fnz_law_visible {fa : Addr} {fd : FuncData} (hK : C.K = K) (m : Md w K mg) (hsy : ∃ o, base.get? sysModules = some o) (F : FunD K "_law_visible" "_law_visible" (defArgs s_law_visible) (defBody s_law_visible) sc_law_visible [] [] fa fd) : FnG P w K mg base CX0 1 fa fd ["_law_nest_here", "_law_level", "_law_name"] (SpZ C 3 (runD N_law_visible.length E_law_visible)) :=
  def_z (b := E_law_visible) F S_law_visible rfl (fun cdv A outer s H E hid hr hg => by
    exact body_law_visible (C := C.with hid) hK m hsy ⟨rfl, rfl, rfl, rfl, rfl, rfl, rfl, rfl, S_law_visible.nd, rfl, hr, hg, rfl⟩ (passes_of rfl))
theorem cal_law_visible (hK : C.K = K) (m : Md w K mg) (hsy : ∃ o, base.get? sysModules = some o) : CalG P w K mg base C "_law_visible" 1 3 D_law_visible [] := by
  obtain ⟨fa, fd, F, gm⟩ := m.f_law_visible
  rw [e_law_visible] at F
  have hz : FnG P w K mg base CX0 1 fa fd ["_law_nest_here", "_law_level", "_law_name"] (SpZ C 3 (runD N_law_visible.length E_law_visible)) := fnz_law_visible hK m hsy F
  exact ⟨fa, fd, ["_law_nest_here", "_law_level", "_law_name"], [], [], hz, gm, F.kp, F.bindsN (fun _ _ _ _ _ _ us hl => match us, hl with | [_, _, _], _ => rfl), .nil, fun _ _ _ => .nil⟩
theorem body_law_after {X : Cx} {W : WX} (hK : C.K = K) (m : Md w K mg) (hsy : ∃ o, base.get? sysModules = some o) (c_law_visible : CalG P w K mg base C "_law_visible" 1 3 D_law_visible []) (B : Bd P w K mg base J_law_after 1 X) (hp : PassesOwn (model X.prog X.w) X.A X.env X.xe) : PSs X (defBody s_law_after) (TSz C W E_law_after) :=
  s_cons (b_asg B q_law_after_2 (s_ite (t_cmp b_eq (z_eq (B.eK hK) B.u64) (b_callB B (c_len (B.eK hK)) q_law_after_1 m.b_len rfl (a_cons (b_var B q_law_after_0) a_nil rfl) rfl rfl) (s_c pe_int fun _ _ => .int _) rfl) (s_ix (B.eK hK) B.u1 (b_var B q_law_after_0) (s_c pe_int fun _ _ => .int _) (fun _ _ => rfl)) (s_c pe_non fun _ _ => .non)) rfl) (s_cons (s_if (t_cmp b_eqX (z_eqX (B.eK hK) B.u64) (s_ix (B.eK hK) B.u1 (b_var B q_law_after_0) (s_c pe_int fun _ _ => .int _) (fun _ _ => rfl)) (s_c pe_str fun _ _ => .str _) rfl) (s_one (s_ret (s_bin (z_add (B.eK hK) false) (s_lst false (a_cons (s_dct0 false) a_nil rfl)) (b_var B q_law_after_3)))) s_nil) (s_cons (s_if (t_cmp b_in (z_in (B.eK hK) B.u64) (s_ix (B.eK hK) B.u1 (b_var B q_law_after_0) (s_c pe_int fun _ _ => .int _) (fun _ _ => rfl)) (s_lst false (a_cons (s_c pe_str fun _ _ => .str _) (a_cons (s_c pe_str fun _ _ => .str _) a_nil rfl) rfl)) rfl) (s_one (s_ret (s_ite (t_cmp b_eq (z_eq (B.eK hK) B.u64) (b_callP (C := C) B c_law_visible rfl q_law_after_4 (a_cons (b_var B q_law_after_3) (a_cons (s_c pe_int fun _ _ => .int _) (a_cons (s_ix (B.eK hK) B.u1 (b_var B q_law_after_0) (s_c pe_int fun _ _ => .int _) (fun _ _ => rfl)) a_nil rfl) rfl) rfl) rfl rfl) (b_var B q_law_after_5) rfl) (b_var B q_law_after_3) (s_c pe_non fun _ _ => .non)))) s_nil) (s_cons (s_if (t_cmp b_eq (z_eq (B.eK hK) B.u64) (b_var B q_law_after_3) (s_lst false a_nil) rfl) (s_one (s_ret (s_c pe_non fun _ _ => .non))) s_nil) (s_cons (s_if (t_cmp b_eqX (z_eqX (B.eK hK) B.u64) (s_ix (B.eK hK) B.u1 (b_var B q_law_after_0) (s_c pe_int fun _ _ => .int _) (fun _ _ => rfl)) (s_c pe_str fun _ _ => .str _) rfl) (s_one (s_ret (s_sl (B.eK hK) false (b_var B q_law_after_3) (o_some (s_c pe_int fun _ _ => .int _)) o_none))) s_nil) (s_cons (s_if (t_cmp b_in (z_in (B.eK hK) B.u64) (s_ix (B.eK hK) B.u1 (b_var B q_law_after_0) (s_c pe_int fun _ _ => .int _) (fun _ _ => rfl)) (s_lst false (a_cons (s_c pe_str fun _ _ => .str _) (a_cons (s_c pe_str fun _ _ => .str _) a_nil rfl) rfl)) rfl) (s_one (s_ret (s_ite (t_cmp b_eq (z_eq (B.eK hK) B.u64) (s_meth PySem.F.plainAttrs_dict PySem.F.slot_dict_get PySem.F.type_dict_get (mz_dget B.u1) (s_ix (B.eK hK) B.u1 (b_var B q_law_after_3) (s_c pe_int fun _ _ => .int _) (fun _ _ => rfl)) (a_cons (s_ix (B.eK hK) B.u1 (b_var B q_law_after_0) (s_c pe_int fun _ _ => .int _) (fun _ _ => rfl)) a_nil rfl)) (b_var B q_law_after_5) rfl) (b_var B q_law_after_3) (s_c pe_non fun _ _ => .non)))) s_nil) (s_cons (b_setLc B hK false (b := sc_law_after_1) (own := [("_law_name", 4)]) q_law_after_12 q_law_after_13 rfl q_law_after_7 (i_val (B.eK hK) (b_callB B (c_sorted false B.calm) q_law_after_6 m.b_sorted rfl (a_cons (s_ix (B.eK hK) B.u1 (b_var B q_law_after_3) (s_c pe_int fun _ _ => .int _) (fun _ _ => rfl)) a_nil rfl) rfl rfl)) (fun X1 B1 h1 => have k1 : (C.with h1).K = K := hK; (b_name B1 q_law_after_8 rfl)) (fun X1 B1 h1 => have k1 : (C.with h1).K = K := hK; (ts_one (t_cmp b_ne (z_ne (B1.eK k1) B1.u64) (b_var B1 q_law_after_9) (s_ix (B1.eK k1) B1.u1 (b_var B1 q_law_after_10) (s_c pe_int fun _ _ => .int _) (fun _ _ => rfl)) rfl))) (fun X1 B1 h1 => have k1 : (C.with h1).K = K := hK; (s_tup (a_cons (b_var B1 q_law_after_9) (a_cons (s_ix (B1.eK k1) B1.u1 (s_ix (B1.eK k1) B1.u1 (b_var B1 q_law_after_11) (s_c pe_int fun _ _ => .int _) (fun _ _ => rfl)) (b_var B1 q_law_after_9) (fun _ _ => rfl)) a_nil rfl) rfl)))) (s_one (s_ret (s_bin (z_add (B.eK hK) false) (s_lst false (a_cons (b_callTy B (c_dict false (B.eK hK) B.calm) q_law_after_16 m.b_dict rfl (a_cons (s_bin (z_add (B.eK hK) false) (b_var B q_law_after_14) (s_bin (z_mul false) (s_lst false (a_cons (s_tup (a_cons (s_ix (B.eK hK) B.u1 (b_var B q_law_after_0) (s_c pe_int fun _ _ => .int _) (fun _ _ => rfl)) (a_cons (b_var B q_law_after_5) a_nil rfl) rfl)) a_nil rfl)) (b_callTy B c_int q_law_after_15 m.b_int rfl (a_cons (s_cmp z_isN (b_var B q_law_after_5) (s_c pe_non fun _ _ => .non) rfl) a_nil rfl) rfl rfl))) a_nil rfl) rfl rfl) a_nil rfl)) (s_sl (B.eK hK) false (b_var B q_law_after_3) (o_some (s_c pe_int fun _ _ => .int _)) o_none))))))))))
theorem fnz_law_after {fa : Addr} {fd : FuncData} (hK : C.K = K) (m : Md w K mg) (hsy : ∃ o, base.get? sysModules = some o) (F : FunD K "_law_after" "_law_after" (defArgs s_law_after) (defBody s_law_after) sc_law_after [] [] fa fd) : FnG P w K mg base CX0 2 fa fd ["_law_nest_here", "_law_step_here"] (SpZ C 2 (runD N_law_after.length E_law_after)) :=
  def_z (b := E_law_after) F S_law_after rfl (fun cdv A outer s H E hid hr hg => by
    have c_law_visible := cal_law_visible (P := P) (w := w) (K := K) (mg := mg) (base := base) (C := C.with hid) hK m hsy
    exact body_law_after (C := C.with hid) hK m hsy c_law_visible ⟨rfl, rfl, rfl, rfl, rfl, rfl, rfl, rfl, S_law_after.nd, rfl, hr, hg, rfl⟩ (passes_of rfl))
theorem cal_law_after (hK : C.K = K) (m : Md w K mg) (hsy : ∃ o, base.get? sysModules = some o) : CalG P w K mg base C "_law_after" 2 2 D_law_after [] := by
  obtain ⟨fa, fd, F, gm⟩ := m.f_law_after
  rw [e_law_after] at F
  have hz : FnG P w K mg base CX0 2 fa fd ["_law_nest_here", "_law_step_here"] (SpZ C 2 (runD N_law_after.length E_law_after)) := fnz_law_after hK m hsy F
  exact ⟨fa, fd, ["_law_nest_here", "_law_step_here"], [], [], hz, gm, F.kp, F.bindsN (fun _ _ _ _ _ _ us hl => match us, hl with | [_, _], _ => rfl), .nil, fun _ _ _ => .nil⟩
theorem body_law_run {X : Cx} {W : WX} (hK : C.K = K) (m : Md w K mg) (hsy : ∃ o, base.get? sysModules = some o) (c_law_after : CalG P w K mg base C "_law_after" 2 2 D_law_after []) (B : Bd P w K mg base J_law_run 2 X) (hp : PassesOwn (model X.prog X.w) X.A X.env X.xe) : PSs X (defBody s_law_run) (TSz C W E_law_run) :=
  s_cons (b_asg B q_law_run_1 (b_var B q_law_run_0) rfl) (s_cons (b_for (ws := [3, 4]) B [3, 4] hp (i_enum (B.eK hK) (B.gl q_law_run_3) (B.nx m.b_enumerate) (a_cons (b_var B q_law_run_2) a_nil rfl) rfl) (g_tup (B.eK hK) B.calm (gs_cons (b_name B q_law_run_5 rfl) (gs_cons (b_name B q_law_run_4 rfl) gs_nil rfl) rfl) rfl (gsCons_len (gsCons_len gsNil_len))) (s_cons (b_asg B q_law_run_1 (b_callP (C := C) B c_law_after rfl q_law_run_8 (a_cons (b_var B q_law_run_6) (a_cons (b_var B q_law_run_7) a_nil rfl) rfl) rfl rfl) rfl) (s_one (s_if (t_cmp b_is z_is (b_var B q_law_run_6) (s_c pe_non fun _ _ => .non) rfl) (s_one (s_ret (s_lst false (a_cons (s_c pe_str fun _ _ => .str _) (a_cons (b_var B q_law_run_9) a_nil rfl) rfl)))) s_nil)))) (s_one (s_ret (b_var B q_law_run_6))))
theorem fnz_law_run {fa : Addr} {fd : FuncData} (hK : C.K = K) (m : Md w K mg) (hsy : ∃ o, base.get? sysModules = some o) (F : FunD K "_law_run" "_law_run" (defArgs s_law_run) (defBody s_law_run) sc_law_run [] [] fa fd) : FnG P w K mg base CX0 3 fa fd ["_law_nest_here", "_law_steps"] (SpZ C 2 (runD N_law_run.length E_law_run)) :=
  def_z (b := E_law_run) F S_law_run rfl (fun cdv A outer s H E hid hr hg => by
    have c_law_after := cal_law_after (P := P) (w := w) (K := K) (mg := mg) (base := base) (C := C.with hid) hK m hsy
    exact body_law_run (C := C.with hid) hK m hsy c_law_after ⟨rfl, rfl, rfl, rfl, rfl, rfl, rfl, rfl, S_law_run.nd, rfl, hr, hg, rfl⟩ (passes_of rfl))
theorem cal_law_run (hK : C.K = K) (m : Md w K mg) (hsy : ∃ o, base.get? sysModules = some o) : CalG P w K mg base C "_law_run" 3 2 D_law_run [] := by
  obtain ⟨fa, fd, F, gm⟩ := m.f_law_run
  rw [e_law_run] at F
  have hz : FnG P w K mg base CX0 3 fa fd ["_law_nest_here", "_law_steps"] (SpZ C 2 (runD N_law_run.length E_law_run)) := fnz_law_run hK m hsy F
  exact ⟨fa, fd, ["_law_nest_here", "_law_steps"], [], [], hz, gm, F.kp, F.bindsN (fun _ _ _ _ _ _ us hl => match us, hl with | [_, _], _ => rfl), .nil, fun _ _ _ => .nil⟩
theorem body_law_result {X : Cx} {W : WX} (hK : C.K = K) (m : Md w K mg) (hsy : ∃ o, base.get? sysModules = some o) (c_law_run : CalG P w K mg base C "_law_run" 3 2 D_law_run []) (B : Bd P w K mg base J_law_result 3 X) (hp : PassesOwn (model X.prog X.w) X.A X.env X.xe) : PSs X (defBody s_law_result) (TSz C W E_law_result) :=
  s_cons (b_asg B q_law_result_3 (b_callP (C := C) B c_law_run rfl q_law_result_2 (a_cons (b_var B q_law_result_0) (a_cons (b_var B q_law_result_1) a_nil rfl) rfl) rfl rfl) rfl) (s_one (s_ret (s_ite (PW.pt (t_and (t_cmp b_eq (z_eq (B.eK hK) B.u64) (b_callB B (c_len (B.eK hK)) q_law_result_5 m.b_len rfl (a_cons (b_var B q_law_result_4) a_nil rfl) rfl rfl) (s_c pe_int fun _ _ => .int _) rfl) (pw_and1 (t_cmp b_eqX (z_eqX (B.eK hK) B.u64) (s_ix (B.eK hK) B.u1 (b_var B q_law_result_4) (s_c pe_int fun _ _ => .int _) (fun _ _ => rfl)) (s_c pe_str fun _ _ => .str _) rfl)))) (s_c pe_non fun _ _ => .non) (b_var B q_law_result_4))))
theorem fnz_law_result {fa : Addr} {fd : FuncData} (hK : C.K = K) (m : Md w K mg) (hsy : ∃ o, base.get? sysModules = some o) (F : FunD K "_law_result" "_law_result" (defArgs s_law_result) (defBody s_law_result) sc_law_result [] [] fa fd) : FnG P w K mg base CX0 4 fa fd ["_law_nest_here", "_law_steps"] (SpZ C 2 (runD N_law_result.length E_law_result)) :=
  def_z (b := E_law_result) F S_law_result rfl (fun cdv A outer s H E hid hr hg => by
    have c_law_run := cal_law_run (P := P) (w := w) (K := K) (mg := mg) (base := base) (C := C.with hid) hK m hsy
    exact body_law_result (C := C.with hid) hK m hsy c_law_run ⟨rfl, rfl, rfl, rfl, rfl, rfl, rfl, rfl, S_law_result.nd, rfl, hr, hg, rfl⟩ (passes_of rfl))
theorem cal_law_result (hK : C.K = K) (m : Md w K mg) (hsy : ∃ o, base.get? sysModules = some o) : CalG P w K mg base C "_law_result" 4 2 D_law_result [] := by
  obtain ⟨fa, fd, F, gm⟩ := m.f_law_result
  rw [e_law_result] at F
  have hz : FnG P w K mg base CX0 4 fa fd ["_law_nest_here", "_law_steps"] (SpZ C 2 (runD N_law_result.length E_law_result)) := fnz_law_result hK m hsy F
  exact ⟨fa, fd, ["_law_nest_here", "_law_steps"], [], [], hz, gm, F.kp, F.bindsN (fun _ _ _ _ _ _ us hl => match us, hl with | [_, _], _ => rfl), .nil, fun _ _ _ => .nil⟩
theorem body_is_text_of {X : Cx} {W : WX} (hK : C.K = K) (m : Md w K mg) (hsy : ∃ o, base.get? sysModules = some o) (B : Bd P w K mg base J_is_text_of 0 X) (hp : PassesOwn (model X.prog X.w) X.A X.env X.xe) : PSs X (defBody s_is_text_of) (TSz C W E_is_text_of) :=
  s_one (s_ret (s_and (b_callB B (c_isi (B.eK hK)) q_is_text_of_2 m.b_isinstance rfl (a_cons (b_var B q_is_text_of_0) (a_cons (b_ty B q_is_text_of_1 m.b_str rfl) a_nil rfl) rfl) rfl rfl) (s_and (s_chn b_le z_le z_le (s_c pe_int fun _ _ => .int _) (b_callB B (c_len (B.eK hK)) q_is_text_of_3 m.b_len rfl (a_cons (b_var B q_is_text_of_0) a_nil rfl) rfl rfl) (b_gc B q_is_text_of_4 m.k_MAX_LENGTH fun _ _ => .int _) rfl) (pe_one (b_callB B (c_all B.calm) q_is_text_of_9 m.b_all rfl (a_cons (b_lc B hK false (b := sc_is_text_of_1) (own := [("sign", 2)]) q_is_text_of_5 (i_val (B.eK hK) (b_var B q_is_text_of_0)) (fun X1 B1 h1 => have k1 : (C.with h1).K = K := hK; (b_name B1 q_is_text_of_6 rfl)) (fun X1 B1 h1 => have k1 : (C.with h1).K = K := hK; ts_none) (fun X1 B1 h1 => have k1 : (C.with h1).K = K := hK; (s_cmp (z_in (B1.eK k1) B1.u64) (b_var B1 q_is_text_of_7) (b_var B1 q_is_text_of_8) rfl))) a_nil rfl) rfl rfl)))))
theorem fnz_is_text_of {fa : Addr} {fd : FuncData} (hK : C.K = K) (m : Md w K mg) (hsy : ∃ o, base.get? sysModules = some o) (F : FunD K "is_text_of" "is_text_of" (defArgs s_is_text_of) (defBody s_is_text_of) sc_is_text_of [] [] fa fd) : FnG P w K mg base CX0 1 fa fd ["value", "signs"] (SpZ C 2 (runD N_is_text_of.length E_is_text_of)) :=
  def_z (b := E_is_text_of) F S_is_text_of rfl (fun cdv A outer s H E hid hr hg => by
    exact body_is_text_of (C := C.with hid) hK m hsy ⟨rfl, rfl, rfl, rfl, rfl, rfl, rfl, rfl, S_is_text_of.nd, rfl, hr, hg, rfl⟩ (passes_of rfl))
theorem cal_is_text_of (hK : C.K = K) (m : Md w K mg) (hsy : ∃ o, base.get? sysModules = some o) : CalG P w K mg base C "is_text_of" 1 2 D_is_text_of [] := by
  obtain ⟨fa, fd, F, gm⟩ := m.f_is_text_of
  rw [e_is_text_of] at F
  have hz : FnG P w K mg base CX0 1 fa fd ["value", "signs"] (SpZ C 2 (runD N_is_text_of.length E_is_text_of)) := fnz_is_text_of hK m hsy F
  exact ⟨fa, fd, ["value", "signs"], [], [], hz, gm, F.kp, F.bindsN (fun _ _ _ _ _ _ us hl => match us, hl with | [_, _], _ => rfl), .nil, fun _ _ _ => .nil⟩
theorem body_is_name {X : Cx} {W : WX} (hK : C.K = K) (m : Md w K mg) (hsy : ∃ o, base.get? sysModules = some o) (c_is_text_of : CalG P w K mg base C "is_text_of" 1 2 D_is_text_of []) (B : Bd P w K mg base J_is_name 1 X) (hp : PassesOwn (model X.prog X.w) X.A X.env X.xe) : PSs X (defBody s_is_name) (TSz C W E_is_name) :=
  s_one (s_ret (b_callP (C := C) B c_is_text_of rfl q_is_name_2 (a_cons (b_var B q_is_name_0) (a_cons (b_gc B q_is_name_1 m.k_LETTERS fun _ _ => .str _) a_nil rfl) rfl) rfl rfl))
theorem fnz_is_name {fa : Addr} {fd : FuncData} (hK : C.K = K) (m : Md w K mg) (hsy : ∃ o, base.get? sysModules = some o) (F : FunD K "is_name" "is_name" (defArgs s_is_name) (defBody s_is_name) sc_is_name [] [] fa fd) : FnG P w K mg base CX0 2 fa fd ["value"] (SpZ C 1 (runD N_is_name.length E_is_name)) :=
  def_z (b := E_is_name) F S_is_name rfl (fun cdv A outer s H E hid hr hg => by
    have c_is_text_of := cal_is_text_of (P := P) (w := w) (K := K) (mg := mg) (base := base) (C := C.with hid) hK m hsy
    exact body_is_name (C := C.with hid) hK m hsy c_is_text_of ⟨rfl, rfl, rfl, rfl, rfl, rfl, rfl, rfl, S_is_name.nd, rfl, hr, hg, rfl⟩ (passes_of rfl))
theorem cal_is_name (hK : C.K = K) (m : Md w K mg) (hsy : ∃ o, base.get? sysModules = some o) : CalG P w K mg base C "is_name" 2 1 D_is_name [] := by
  obtain ⟨fa, fd, F, gm⟩ := m.f_is_name
  rw [e_is_name] at F
  have hz : FnG P w K mg base CX0 2 fa fd ["value"] (SpZ C 1 (runD N_is_name.length E_is_name)) := fnz_is_name hK m hsy F
  exact ⟨fa, fd, ["value"], [], [], hz, gm, F.kp, F.bindsN (fun _ _ _ _ _ _ us hl => match us, hl with | [_], _ => rfl), .nil, fun _ _ _ => .nil⟩
theorem body_is_value {X : Cx} {W : WX} (hK : C.K = K) (m : Md w K mg) (hsy : ∃ o, base.get? sysModules = some o) (c_is_text_of : CalG P w K mg base C "is_text_of" 1 2 D_is_text_of []) (B : Bd P w K mg base J_is_value 1 X) (hp : PassesOwn (model X.prog X.w) X.A X.env X.xe) : PSs X (defBody s_is_value) (TSz C W E_is_value) :=
  s_one (s_ret (b_callP (C := C) B c_is_text_of rfl q_is_value_3 (a_cons (b_var B q_is_value_0) (a_cons (s_bin (z_add (B.eK hK) false) (b_gc B q_is_value_1 m.k_LETTERS fun _ _ => .str _) (b_gc B q_is_value_2 m.k_DIGITS fun _ _ => .str _)) a_nil rfl) rfl) rfl rfl))
theorem fnz_is_value {fa : Addr} {fd : FuncData} (hK : C.K = K) (m : Md w K mg) (hsy : ∃ o, base.get? sysModules = some o) (F : FunD K "is_value" "is_value" (defArgs s_is_value) (defBody s_is_value) sc_is_value [] [] fa fd) : FnG P w K mg base CX0 2 fa fd ["value"] (SpZ C 1 (runD N_is_value.length E_is_value)) :=
  def_z (b := E_is_value) F S_is_value rfl (fun cdv A outer s H E hid hr hg => by
    have c_is_text_of := cal_is_text_of (P := P) (w := w) (K := K) (mg := mg) (base := base) (C := C.with hid) hK m hsy
    exact body_is_value (C := C.with hid) hK m hsy c_is_text_of ⟨rfl, rfl, rfl, rfl, rfl, rfl, rfl, rfl, S_is_value.nd, rfl, hr, hg, rfl⟩ (passes_of rfl))
theorem cal_is_value (hK : C.K = K) (m : Md w K mg) (hsy : ∃ o, base.get? sysModules = some o) : CalG P w K mg base C "is_value" 2 1 D_is_value [] := by
  obtain ⟨fa, fd, F, gm⟩ := m.f_is_value
  rw [e_is_value] at F
  have hz : FnG P w K mg base CX0 2 fa fd ["value"] (SpZ C 1 (runD N_is_value.length E_is_value)) := fnz_is_value hK m hsy F
  exact ⟨fa, fd, ["value"], [], [], hz, gm, F.kp, F.bindsN (fun _ _ _ _ _ _ us hl => match us, hl with | [_], _ => rfl), .nil, fun _ _ _ => .nil⟩
theorem body_is_part {X : Cx} {W : WX} (hK : C.K = K) (m : Md w K mg) (hsy : ∃ o, base.get? sysModules = some o) (c_is_name : CalG P w K mg base C "is_name" 2 1 D_is_name []) (c_is_value : CalG P w K mg base C "is_value" 2 1 D_is_value []) (B : Bd P w K mg base J_is_part 2 X) (hp : PassesOwn (model X.prog X.w) X.A X.env X.xe) : PSs X (defBody s_is_part) (TSz C W E_is_part) :=
  s_one (s_ret (s_ite (t_cmp b_eq (z_eq (B.eK hK) B.u64) (b_var B q_is_part_0) (s_c pe_str fun _ _ => .str _) rfl) (b_callP (C := C) B c_is_name rfl q_is_part_2 (a_cons (b_var B q_is_part_1) a_nil rfl) rfl rfl) (b_callP (C := C) B c_is_value rfl q_is_part_3 (a_cons (b_var B q_is_part_1) a_nil rfl) rfl rfl)))
theorem fnz_is_part {fa : Addr} {fd : FuncData} (hK : C.K = K) (m : Md w K mg) (hsy : ∃ o, base.get? sysModules = some o) (F : FunD K "is_part" "is_part" (defArgs s_is_part) (defBody s_is_part) sc_is_part [] [] fa fd) : FnG P w K mg base CX0 3 fa fd ["kind", "value"] (SpZ C 2 (runD N_is_part.length E_is_part)) :=
  def_z (b := E_is_part) F S_is_part rfl (fun cdv A outer s H E hid hr hg => by
    have c_is_name := cal_is_name (P := P) (w := w) (K := K) (mg := mg) (base := base) (C := C.with hid) hK m hsy
    have c_is_value := cal_is_value (P := P) (w := w) (K := K) (mg := mg) (base := base) (C := C.with hid) hK m hsy
    exact body_is_part (C := C.with hid) hK m hsy c_is_name c_is_value ⟨rfl, rfl, rfl, rfl, rfl, rfl, rfl, rfl, S_is_part.nd, rfl, hr, hg, rfl⟩ (passes_of rfl))
theorem cal_is_part (hK : C.K = K) (m : Md w K mg) (hsy : ∃ o, base.get? sysModules = some o) : CalG P w K mg base C "is_part" 3 2 D_is_part [] := by
  obtain ⟨fa, fd, F, gm⟩ := m.f_is_part
  rw [e_is_part] at F
  have hz : FnG P w K mg base CX0 3 fa fd ["kind", "value"] (SpZ C 2 (runD N_is_part.length E_is_part)) := fnz_is_part hK m hsy F
  exact ⟨fa, fd, ["kind", "value"], [], [], hz, gm, F.kp, F.bindsN (fun _ _ _ _ _ _ us hl => match us, hl with | [_, _], _ => rfl), .nil, fun _ _ _ => .nil⟩
theorem body_is_step {X : Cx} {W : WX} (hK : C.K = K) (m : Md w K mg) (hsy : ∃ o, base.get? sysModules = some o) (c_is_part : CalG P w K mg base C "is_part" 3 2 D_is_part []) (B : Bd P w K mg base J_is_step 3 X) (hp : PassesOwn (model X.prog X.w) X.A X.env X.xe) : PSs X (defBody s_is_step) (TSz C W E_is_step) :=
  s_cons (s_if (PW.pt (t_or (t_not (t_tst (B.eK hK) (b_callB B (c_isi (B.eK hK)) q_is_step_2 m.b_isinstance rfl (a_cons (b_var B q_is_step_0) (a_cons (b_ty B q_is_step_1 m.b_tuple rfl) a_nil rfl) rfl) rfl rfl) (fun _ => rfl))) (t_or (t_cmp b_eq (z_eq (B.eK hK) B.u64) (b_var B q_is_step_0) (s_tup a_nil) rfl) (pw_or1 (t_not (t_tst (B.eK hK) (b_callB B (c_isi (B.eK hK)) q_is_step_2 m.b_isinstance rfl (a_cons (s_ix (B.eK hK) B.u1 (b_var B q_is_step_0) (s_c pe_int fun _ _ => .int _) (fun _ _ => rfl)) (a_cons (b_ty B q_is_step_3 m.b_str rfl) a_nil rfl) rfl) rfl rfl) (fun _ => rfl))))))) (s_one (s_ret (s_c pe_bl fun _ _ => .bl _))) s_nil) (s_cons (b_asg B q_is_step_5 (b_kget B m.t_SHAPES m.g_SHAPES q_is_step_4 (s_ix (B.eK hK) B.u1 (b_var B q_is_step_0) (s_c pe_int fun _ _ => .int _) (fun _ _ => rfl)) ⟨rfl, rfl, rfl, rfl⟩) rfl) (s_cons (s_if (PW.pt (t_or (t_cmp b_is z_is (b_var B q_is_step_6) (s_c pe_non fun _ _ => .non) rfl) (pw_or1 (t_cmp b_ne (z_ne (B.eK hK) B.u64) (b_callB B (c_len (B.eK hK)) q_is_step_7 m.b_len rfl (a_cons (b_var B q_is_step_0) a_nil rfl) rfl rfl) (s_bin (z_add (B.eK hK) false) (b_callB B (c_len (B.eK hK)) q_is_step_7 m.b_len rfl (a_cons (b_var B q_is_step_6) a_nil rfl) rfl rfl) (s_c pe_int fun _ _ => .int _)) rfl)))) (s_one (s_ret (s_c pe_bl fun _ _ => .bl _))) s_nil) (s_one (s_ret (b_callB B (c_all B.calm) q_is_step_15 m.b_all rfl (a_cons (b_lc B hK false (b := sc_is_step_1) (own := [("kind", 2), ("part", 3)]) q_is_step_9 (i_zipS (B.eK hK) (B.gl q_is_step_8) (B.nx m.b_zip) (a_cons (b_var B q_is_step_6) (a_cons (s_sl (B.eK hK) false (b_var B q_is_step_0) (o_some (s_c pe_int fun _ _ => .int _)) o_none) a_nil rfl) rfl)) (fun X1 B1 h1 => have k1 : (C.with h1).K = K := hK; (g_tup (B1.eK k1) B1.calm (gs_cons (b_name B1 q_is_step_11 rfl) (gs_cons (b_name B1 q_is_step_10 rfl) gs_nil rfl) rfl) rfl (gsCons_len (gsCons_len gsNil_len)))) (fun X1 B1 h1 => have k1 : (C.with h1).K = K := hK; ts_none) (fun X1 B1 h1 => have k1 : (C.with h1).K = K := hK; (b_callP (C := C) B1 c_is_part rfl q_is_step_14 (a_cons (b_var B1 q_is_step_12) (a_cons (b_var B1 q_is_step_13) a_nil rfl) rfl) rfl rfl))) a_nil rfl) rfl rfl)))))
theorem fnz_is_step {fa : Addr} {fd : FuncData} (hK : C.K = K) (m : Md w K mg) (hsy : ∃ o, base.get? sysModules = some o) (F : FunD K "is_step" "is_step" (defArgs s_is_step) (defBody s_is_step) sc_is_step [] [] fa fd) : FnG P w K mg base CX0 4 fa fd ["value"] (SpZ C 1 (runD N_is_step.length E_is_step)) :=
  def_z (b := E_is_step) F S_is_step rfl (fun cdv A outer s H E hid hr hg => by
    have c_is_part := cal_is_part (P := P) (w := w) (K := K) (mg := mg) (base := base) (C := C.with hid) hK m hsy
    exact body_is_step (C := C.with hid) hK m hsy c_is_part ⟨rfl, rfl, rfl, rfl, rfl, rfl, rfl, rfl, S_is_step.nd, rfl, hr, hg, rfl⟩ (passes_of rfl))
theorem cal_is_step (hK : C.K = K) (m : Md w K mg) (hsy : ∃ o, base.get? sysModules = some o) : CalG P w K mg base C "is_step" 4 1 D_is_step [] := by
  obtain ⟨fa, fd, F, gm⟩ := m.f_is_step
  rw [e_is_step] at F
  have hz : FnG P w K mg base CX0 4 fa fd ["value"] (SpZ C 1 (runD N_is_step.length E_is_step)) := fnz_is_step hK m hsy F
  exact ⟨fa, fd, ["value"], [], [], hz, gm, F.kp, F.bindsN (fun _ _ _ _ _ _ us hl => match us, hl with | [_], _ => rfl), .nil, fun _ _ _ => .nil⟩
theorem body_first_invalid {X : Cx} {W : WX} (hK : C.K = K) (m : Md w K mg) (hsy : ∃ o, base.get? sysModules = some o) (c_is_step : CalG P w K mg base C "is_step" 4 1 D_is_step []) (B : Bd P w K mg base J_first_invalid 4 X) (hp : PassesOwn (model X.prog X.w) X.A X.env X.xe) : PSs X (defBody s_first_invalid) (TSz C W E_first_invalid) :=
  s_cons (b_for (ws := [1, 2]) B [1, 2] hp (i_enum (B.eK hK) (B.gl q_first_invalid_1) (B.nx m.b_enumerate) (a_cons (b_var B q_first_invalid_0) a_nil rfl) rfl) (g_tup (B.eK hK) B.calm (gs_cons (b_name B q_first_invalid_3 rfl) (gs_cons (b_name B q_first_invalid_2 rfl) gs_nil rfl) rfl) rfl (gsCons_len (gsCons_len gsNil_len))) (s_one (s_if (t_not (t_tst (B.eK hK) (b_callP (C := C) B c_is_step rfl q_first_invalid_5 (a_cons (b_var B q_first_invalid_4) a_nil rfl) rfl rfl) (fun _ => rfl))) (s_one (s_ret (b_var B q_first_invalid_6))) s_nil))) (s_one (s_ret (s_c pe_non fun _ _ => .non)))
theorem fnz_first_invalid {fa : Addr} {fd : FuncData} (hK : C.K = K) (m : Md w K mg) (hsy : ∃ o, base.get? sysModules = some o) (F : FunD K "first_invalid" "first_invalid" (defArgs s_first_invalid) (defBody s_first_invalid) sc_first_invalid [] [] fa fd) : FnG P w K mg base CX0 5 fa fd ["steps"] (SpZ C 1 (runD N_first_invalid.length E_first_invalid)) :=
  def_z (b := E_first_invalid) F S_first_invalid rfl (fun cdv A outer s H E hid hr hg => by
    have c_is_step := cal_is_step (P := P) (w := w) (K := K) (mg := mg) (base := base) (C := C.with hid) hK m hsy
    exact body_first_invalid (C := C.with hid) hK m hsy c_is_step ⟨rfl, rfl, rfl, rfl, rfl, rfl, rfl, rfl, S_first_invalid.nd, rfl, hr, hg, rfl⟩ (passes_of rfl))
theorem cal_first_invalid (hK : C.K = K) (m : Md w K mg) (hsy : ∃ o, base.get? sysModules = some o) : CalG P w K mg base C "first_invalid" 5 1 D_first_invalid [] := by
  obtain ⟨fa, fd, F, gm⟩ := m.f_first_invalid
  rw [e_first_invalid] at F
  have hz : FnG P w K mg base CX0 5 fa fd ["steps"] (SpZ C 1 (runD N_first_invalid.length E_first_invalid)) := fnz_first_invalid hK m hsy F
  exact ⟨fa, fd, ["steps"], [], [], hz, gm, F.kp, F.bindsN (fun _ _ _ _ _ _ us hl => match us, hl with | [_], _ => rfl), .nil, fun _ _ _ => .nil⟩
theorem body_require_sequence {X : Cx} {W : WX} (hK : C.K = K) (m : Md w K mg) (hsy : ∃ o, base.get? sysModules = some o) (c_first_invalid : CalG P w K mg base C "first_invalid" 5 1 D_first_invalid []) (B : Bd P w K mg base J_require_sequence 5 X) (hp : PassesOwn (model X.prog X.w) X.A X.env X.xe) : PSs X (defBody s_require_sequence) (TSz C W E_require_sequence) :=
  s_cons (s_if (t_not (t_tst (B.eK hK) (b_callB B (c_isi (B.eK hK)) q_require_sequence_3 m.b_isinstance rfl (a_cons (b_var B q_require_sequence_0) (a_cons (s_tup (a_cons (b_ty B q_require_sequence_1 m.b_list rfl) (a_cons (b_ty B q_require_sequence_2 m.b_tuple rfl) a_nil rfl) rfl)) a_nil rfl) rfl) rfl rfl) (fun _ => rfl))) (s_one s_never) s_nil) (s_cons (b_asg B q_require_sequence_5 (b_callP (C := C) B c_first_invalid rfl q_require_sequence_4 (a_cons (b_var B q_require_sequence_0) a_nil rfl) rfl rfl) rfl) (s_one (s_if (t_cmp b_isN z_isN (b_var B q_require_sequence_6) (s_c pe_non fun _ _ => .non) rfl) (s_one s_never) s_nil)))
theorem fnz_require_sequence {fa : Addr} {fd : FuncData} (hK : C.K = K) (m : Md w K mg) (hsy : ∃ o, base.get? sysModules = some o) (F : FunD K "require_sequence" "require_sequence" (defArgs s_require_sequence) (defBody s_require_sequence) sc_require_sequence [] [] fa fd) : FnG P w K mg base CX0 6 fa fd ["value"] (SpZ C 1 (runD N_require_sequence.length E_require_sequence)) :=
  def_z (b := E_require_sequence) F S_require_sequence rfl (fun cdv A outer s H E hid hr hg => by
    have c_first_invalid := cal_first_invalid (P := P) (w := w) (K := K) (mg := mg) (base := base) (C := C.with hid) hK m hsy
    exact body_require_sequence (C := C.with hid) hK m hsy c_first_invalid ⟨rfl, rfl, rfl, rfl, rfl, rfl, rfl, rfl, S_require_sequence.nd, rfl, hr, hg, rfl⟩ (passes_of rfl))
theorem cal_require_sequence (hK : C.K = K) (m : Md w K mg) (hsy : ∃ o, base.get? sysModules = some o) : CalG P w K mg base C "require_sequence" 6 1 D_require_sequence [] := by
  obtain ⟨fa, fd, F, gm⟩ := m.f_require_sequence
  rw [e_require_sequence] at F
  have hz : FnG P w K mg base CX0 6 fa fd ["value"] (SpZ C 1 (runD N_require_sequence.length E_require_sequence)) := fnz_require_sequence hK m hsy F
  exact ⟨fa, fd, ["value"], [], [], hz, gm, F.kp, F.bindsN (fun _ _ _ _ _ _ us hl => match us, hl with | [_], _ => rfl), .nil, fun _ _ _ => .nil⟩
theorem body_require_sequences {X : Cx} {W : WX} (hK : C.K = K) (m : Md w K mg) (hsy : ∃ o, base.get? sysModules = some o) (c_require_sequence : CalG P w K mg base C "require_sequence" 6 1 D_require_sequence []) (B : Bd P w K mg base J_require_sequences 6 X) (hp : PassesOwn (model X.prog X.w) X.A X.env X.xe) : PSs X (defBody s_require_sequences) (TSz C W E_require_sequences) :=
  s_one (b_for (ws := [1, 2]) B [1, 2] hp (i_enum (B.eK hK) (B.gl q_require_sequences_1) (B.nx m.b_enumerate) (a_cons (b_var B q_require_sequences_0) a_nil rfl) rfl) (g_tup (B.eK hK) B.calm (gs_cons (b_name B q_require_sequences_3 rfl) (gs_cons (b_name B q_require_sequences_2 rfl) gs_nil rfl) rfl) rfl (gsCons_len (gsCons_len gsNil_len))) (s_one (s_try (s_one (s_expr (b_callP (C := C) B.nox c_require_sequence rfl q_require_sequences_5 (a_cons (b_var B.nox q_require_sequences_4) a_nil rfl) rfl rfl) rfl)))))
theorem fnz_require_sequences {fa : Addr} {fd : FuncData} (hK : C.K = K) (m : Md w K mg) (hsy : ∃ o, base.get? sysModules = some o) (F : FunD K "require_sequences" "require_sequences" (defArgs s_require_sequences) (defBody s_require_sequences) sc_require_sequences [] [] fa fd) : FnG P w K mg base CX0 7 fa fd ["sequences"] (SpZ C 1 (runD N_require_sequences.length E_require_sequences)) :=
  def_z (b := E_require_sequences) F S_require_sequences rfl (fun cdv A outer s H E hid hr hg => by
    have c_require_sequence := cal_require_sequence (P := P) (w := w) (K := K) (mg := mg) (base := base) (C := C.with hid) hK m hsy
    exact body_require_sequences (C := C.with hid) hK m hsy c_require_sequence ⟨rfl, rfl, rfl, rfl, rfl, rfl, rfl, rfl, S_require_sequences.nd, rfl, hr, hg, rfl⟩ (passes_of rfl))
theorem cal_require_sequences (hK : C.K = K) (m : Md w K mg) (hsy : ∃ o, base.get? sysModules = some o) : CalG P w K mg base C "require_sequences" 7 1 D_require_sequences [] := by
  obtain ⟨fa, fd, F, gm⟩ := m.f_require_sequences
  rw [e_require_sequences] at F
  have hz : FnG P w K mg base CX0 7 fa fd ["sequences"] (SpZ C 1 (runD N_require_sequences.length E_require_sequences)) := fnz_require_sequences hK m hsy F
  exact ⟨fa, fd, ["sequences"], [], [], hz, gm, F.kp, F.bindsN (fun _ _ _ _ _ _ us hl => match us, hl with | [_], _ => rfl), .nil, fun _ _ _ => .nil⟩
theorem body_is_scope {X : Cx} {W : WX} (hK : C.K = K) (m : Md w K mg) (hsy : ∃ o, base.get? sysModules = some o) (c_is_name : CalG P w K mg base C "is_name" 2 1 D_is_name []) (c_is_value : CalG P w K mg base C "is_value" 2 1 D_is_value []) (B : Bd P w K mg base J_is_scope 2 X) (hp : PassesOwn (model X.prog X.w) X.A X.env X.xe) : PSs X (defBody s_is_scope) (TSz C W E_is_scope) :=
  s_one (s_ret (s_and (b_callB B (c_isi (B.eK hK)) q_is_scope_2 m.b_isinstance rfl (a_cons (b_var B q_is_scope_0) (a_cons (b_ty B q_is_scope_1 m.b_dict rfl) a_nil rfl) rfl) rfl rfl) (pe_one (b_callB B (c_all B.calm) q_is_scope_9 m.b_all rfl (a_cons (b_lc B hK false (b := sc_is_scope_1) (own := [("name", 1)]) q_is_scope_3 (i_val (B.eK hK) (b_var B q_is_scope_0)) (fun X1 B1 h1 => have k1 : (C.with h1).K = K := hK; (b_name B1 q_is_scope_4 rfl)) (fun X1 B1 h1 => have k1 : (C.with h1).K = K := hK; ts_none) (fun X1 B1 h1 => have k1 : (C.with h1).K = K := hK; (s_and (b_callP (C := C) B1 c_is_name rfl q_is_scope_6 (a_cons (b_var B1 q_is_scope_5) a_nil rfl) rfl rfl) (pe_one (b_callP (C := C) B1 c_is_value rfl q_is_scope_8 (a_cons (s_ix (B1.eK k1) B1.u1 (b_var B1 q_is_scope_7) (b_var B1 q_is_scope_5) (fun _ _ => rfl)) a_nil rfl) rfl rfl))))) a_nil rfl) rfl rfl))))
theorem fnz_is_scope {fa : Addr} {fd : FuncData} (hK : C.K = K) (m : Md w K mg) (hsy : ∃ o, base.get? sysModules = some o) (F : FunD K "is_scope" "is_scope" (defArgs s_is_scope) (defBody s_is_scope) sc_is_scope [] [] fa fd) : FnG P w K mg base CX0 3 fa fd ["value"] (SpZ C 1 (runD N_is_scope.length E_is_scope)) :=
  def_z (b := E_is_scope) F S_is_scope rfl (fun cdv A outer s H E hid hr hg => by
    have c_is_name := cal_is_name (P := P) (w := w) (K := K) (mg := mg) (base := base) (C := C.with hid) hK m hsy
    have c_is_value := cal_is_value (P := P) (w := w) (K := K) (mg := mg) (base := base) (C := C.with hid) hK m hsy
    exact body_is_scope (C := C.with hid) hK m hsy c_is_name c_is_value ⟨rfl, rfl, rfl, rfl, rfl, rfl, rfl, rfl, S_is_scope.nd, rfl, hr, hg, rfl⟩ (passes_of rfl))
theorem cal_is_scope (hK : C.K = K) (m : Md w K mg) (hsy : ∃ o, base.get? sysModules = some o) : CalG P w K mg base C "is_scope" 3 1 D_is_scope [] := by
  obtain ⟨fa, fd, F, gm⟩ := m.f_is_scope
  rw [e_is_scope] at F
  have hz : FnG P w K mg base CX0 3 fa fd ["value"] (SpZ C 1 (runD N_is_scope.length E_is_scope)) := fnz_is_scope hK m hsy F
  exact ⟨fa, fd, ["value"], [], [], hz, gm, F.kp, F.bindsN (fun _ _ _ _ _ _ us hl => match us, hl with | [_], _ => rfl), .nil, fun _ _ _ => .nil⟩
theorem body_is_nest {X : Cx} {W : WX} (hK : C.K = K) (m : Md w K mg) (hsy : ∃ o, base.get? sysModules = some o) (c_is_scope : CalG P w K mg base C "is_scope" 3 1 D_is_scope []) (B : Bd P w K mg base J_is_nest 3 X) (hp : PassesOwn (model X.prog X.w) X.A X.env X.xe) : PSs X (defBody s_is_nest) (TSz C W E_is_nest) :=
  s_one (s_ret (s_and (b_callB B (c_isi (B.eK hK)) q_is_nest_2 m.b_isinstance rfl (a_cons (b_var B q_is_nest_0) (a_cons (b_ty B q_is_nest_1 m.b_list rfl) a_nil rfl) rfl) rfl rfl) (pe_one (b_callB B (c_all B.calm) q_is_nest_7 m.b_all rfl (a_cons (b_lc B hK false (b := sc_is_nest_1) (own := [("scope", 1)]) q_is_nest_3 (i_val (B.eK hK) (b_var B q_is_nest_0)) (fun X1 B1 h1 => have k1 : (C.with h1).K = K := hK; (b_name B1 q_is_nest_4 rfl)) (fun X1 B1 h1 => have k1 : (C.with h1).K = K := hK; ts_none) (fun X1 B1 h1 => have k1 : (C.with h1).K = K := hK; (b_callP (C := C) B1 c_is_scope rfl q_is_nest_6 (a_cons (b_var B1 q_is_nest_5) a_nil rfl) rfl rfl))) a_nil rfl) rfl rfl))))
theorem fnz_is_nest {fa : Addr} {fd : FuncData} (hK : C.K = K) (m : Md w K mg) (hsy : ∃ o, base.get? sysModules = some o) (F : FunD K "is_nest" "is_nest" (defArgs s_is_nest) (defBody s_is_nest) sc_is_nest [] [] fa fd) : FnG P w K mg base CX0 4 fa fd ["value"] (SpZ C 1 (runD N_is_nest.length E_is_nest)) :=
  def_z (b := E_is_nest) F S_is_nest rfl (fun cdv A outer s H E hid hr hg => by
    have c_is_scope := cal_is_scope (P := P) (w := w) (K := K) (mg := mg) (base := base) (C := C.with hid) hK m hsy
    exact body_is_nest (C := C.with hid) hK m hsy c_is_scope ⟨rfl, rfl, rfl, rfl, rfl, rfl, rfl, rfl, S_is_nest.nd, rfl, hr, hg, rfl⟩ (passes_of rfl))
theorem cal_is_nest (hK : C.K = K) (m : Md w K mg) (hsy : ∃ o, base.get? sysModules = some o) : CalG P w K mg base C "is_nest" 4 1 D_is_nest [] := by
  obtain ⟨fa, fd, F, gm⟩ := m.f_is_nest
  rw [e_is_nest] at F
  have hz : FnG P w K mg base CX0 4 fa fd ["value"] (SpZ C 1 (runD N_is_nest.length E_is_nest)) := fnz_is_nest hK m hsy F
  exact ⟨fa, fd, ["value"], [], [], hz, gm, F.kp, F.bindsN (fun _ _ _ _ _ _ us hl => match us, hl with | [_], _ => rfl), .nil, fun _ _ _ => .nil⟩
theorem body_require_nest {X : Cx} {W : WX} (hK : C.K = K) (m : Md w K mg) (hsy : ∃ o, base.get? sysModules = some o) (c_is_nest : CalG P w K mg base C "is_nest" 4 1 D_is_nest []) (B : Bd P w K mg base J_require_nest 4 X) (hp : PassesOwn (model X.prog X.w) X.A X.env X.xe) : PSs X (defBody s_require_nest) (TSz C W E_require_nest) :=
  s_one (s_if (t_not (t_tst (B.eK hK) (b_callP (C := C) B c_is_nest rfl q_require_nest_1 (a_cons (b_var B q_require_nest_0) a_nil rfl) rfl rfl) (fun _ => rfl))) (s_one s_never) s_nil)
theorem fnz_require_nest {fa : Addr} {fd : FuncData} (hK : C.K = K) (m : Md w K mg) (hsy : ∃ o, base.get? sysModules = some o) (F : FunD K "require_nest" "require_nest" (defArgs s_require_nest) (defBody s_require_nest) sc_require_nest [] [] fa fd) : FnG P w K mg base CX0 5 fa fd ["value"] (SpZ C 1 (runD N_require_nest.length E_require_nest)) :=
  def_z (b := E_require_nest) F S_require_nest rfl (fun cdv A outer s H E hid hr hg => by
    have c_is_nest := cal_is_nest (P := P) (w := w) (K := K) (mg := mg) (base := base) (C := C.with hid) hK m hsy
    exact body_require_nest (C := C.with hid) hK m hsy c_is_nest ⟨rfl, rfl, rfl, rfl, rfl, rfl, rfl, rfl, S_require_nest.nd, rfl, hr, hg, rfl⟩ (passes_of rfl))
theorem cal_require_nest (hK : C.K = K) (m : Md w K mg) (hsy : ∃ o, base.get? sysModules = some o) : CalG P w K mg base C "require_nest" 5 1 D_require_nest [] := by
  obtain ⟨fa, fd, F, gm⟩ := m.f_require_nest
  rw [e_require_nest] at F
  have hz : FnG P w K mg base CX0 5 fa fd ["value"] (SpZ C 1 (runD N_require_nest.length E_require_nest)) := fnz_require_nest hK m hsy F
  exact ⟨fa, fd, ["value"], [], [], hz, gm, F.kp, F.bindsN (fun _ _ _ _ _ _ us hl => match us, hl with | [_], _ => rfl), .nil, fun _ _ _ => .nil⟩
theorem body_visible_of {X : Cx} {W : WX} (hK : C.K = K) (m : Md w K mg) (hsy : ∃ o, base.get? sysModules = some o) (B : Bd P w K mg base J_visible_of 0 X) (hp : PassesOwn (model X.prog X.w) X.A X.env X.xe) : PSs X (defBody s_visible_of) (TSz C W E_visible_of) :=
  s_cons (b_for (ws := [3]) B [3] hp (i_val (B.eK hK) (s_sl (B.eK hK) false (b_var B q_visible_of_0) (o_some (b_var B q_visible_of_1)) o_none)) (b_name B q_visible_of_2 rfl) (s_one (s_if (t_cmp b_in (z_in (B.eK hK) B.u64) (b_var B q_visible_of_3) (b_var B q_visible_of_4) rfl) (s_one (s_ret (s_ix (B.eK hK) B.u1 (b_var B q_visible_of_4) (b_var B q_visible_of_3) (fun _ _ => rfl)))) s_nil))) (s_one (s_ret (s_c pe_non fun _ _ => .non)))
theorem fnz_visible_of {fa : Addr} {fd : FuncData} (hK : C.K = K) (m : Md w K mg) (hsy : ∃ o, base.get? sysModules = some o) (F : FunD K "visible_of" "visible_of" (defArgs s_visible_of) (defBody s_visible_of) sc_visible_of [] [] fa fd) : FnG P w K mg base CX0 1 fa fd ["nest", "level", "name"] (SpZ C 3 (runD N_visible_of.length E_visible_of)) :=
  def_z (b := E_visible_of) F S_visible_of rfl (fun cdv A outer s H E hid hr hg => by
    exact body_visible_of (C := C.with hid) hK m hsy ⟨rfl, rfl, rfl, rfl, rfl, rfl, rfl, rfl, S_visible_of.nd, rfl, hr, hg, rfl⟩ (passes_of rfl))
theorem cal_visible_of (hK : C.K = K) (m : Md w K mg) (hsy : ∃ o, base.get? sysModules = some o) : CalG P w K mg base C "visible_of" 1 3 D_visible_of [] := by
  obtain ⟨fa, fd, F, gm⟩ := m.f_visible_of
  rw [e_visible_of] at F
  have hz : FnG P w K mg base CX0 1 fa fd ["nest", "level", "name"] (SpZ C 3 (runD N_visible_of.length E_visible_of)) := fnz_visible_of hK m hsy F
  exact ⟨fa, fd, ["nest", "level", "name"], [], [], hz, gm, F.kp, F.bindsN (fun _ _ _ _ _ _ us hl => match us, hl with | [_, _, _], _ => rfl), .nil, fun _ _ _ => .nil⟩
theorem body_wanted_value {X : Cx} {W : WX} (hK : C.K = K) (m : Md w K mg) (hsy : ∃ o, base.get? sysModules = some o) (B : Bd P w K mg base J_wanted_value 0 X) (hp : PassesOwn (model X.prog X.w) X.A X.env X.xe) : PSs X (defBody s_wanted_value) (TSz C W E_wanted_value) :=
  s_one (s_ret (s_ite (t_cmp b_eq (z_eq (B.eK hK) B.u64) (b_callB B (c_len (B.eK hK)) q_wanted_value_1 m.b_len rfl (a_cons (b_var B q_wanted_value_0) a_nil rfl) rfl rfl) (s_c pe_int fun _ _ => .int _) rfl) (s_ix (B.eK hK) B.u1 (b_var B q_wanted_value_0) (s_c pe_int fun _ _ => .int _) (fun _ _ => rfl)) (s_c pe_non fun _ _ => .non)))
theorem fnz_wanted_value {fa : Addr} {fd : FuncData} (hK : C.K = K) (m : Md w K mg) (hsy : ∃ o, base.get? sysModules = some o) (F : FunD K "wanted_value" "wanted_value" (defArgs s_wanted_value) (defBody s_wanted_value) sc_wanted_value [] [] fa fd) : FnG P w K mg base CX0 1 fa fd ["step"] (SpZ C 1 (runD N_wanted_value.length E_wanted_value)) :=
  def_z (b := E_wanted_value) F S_wanted_value rfl (fun cdv A outer s H E hid hr hg => by
    exact body_wanted_value (C := C.with hid) hK m hsy ⟨rfl, rfl, rfl, rfl, rfl, rfl, rfl, rfl, S_wanted_value.nd, rfl, hr, hg, rfl⟩ (passes_of rfl))
theorem cal_wanted_value (hK : C.K = K) (m : Md w K mg) (hsy : ∃ o, base.get? sysModules = some o) : CalG P w K mg base C "wanted_value" 1 1 D_wanted_value [] := by
  obtain ⟨fa, fd, F, gm⟩ := m.f_wanted_value
  rw [e_wanted_value] at F
  have hz : FnG P w K mg base CX0 1 fa fd ["step"] (SpZ C 1 (runD N_wanted_value.length E_wanted_value)) := fnz_wanted_value hK m hsy F
  exact ⟨fa, fd, ["step"], [], [], hz, gm, F.kp, F.bindsN (fun _ _ _ _ _ _ us hl => match us, hl with | [_], _ => rfl), .nil, fun _ _ _ => .nil⟩
theorem body_own_of {X : Cx} {W : WX} (hK : C.K = K) (m : Md w K mg) (hsy : ∃ o, base.get? sysModules = some o) (B : Bd P w K mg base J_own_of 0 X) (hp : PassesOwn (model X.prog X.w) X.A X.env X.xe) : PSs X (defBody s_own_of) (TSz C W E_own_of) :=
  s_one (s_ret (s_ite (t_cmp b_lt z_lt (b_var B q_own_of_0) (b_callB B (c_len (B.eK hK)) q_own_of_2 m.b_len rfl (a_cons (b_var B q_own_of_1) a_nil rfl) rfl rfl) rfl) (s_meth PySem.F.plainAttrs_dict PySem.F.slot_dict_get PySem.F.type_dict_get (mz_dget B.u1) (s_ix (B.eK hK) B.u1 (b_var B q_own_of_1) (b_var B q_own_of_0) (fun _ _ => rfl)) (a_cons (b_var B q_own_of_3) a_nil rfl)) (s_c pe_non fun _ _ => .non)))
theorem fnz_own_of {fa : Addr} {fd : FuncData} (hK : C.K = K) (m : Md w K mg) (hsy : ∃ o, base.get? sysModules = some o) (F : FunD K "own_of" "own_of" (defArgs s_own_of) (defBody s_own_of) sc_own_of [] [] fa fd) : FnG P w K mg base CX0 1 fa fd ["nest", "level", "name"] (SpZ C 3 (runD N_own_of.length E_own_of)) :=
  def_z (b := E_own_of) F S_own_of rfl (fun cdv A outer s H E hid hr hg => by
    exact body_own_of (C := C.with hid) hK m hsy ⟨rfl, rfl, rfl, rfl, rfl, rfl, rfl, rfl, S_own_of.nd, rfl, hr, hg, rfl⟩ (passes_of rfl))
theorem cal_own_of (hK : C.K = K) (m : Md w K mg) (hsy : ∃ o, base.get? sysModules = some o) : CalG P w K mg base C "own_of" 1 3 D_own_of [] := by
  obtain ⟨fa, fd, F, gm⟩ := m.f_own_of
  rw [e_own_of] at F
  have hz : FnG P w K mg base CX0 1 fa fd ["nest", "level", "name"] (SpZ C 3 (runD N_own_of.length E_own_of)) := fnz_own_of hK m hsy F
  exact ⟨fa, fd, ["nest", "level", "name"], [], [], hz, gm, F.kp, F.bindsN (fun _ _ _ _ _ _ us hl => match us, hl with | [_, _, _], _ => rfl), .nil, fun _ _ _ => .nil⟩
theorem body_after_step {X : Cx} {W : WX} (hK : C.K = K) (m : Md w K mg) (hsy : ∃ o, base.get? sysModules = some o) (c_visible_of : CalG P w K mg base C "visible_of" 1 3 D_visible_of []) (c_wanted_value : CalG P w K mg base C "wanted_value" 1 1 D_wanted_value []) (c_own_of : CalG P w K mg base C "own_of" 1 3 D_own_of []) (B : Bd P w K mg base J_after_step 1 X) (hp : PassesOwn (model X.prog X.w) X.A X.env X.xe) : PSs X (defBody s_after_step) (TSz C W E_after_step) :=
  s_cons (s_if (t_cmp b_eqX (z_eqX (B.eK hK) B.u64) (s_ix (B.eK hK) B.u1 (b_var B q_after_step_0) (s_c pe_int fun _ _ => .int _) (fun _ _ => rfl)) (s_c pe_str fun _ _ => .str _) rfl) (s_one (s_ret (s_bin (z_add (B.eK hK) false) (s_lst false (a_cons (s_dct0 false) a_nil rfl)) (b_var B q_after_step_1)))) s_nil) (s_cons (s_if (t_cmp b_in (z_in (B.eK hK) B.u64) (s_ix (B.eK hK) B.u1 (b_var B q_after_step_0) (s_c pe_int fun _ _ => .int _) (fun _ _ => rfl)) (s_tup (a_cons (s_c pe_str fun _ _ => .str _) (a_cons (s_c pe_str fun _ _ => .str _) a_nil rfl) rfl)) rfl) (s_one (s_ret (s_ite (t_cmp b_eq (z_eq (B.eK hK) B.u64) (b_callP (C := C) B c_visible_of rfl q_after_step_2 (a_cons (b_var B q_after_step_1) (a_cons (s_c pe_int fun _ _ => .int _) (a_cons (s_ix (B.eK hK) B.u1 (b_var B q_after_step_0) (s_c pe_int fun _ _ => .int _) (fun _ _ => rfl)) a_nil rfl) rfl) rfl) rfl rfl) (b_callP (C := C) B c_wanted_value rfl q_after_step_3 (a_cons (b_var B q_after_step_0) a_nil rfl) rfl rfl) rfl) (b_var B q_after_step_1) (s_c pe_non fun _ _ => .non)))) s_nil) (s_cons (s_if (t_cmp b_eq (z_eq (B.eK hK) B.u64) (b_var B q_after_step_1) (s_lst false a_nil) rfl) (s_one (s_ret (s_c pe_non fun _ _ => .non))) s_nil) (s_cons (s_if (t_cmp b_eqX (z_eqX (B.eK hK) B.u64) (s_ix (B.eK hK) B.u1 (b_var B q_after_step_0) (s_c pe_int fun _ _ => .int _) (fun _ _ => rfl)) (s_c pe_str fun _ _ => .str _) rfl) (s_one (s_ret (s_sl (B.eK hK) false (b_var B q_after_step_1) (o_some (s_c pe_int fun _ _ => .int _)) o_none))) s_nil) (s_cons (s_if (t_cmp b_in (z_in (B.eK hK) B.u64) (s_ix (B.eK hK) B.u1 (b_var B q_after_step_0) (s_c pe_int fun _ _ => .int _) (fun _ _ => rfl)) (s_tup (a_cons (s_c pe_str fun _ _ => .str _) (a_cons (s_c pe_str fun _ _ => .str _) a_nil rfl) rfl)) rfl) (s_one (s_ret (s_ite (t_cmp b_eq (z_eq (B.eK hK) B.u64) (b_callP (C := C) B c_own_of rfl q_after_step_4 (a_cons (b_var B q_after_step_1) (a_cons (s_c pe_int fun _ _ => .int _) (a_cons (s_ix (B.eK hK) B.u1 (b_var B q_after_step_0) (s_c pe_int fun _ _ => .int _) (fun _ _ => rfl)) a_nil rfl) rfl) rfl) rfl rfl) (b_callP (C := C) B c_wanted_value rfl q_after_step_3 (a_cons (b_var B q_after_step_0) a_nil rfl) rfl rfl) rfl) (b_var B q_after_step_1) (s_c pe_non fun _ _ => .non)))) s_nil) (s_cons (b_setDc B hK true (b := sc_after_step_1) (own := [("name", 3), ("value", 4)]) q_after_step_11 q_after_step_12 rfl q_after_step_5 (i_items (s_ix (B.eK hK) B.u1 (b_var B q_after_step_1) (s_c pe_int fun _ _ => .int _) (fun _ _ => rfl)) rfl rfl) (fun X1 B1 h1 => have k1 : (C.with h1).K = K := hK; (g_tup (B1.eK k1) B1.calm (gs_cons (b_name B1 q_after_step_7 rfl) (gs_cons (b_name B1 q_after_step_6 rfl) gs_nil rfl) rfl) rfl (gsCons_len (gsCons_len gsNil_len)))) (fun X1 B1 h1 => have k1 : (C.with h1).K = K := hK; (ts_one (t_cmp b_ne (z_ne (B1.eK k1) B1.u64) (b_var B1 q_after_step_8) (s_ix (B1.eK k1) B1.u1 (b_var B1 q_after_step_9) (s_c pe_int fun _ _ => .int _) (fun _ _ => rfl)) rfl))) (fun X1 B1 h1 => have k1 : (C.with h1).K = K := hK; (b_var B1 q_after_step_8)) (fun X1 B1 h1 => have k1 : (C.with h1).K = K := hK; (b_var B1 q_after_step_10))) (s_cons (s_if (t_cmp b_eqX (z_eqX (B.eK hK) B.u64) (s_ix (B.eK hK) B.u1 (b_var B q_after_step_0) (s_c pe_int fun _ _ => .int _) (fun _ _ => rfl)) (s_c pe_str fun _ _ => .str _) rfl) (s_one (s_put B.u1 (b_var B q_after_step_13) (s_ix (B.eK hK) B.u1 (b_var B q_after_step_0) (s_c pe_int fun _ _ => .int _) (fun _ _ => rfl)) (s_ix (B.eK hK) B.u1 (b_var B q_after_step_0) (s_c pe_int fun _ _ => .int _) (fun _ _ => rfl)) rfl)) s_nil) (ss_frzV 2 (s_one (s_ret (s_bin (z_add (B.eK hK) false) (s_lst false (a_cons (b_var B q_after_step_13) a_nil rfl)) (s_sl (B.eK hK) false (b_var B q_after_step_1) (o_some (s_c pe_int fun _ _ => .int _)) o_none)))))))))))
theorem fnz_after_step {fa : Addr} {fd : FuncData} (hK : C.K = K) (m : Md w K mg) (hsy : ∃ o, base.get? sysModules = some o) (F : FunD K "after_step" "after_step" (defArgs s_after_step) (defBody s_after_step) sc_after_step [] [] fa fd) : FnG P w K mg base CX0 2 fa fd ["nest", "step"] (SpZ C 2 (runD N_after_step.length E_after_step)) :=
  def_z (b := E_after_step) F S_after_step rfl (fun cdv A outer s H E hid hr hg => by
    have c_visible_of := cal_visible_of (P := P) (w := w) (K := K) (mg := mg) (base := base) (C := C.with hid) hK m hsy
    have c_wanted_value := cal_wanted_value (P := P) (w := w) (K := K) (mg := mg) (base := base) (C := C.with hid) hK m hsy
    have c_own_of := cal_own_of (P := P) (w := w) (K := K) (mg := mg) (base := base) (C := C.with hid) hK m hsy
    exact body_after_step (C := C.with hid) hK m hsy c_visible_of c_wanted_value c_own_of ⟨rfl, rfl, rfl, rfl, rfl, rfl, rfl, rfl, S_after_step.nd, rfl, hr, hg, rfl⟩ (passes_of rfl))
theorem cal_after_step (hK : C.K = K) (m : Md w K mg) (hsy : ∃ o, base.get? sysModules = some o) : CalG P w K mg base C "after_step" 2 2 D_after_step [] := by
  obtain ⟨fa, fd, F, gm⟩ := m.f_after_step
  rw [e_after_step] at F
  have hz : FnG P w K mg base CX0 2 fa fd ["nest", "step"] (SpZ C 2 (runD N_after_step.length E_after_step)) := fnz_after_step hK m hsy F
  exact ⟨fa, fd, ["nest", "step"], [], [], hz, gm, F.kp, F.bindsN (fun _ _ _ _ _ _ us hl => match us, hl with | [_, _], _ => rfl), .nil, fun _ _ _ => .nil⟩
theorem body_outcome {X : Cx} {W : WX} (hK : C.K = K) (m : Md w K mg) (hsy : ∃ o, base.get? sysModules = some o) (c_after_step : CalG P w K mg base C "after_step" 2 2 D_after_step []) (B : Bd P w K mg base J_outcome 2 X) (hp : PassesOwn (model X.prog X.w) X.A X.env X.xe) : PSs X (defBody s_outcome) (TSz C W E_outcome) :=
  s_cons (b_asg B q_outcome_1 (b_var B q_outcome_0) rfl) (s_cons (b_for (ws := [3]) B [3] hp (i_val (B.eK hK) (b_var B q_outcome_2)) (b_name B q_outcome_3 rfl) (s_cons (b_asg B q_outcome_1 (b_callP (C := C) B c_after_step rfl q_outcome_6 (a_cons (b_var B q_outcome_4) (a_cons (b_var B q_outcome_5) a_nil rfl) rfl) rfl rfl) rfl) (s_one (s_if (t_cmp b_is z_is (b_var B q_outcome_4) (s_c pe_non fun _ _ => .non) rfl) (s_one (s_ret (s_c pe_non fun _ _ => .non))) s_nil)))) (s_one (s_ret (b_var B q_outcome_4))))
theorem fnz_outcome {fa : Addr} {fd : FuncData} (hK : C.K = K) (m : Md w K mg) (hsy : ∃ o, base.get? sysModules = some o) (F : FunD K "outcome" "outcome" (defArgs s_outcome) (defBody s_outcome) sc_outcome [] [] fa fd) : FnG P w K mg base CX0 3 fa fd ["nest", "sequence"] (SpZ C 2 (runD N_outcome.length E_outcome)) :=
  def_z (b := E_outcome) F S_outcome rfl (fun cdv A outer s H E hid hr hg => by
    have c_after_step := cal_after_step (P := P) (w := w) (K := K) (mg := mg) (base := base) (C := C.with hid) hK m hsy
    exact body_outcome (C := C.with hid) hK m hsy c_after_step ⟨rfl, rfl, rfl, rfl, rfl, rfl, rfl, rfl, S_outcome.nd, rfl, hr, hg, rfl⟩ (passes_of rfl))
theorem cal_outcome (hK : C.K = K) (m : Md w K mg) (hsy : ∃ o, base.get? sysModules = some o) : CalG P w K mg base C "outcome" 3 2 D_outcome [] := by
  obtain ⟨fa, fd, F, gm⟩ := m.f_outcome
  rw [e_outcome] at F
  have hz : FnG P w K mg base CX0 3 fa fd ["nest", "sequence"] (SpZ C 2 (runD N_outcome.length E_outcome)) := fnz_outcome hK m hsy F
  exact ⟨fa, fd, ["nest", "sequence"], [], [], hz, gm, F.kp, F.bindsN (fun _ _ _ _ _ _ us hl => match us, hl with | [_, _], _ => rfl), .nil, fun _ _ _ => .nil⟩
theorem body_explaining_c {X : Cx} {W : WX} (hK : C.K = K) (m : Md w K mg) (hsy : ∃ o, base.get? sysModules = some o) (c_require_sequences : CalG P w K mg base C "require_sequences" 7 1 D_require_sequences []) (c_require_nest : CalG P w K mg base C "require_nest" 5 1 D_require_nest []) (c_outcome : CalG P w K mg base C "outcome" 3 2 D_outcome []) (B : Bd P w K mg base J_explaining 7 X) (hp : PassesOwn (model X.prog X.w) X.A X.env X.xe) : PSs X (defBody s_explaining) (TSz C W E_explaining_c) :=
  s_cons (s_expr (b_callP (C := C) B c_require_sequences rfl q_explaining_1 (a_cons (b_var B q_explaining_0) a_nil rfl) rfl rfl) rfl) (s_cons (b_for (ws := [2, 3]) B [2, 3] hp (i_val (B.eK hK) (b_var B q_explaining_2)) (g_tup (B.eK hK) B.calm (gs_cons (b_name B q_explaining_4 rfl) (gs_cons (b_name B q_explaining_3 rfl) gs_nil rfl) rfl) rfl (gsCons_len (gsCons_len gsNil_len))) (s_cons (s_expr (b_callP (C := C) B c_require_nest rfl q_explaining_6 (a_cons (b_var B q_explaining_5) a_nil rfl) rfl rfl) rfl) (s_one (s_if (t_cmp b_isN z_isN (b_var B q_explaining_7) (s_c pe_non fun _ _ => .non) rfl) (s_one (s_expr (b_callP (C := C) B c_require_nest rfl q_explaining_6 (a_cons (b_var B q_explaining_7) a_nil rfl) rfl rfl) rfl)) s_nil)))) (s_cons (b_asg B q_explaining_8 (s_lst true a_nil) rfl) (s_cons (b_for (ws := [5, 6]) B [5, 6] hp (i_enum (B.eK hK) (B.gl q_explaining_9) (B.nx m.b_enumerate) (a_cons (b_var B q_explaining_0) a_nil rfl) rfl) (g_tup (B.eK hK) B.calm (gs_cons (b_name B q_explaining_11 rfl) (gs_cons (b_name B q_explaining_10 rfl) gs_nil rfl) rfl) rfl (gsCons_len (gsCons_len gsNil_len))) (s_one (s_if (t_tst (B.eK hK) (b_callB B (c_all B.calm) q_explaining_19 m.b_all rfl (a_cons (b_lc B hK false (b := sc_explaining_1) (own := [("before", 2), ("after", 3)]) q_explaining_12 (i_val (B.eK hK) (b_var B q_explaining_2)) (fun X1 B1 h1 => have k1 : (C.with h1).K = K := hK; (g_tup (B1.eK k1) B1.calm (gs_cons (b_name B1 q_explaining_14 rfl) (gs_cons (b_name B1 q_explaining_13 rfl) gs_nil rfl) rfl) rfl (gsCons_len (gsCons_len gsNil_len)))) (fun X1 B1 h1 => have k1 : (C.with h1).K = K := hK; ts_none) (fun X1 B1 h1 => have k1 : (C.with h1).K = K := hK; (s_cmp (z_eq (B1.eK k1) B1.u64) (b_callP (C := C) B1 c_outcome rfl q_explaining_17 (a_cons (b_var B1 q_explaining_15) (a_cons (b_var B1 q_explaining_16) a_nil rfl) rfl) rfl rfl) (b_var B1 q_explaining_18) rfl))) a_nil rfl) rfl rfl) (fun _ => rfl)) (s_one (s_expr (s_meth PySem.F.plainAttrs_list PySem.F.slot_list_append PySem.F.type_list_append mz_append (b_var B q_explaining_20) (a_cons (b_var B q_explaining_21) a_nil rfl)) rfl)) s_nil))) (s_one (s_ret (b_var B q_explaining_20))))))
theorem fnz_explaining_c {fa : Addr} {fd : FuncData} (hK : C.K = K) (m : Md w K mg) (hsy : ∃ o, base.get? sysModules = some o) (F : FunD K "explaining" "explaining" (defArgs s_explaining) (defBody s_explaining) sc_explaining [] [] fa fd) : FnG P w K mg base CX0 8 fa fd ["sequences", "observations"] (SpZ C 2 (runD N_explaining.length E_explaining_c)) :=
  def_z (b := E_explaining_c) F S_explaining rfl (fun cdv A outer s H E hid hr hg => by
    have c_require_sequences := cal_require_sequences (P := P) (w := w) (K := K) (mg := mg) (base := base) (C := C.with hid) hK m hsy
    have c_require_nest := cal_require_nest (P := P) (w := w) (K := K) (mg := mg) (base := base) (C := C.with hid) hK m hsy
    have c_outcome := cal_outcome (P := P) (w := w) (K := K) (mg := mg) (base := base) (C := C.with hid) hK m hsy
    exact body_explaining_c (C := C.with hid) hK m hsy c_require_sequences c_require_nest c_outcome ⟨rfl, rfl, rfl, rfl, rfl, rfl, rfl, rfl, S_explaining.nd, rfl, hr, hg, rfl⟩ (passes_of rfl))
theorem cal_explaining_c (hK : C.K = K) (m : Md w K mg) (hsy : ∃ o, base.get? sysModules = some o) : CalG P w K mg base C "explaining" 8 2 D_explaining_c [] := by
  obtain ⟨fa, fd, F, gm⟩ := m.f_explaining
  rw [e_explaining] at F
  have hz : FnG P w K mg base CX0 8 fa fd ["sequences", "observations"] (SpZ C 2 (runD N_explaining.length E_explaining_c)) := fnz_explaining_c hK m hsy F
  exact ⟨fa, fd, ["sequences", "observations"], [], [], hz, gm, F.kp, F.bindsN (fun _ _ _ _ _ _ us hl => match us, hl with | [_, _], _ => rfl), .nil, fun _ _ _ => .nil⟩
theorem body_law_explaining {X : Cx} {W : WX} (hK : C.K = K) (m : Md w K mg) (hsy : ∃ o, base.get? sysModules = some o) (c_law_result : CalG P w K mg base C "_law_result" 4 2 D_law_result []) (B : Bd P w K mg base J_law_explaining 4 X) (hp : PassesOwn (model X.prog X.w) X.A X.env X.xe) : PSs X (defBody s_law_explaining) (TSz C W E_law_explaining) :=
  s_cons (b_asg B q_law_explaining_0 (s_lst true a_nil) rfl) (s_cons (b_for (ws := [3, 4]) B [3, 4] hp (i_enum (B.eK hK) (B.gl q_law_explaining_2) (B.nx m.b_enumerate) (a_cons (b_var B q_law_explaining_1) a_nil rfl) rfl) (g_tup (B.eK hK) B.calm (gs_cons (b_name B q_law_explaining_4 rfl) (gs_cons (b_name B q_law_explaining_3 rfl) gs_nil rfl) rfl) rfl (gsCons_len (gsCons_len gsNil_len))) (s_one (s_if (t_cmp b_eq (z_eq (B.eK hK) B.u64) (b_lc B hK false (b := sc_law_explaining_1) (own := [("_law_one", 5)]) q_law_explaining_6 (i_val (B.eK hK) (b_var B q_law_explaining_5)) (fun X1 B1 h1 => have k1 : (C.with h1).K = K := hK; (b_name B1 q_law_explaining_7 rfl)) (fun X1 B1 h1 => have k1 : (C.with h1).K = K := hK; (ts_one (t_cmp b_ne (z_ne (B1.eK k1) B1.u64) (b_callP (C := C) B1 c_law_result rfl q_law_explaining_10 (a_cons (s_ix (B1.eK k1) B1.u1 (b_var B1 q_law_explaining_8) (s_c pe_int fun _ _ => .int _) (fun _ _ => rfl)) (a_cons (b_var B1 q_law_explaining_9) a_nil rfl) rfl) rfl rfl) (s_ix (B1.eK k1) B1.u1 (b_var B1 q_law_explaining_8) (s_c pe_int fun _ _ => .int _) (fun _ _ => rfl)) rfl))) (fun X1 B1 h1 => have k1 : (C.with h1).K = K := hK; (b_var B1 q_law_explaining_8))) (s_lst false a_nil) rfl) (s_one (s_expr (s_meth PySem.F.plainAttrs_list PySem.F.slot_list_append PySem.F.type_list_append mz_append (b_var B q_law_explaining_11) (a_cons (b_var B q_law_explaining_12) a_nil rfl)) rfl)) s_nil))) (s_one (s_ret (s_frz (b_var B q_law_explaining_11)))))
theorem fnz_law_explaining {fa : Addr} {fd : FuncData} (hK : C.K = K) (m : Md w K mg) (hsy : ∃ o, base.get? sysModules = some o) (F : FunD K "_law_explaining" "_law_explaining" (defArgs s_law_explaining) (defBody s_law_explaining) sc_law_explaining [] [] fa fd) : FnG P w K mg base CX0 5 fa fd ["_law_sequences", "_law_observations"] (SpZ C 2 (runD N_law_explaining.length E_law_explaining)) :=
  def_z (b := E_law_explaining) F S_law_explaining rfl (fun cdv A outer s H E hid hr hg => by
    have c_law_result := cal_law_result (P := P) (w := w) (K := K) (mg := mg) (base := base) (C := C.with hid) hK m hsy
    exact body_law_explaining (C := C.with hid) hK m hsy c_law_result ⟨rfl, rfl, rfl, rfl, rfl, rfl, rfl, rfl, S_law_explaining.nd, rfl, hr, hg, rfl⟩ (passes_of rfl))
theorem cal_law_explaining (hK : C.K = K) (m : Md w K mg) (hsy : ∃ o, base.get? sysModules = some o) : CalG P w K mg base C "_law_explaining" 5 2 D_law_explaining [] := by
  obtain ⟨fa, fd, F, gm⟩ := m.f_law_explaining
  rw [e_law_explaining] at F
  have hz : FnG P w K mg base CX0 5 fa fd ["_law_sequences", "_law_observations"] (SpZ C 2 (runD N_law_explaining.length E_law_explaining)) := fnz_law_explaining hK m hsy F
  exact ⟨fa, fd, ["_law_sequences", "_law_observations"], [], [], hz, gm, F.kp, F.bindsN (fun _ _ _ _ _ _ us hl => match us, hl with | [_, _], _ => rfl), .nil, fun _ _ _ => .nil⟩
theorem body_largest_group {X : Cx} {W : WX} (hK : C.K = K) (m : Md w K mg) (hsy : ∃ o, base.get? sysModules = some o) (B : Bd P w K mg base J_largest_group 0 X) (hp : PassesOwn (model X.prog X.w) X.A X.env X.xe) : PSs X (defBody s_largest_group) (TSz C W E_largest_group) :=
  s_one (s_ret (s_maxD (B.eK hK) B.calm B.u64 (B.gl q_largest_group_5) (B.nx m.b_max) (b_lc B hK false (b := sc_largest_group_1) (own := [("result", 1)]) q_largest_group_1 (i_val (B.eK hK) (b_var B q_largest_group_0)) (fun X1 B1 h1 => have k1 : (C.with h1).K = K := hK; (b_name B1 q_largest_group_2 rfl)) (fun X1 B1 h1 => have k1 : (C.with h1).K = K := hK; ts_none) (fun X1 B1 h1 => have k1 : (C.with h1).K = K := hK; (s_meth PySem.F.plainAttrs_list PySem.F.slot_list_count PySem.F.type_list_count (mz_count (B1.eK k1) B1.u64) (b_var B1 q_largest_group_3) (a_cons (b_var B1 q_largest_group_4) a_nil rfl)))) (s_c pe_int fun _ _ => .int _) rfl rfl rfl rfl rfl rfl))
theorem fnz_largest_group {fa : Addr} {fd : FuncData} (hK : C.K = K) (m : Md w K mg) (hsy : ∃ o, base.get? sysModules = some o) (F : FunD K "largest_group" "largest_group" (defArgs s_largest_group) (defBody s_largest_group) sc_largest_group [] [] fa fd) : FnG P w K mg base CX0 1 fa fd ["results"] (SpZ C 1 (runD N_largest_group.length E_largest_group)) :=
  def_z (b := E_largest_group) F S_largest_group rfl (fun cdv A outer s H E hid hr hg => by
    exact body_largest_group (C := C.with hid) hK m hsy ⟨rfl, rfl, rfl, rfl, rfl, rfl, rfl, rfl, S_largest_group.nd, rfl, hr, hg, rfl⟩ (passes_of rfl))
theorem cal_largest_group (hK : C.K = K) (m : Md w K mg) (hsy : ∃ o, base.get? sysModules = some o) : CalG P w K mg base C "largest_group" 1 1 D_largest_group [] := by
  obtain ⟨fa, fd, F, gm⟩ := m.f_largest_group
  rw [e_largest_group] at F
  have hz : FnG P w K mg base CX0 1 fa fd ["results"] (SpZ C 1 (runD N_largest_group.length E_largest_group)) := fnz_largest_group hK m hsy F
  exact ⟨fa, fd, ["results"], [], [], hz, gm, F.kp, F.bindsN (fun _ _ _ _ _ _ us hl => match us, hl with | [_], _ => rfl), .nil, fun _ _ _ => .nil⟩
theorem body_telling {X : Cx} {W : WX} (hK : C.K = K) (m : Md w K mg) (hsy : ∃ o, base.get? sysModules = some o) (c_require_sequences : CalG P w K mg base C "require_sequences" 7 1 D_require_sequences []) (c_require_nest : CalG P w K mg base C "require_nest" 5 1 D_require_nest []) (c_largest_group : CalG P w K mg base C "largest_group" 1 1 D_largest_group []) (c_outcome : CalG P w K mg base C "outcome" 3 2 D_outcome []) (B : Bd P w K mg base J_telling 7 X) (hp : PassesOwn (model X.prog X.w) X.A X.env X.xe) : PSs X (defBody s_telling) (TSz C W E_telling) :=
  s_cons (s_expr (b_callP (C := C) B c_require_sequences rfl q_telling_1 (a_cons (b_var B q_telling_0) a_nil rfl) rfl rfl) rfl) (s_cons (b_for (ws := [2]) B [2] hp (i_val (B.eK hK) (b_var B q_telling_2)) (b_name B q_telling_3 rfl) (s_one (s_expr (b_callP (C := C) B c_require_nest rfl q_telling_5 (a_cons (b_var B q_telling_4) a_nil rfl) rfl rfl) rfl))) (s_cons (s_if (PW.pt (t_or (t_cmp b_eq (z_eq (B.eK hK) B.u64) (b_callB B (c_len (B.eK hK)) q_telling_6 m.b_len rfl (a_cons (b_var B q_telling_0) a_nil rfl) rfl rfl) (s_c pe_int fun _ _ => .int _) rfl) (pw_or1 (t_cmp b_eq (z_eq (B.eK hK) B.u64) (b_callB B (c_len (B.eK hK)) q_telling_6 m.b_len rfl (a_cons (b_var B q_telling_2) a_nil rfl) rfl rfl) (s_c pe_int fun _ _ => .int _) rfl)))) (s_one (s_ret (s_tup (a_cons (s_c pe_non fun _ _ => .non) (a_cons (s_c pe_int fun _ _ => .int _) a_nil rfl) rfl)))) s_nil) (s_cons (b_setLc B hK false (b := sc_telling_1) (own := [("nest", 2)]) q_telling_16 q_telling_17 rfl q_telling_7 (i_val (B.eK hK) (b_var B q_telling_2)) (fun X1 B1 h1 => have k1 : (C.with h1).K = K := hK; (b_name B1 q_telling_8 rfl)) (fun X1 B1 h1 => have k1 : (C.with h1).K = K := hK; ts_none) (fun X1 B1 h1 => have k1 : (C.with h1).K = K := hK; (b_callP (C := C) B1 c_largest_group rfl q_telling_15 (a_cons (b_lc B1 k1 false (b := sc_telling_2) (own := [("sequence", 4)]) q_telling_10 (i_val (B1.eK k1) (b_var B1 q_telling_9)) (fun X2 B2 h2 => have k2 : (C.with h2).K = K := hK; (b_name B2 q_telling_11 rfl)) (fun X2 B2 h2 => have k2 : (C.with h2).K = K := hK; ts_none) (fun X2 B2 h2 => have k2 : (C.with h2).K = K := hK; (b_callP (C := C) B2 c_outcome rfl q_telling_14 (a_cons (b_var B2 q_telling_12) (a_cons (b_var B2 q_telling_13) a_nil rfl) rfl) rfl rfl))) a_nil rfl) rfl rfl))) (s_one (s_ret (s_tup (a_cons (s_meth PySem.F.plainAttrs_list PySem.F.slot_list_index PySem.F.type_list_index (mz_index (B.eK hK)) (b_var B q_telling_18) (a_cons (b_callB B (c_min B.calm) q_telling_19 m.b_min rfl (a_cons (b_var B q_telling_18) a_nil rfl) rfl rfl) a_nil rfl)) (a_cons (b_callB B (c_min B.calm) q_telling_19 m.b_min rfl (a_cons (b_var B q_telling_18) a_nil rfl) rfl rfl) a_nil rfl) rfl)))))))
theorem fnz_telling {fa : Addr} {fd : FuncData} (hK : C.K = K) (m : Md w K mg) (hsy : ∃ o, base.get? sysModules = some o) (F : FunD K "telling" "telling" (defArgs s_telling) (defBody s_telling) sc_telling [] [] fa fd) : FnG P w K mg base CX0 8 fa fd ["sequences", "nests"] (SpZ C 2 (runD N_telling.length E_telling)) :=
  def_z (b := E_telling) F S_telling rfl (fun cdv A outer s H E hid hr hg => by
    have c_require_sequences := cal_require_sequences (P := P) (w := w) (K := K) (mg := mg) (base := base) (C := C.with hid) hK m hsy
    have c_require_nest := cal_require_nest (P := P) (w := w) (K := K) (mg := mg) (base := base) (C := C.with hid) hK m hsy
    have c_largest_group := cal_largest_group (P := P) (w := w) (K := K) (mg := mg) (base := base) (C := C.with hid) hK m hsy
    have c_outcome := cal_outcome (P := P) (w := w) (K := K) (mg := mg) (base := base) (C := C.with hid) hK m hsy
    exact body_telling (C := C.with hid) hK m hsy c_require_sequences c_require_nest c_largest_group c_outcome ⟨rfl, rfl, rfl, rfl, rfl, rfl, rfl, rfl, S_telling.nd, rfl, hr, hg, rfl⟩ (passes_of rfl))
theorem cal_telling (hK : C.K = K) (m : Md w K mg) (hsy : ∃ o, base.get? sysModules = some o) : CalG P w K mg base C "telling" 8 2 D_telling [] := by
  obtain ⟨fa, fd, F, gm⟩ := m.f_telling
  rw [e_telling] at F
  have hz : FnG P w K mg base CX0 8 fa fd ["sequences", "nests"] (SpZ C 2 (runD N_telling.length E_telling)) := fnz_telling hK m hsy F
  exact ⟨fa, fd, ["sequences", "nests"], [], [], hz, gm, F.kp, F.bindsN (fun _ _ _ _ _ _ us hl => match us, hl with | [_, _], _ => rfl), .nil, fun _ _ _ => .nil⟩
theorem body_law_telling {X : Cx} {W : WX} (hK : C.K = K) (m : Md w K mg) (hsy : ∃ o, base.get? sysModules = some o) (c_law_result : CalG P w K mg base C "_law_result" 4 2 D_law_result []) (B : Bd P w K mg base J_law_telling 4 X) (hp : PassesOwn (model X.prog X.w) X.A X.env X.xe) : PSs X (defBody s_law_telling) (TSz C W E_law_telling) :=
  s_cons (s_if (PW.pt (t_or (t_cmp b_eq (z_eq (B.eK hK) B.u64) (b_var B q_law_telling_0) (s_lst false a_nil) rfl) (pw_or1 (t_cmp b_eq (z_eq (B.eK hK) B.u64) (b_var B q_law_telling_1) (s_lst false a_nil) rfl)))) (s_one (s_ret (s_tup (a_cons (s_c pe_non fun _ _ => .non) (a_cons (s_c pe_int fun _ _ => .int _) a_nil rfl) rfl)))) s_nil) (s_cons (b_asg B q_law_telling_2 (s_lst true a_nil) rfl) (s_cons (b_for (ws := [3]) B [3, 4] hp (i_val (B.eK hK) (b_var B q_law_telling_1)) (b_name B q_law_telling_3 rfl) (s_cons (b_asg B q_law_telling_10 (b_lc B hK false (b := sc_law_telling_1) (own := [("_law_steps", 5)]) q_law_telling_5 (i_val (B.eK hK) (b_var B q_law_telling_0)) (fun X1 B1 h1 => have k1 : (C.with h1).K = K := hK; (b_name B1 q_law_telling_6 rfl)) (fun X1 B1 h1 => have k1 : (C.with h1).K = K := hK; ts_none) (fun X1 B1 h1 => have k1 : (C.with h1).K = K := hK; (b_callP (C := C) B1 c_law_result rfl q_law_telling_9 (a_cons (b_var B1 q_law_telling_7) (a_cons (b_var B1 q_law_telling_8) a_nil rfl) rfl) rfl rfl))) (sw_falseL B q_law_telling_4)) (s_one (s_expr (s_meth PySem.F.plainAttrs_list PySem.F.slot_list_append PySem.F.type_list_append mz_append (b_var B q_law_telling_11) (a_cons (b_callB B (c_max B.calm) q_law_telling_17 m.b_max rfl (a_cons (b_lc B hK false (b := sc_law_telling_2) (own := [("_law_one", 6)]) q_law_telling_13 (i_val (B.eK hK) (b_var B q_law_telling_12)) (fun X2 B2 h2 => have k2 : (C.with h2).K = K := hK; (b_name B2 q_law_telling_14 rfl)) (fun X2 B2 h2 => have k2 : (C.with h2).K = K := hK; ts_none) (fun X2 B2 h2 => have k2 : (C.with h2).K = K := hK; (s_meth PySem.F.plainAttrs_list PySem.F.slot_list_count PySem.F.type_list_count (mz_count (B2.eK k2) B2.u64) (b_var B2 q_law_telling_15) (a_cons (b_var B2 q_law_telling_16) a_nil rfl)))) a_nil rfl) rfl rfl) a_nil rfl)) rfl)))) (ss_frzV 2 (s_one (s_ret (s_tup (a_cons (s_meth PySem.F.plainAttrs_list PySem.F.slot_list_index PySem.F.type_list_index (mz_index (B.eK hK)) (b_var B q_law_telling_11) (a_cons (b_callB B (c_min B.calm) q_law_telling_18 m.b_min rfl (a_cons (b_var B q_law_telling_11) a_nil rfl) rfl rfl) a_nil rfl)) (a_cons (b_callB B (c_min B.calm) q_law_telling_18 m.b_min rfl (a_cons (b_var B q_law_telling_11) a_nil rfl) rfl rfl) a_nil rfl) rfl)))))))
theorem fnz_law_telling {fa : Addr} {fd : FuncData} (hK : C.K = K) (m : Md w K mg) (hsy : ∃ o, base.get? sysModules = some o) (F : FunD K "_law_telling" "_law_telling" (defArgs s_law_telling) (defBody s_law_telling) sc_law_telling [] [] fa fd) : FnG P w K mg base CX0 5 fa fd ["_law_sequences", "_law_nests"] (SpZ C 2 (runD N_law_telling.length E_law_telling)) :=
  def_z (b := E_law_telling) F S_law_telling rfl (fun cdv A outer s H E hid hr hg => by
    have c_law_result := cal_law_result (P := P) (w := w) (K := K) (mg := mg) (base := base) (C := C.with hid) hK m hsy
    exact body_law_telling (C := C.with hid) hK m hsy c_law_result ⟨rfl, rfl, rfl, rfl, rfl, rfl, rfl, rfl, S_law_telling.nd, rfl, hr, hg, rfl⟩ (passes_of rfl))
theorem cal_law_telling (hK : C.K = K) (m : Md w K mg) (hsy : ∃ o, base.get? sysModules = some o) : CalG P w K mg base C "_law_telling" 5 2 D_law_telling [] := by
  obtain ⟨fa, fd, F, gm⟩ := m.f_law_telling
  rw [e_law_telling] at F
  have hz : FnG P w K mg base CX0 5 fa fd ["_law_sequences", "_law_nests"] (SpZ C 2 (runD N_law_telling.length E_law_telling)) := fnz_law_telling hK m hsy F
  exact ⟨fa, fd, ["_law_sequences", "_law_nests"], [], [], hz, gm, F.kp, F.bindsN (fun _ _ _ _ _ _ us hl => match us, hl with | [_, _], _ => rfl), .nil, fun _ _ _ => .nil⟩
theorem body_explaining {X : Cx} {W : WX} (hK : C.K = K) (m : Md w K mg) (hsy : ∃ o, base.get? sysModules = some o) (c_require_sequences : CalG P w K mg base C "require_sequences" 7 1 D_require_sequences []) (c_require_nest : CalG P w K mg base C "require_nest" 5 1 D_require_nest []) (c_outcome : CalG P w K mg base C "outcome" 3 2 D_outcome []) (B : Bd P w K mg base J_explaining 7 X) (hp : PassesOwn (model X.prog X.w) X.A X.env X.xe) : PSs X (defBody s_explaining) (TSz C W E_explaining) :=
  s_cons (s_expr (b_callP (C := C) B c_require_sequences rfl q_explaining_1 (a_cons (b_var B q_explaining_0) a_nil rfl) rfl rfl) rfl) (s_cons (b_for (ws := [2, 3]) B [2, 3] hp (i_val (B.eK hK) (b_var B q_explaining_2)) (g_tup (B.eK hK) B.calm (gs_cons (b_name B q_explaining_4 rfl) (gs_cons (b_name B q_explaining_3 rfl) gs_nil rfl) rfl) rfl (gsCons_len (gsCons_len gsNil_len))) (s_cons (s_expr (b_callP (C := C) B c_require_nest rfl q_explaining_6 (a_cons (b_var B q_explaining_5) a_nil rfl) rfl rfl) rfl) (s_one (s_if (t_cmp b_isN z_isN (b_var B q_explaining_7) (s_c pe_non fun _ _ => .non) rfl) (s_one (s_expr (b_callP (C := C) B c_require_nest rfl q_explaining_6 (a_cons (b_var B q_explaining_7) a_nil rfl) rfl rfl) rfl)) s_nil)))) (s_cons (b_asg B q_explaining_8 (s_lst true a_nil) rfl) (s_cons (b_for (ws := [5, 6]) B [5, 6] hp (i_enum (B.eK hK) (B.gl q_explaining_9) (B.nx m.b_enumerate) (a_cons (b_var B q_explaining_0) a_nil rfl) rfl) (g_tup (B.eK hK) B.calm (gs_cons (b_name B q_explaining_11 rfl) (gs_cons (b_name B q_explaining_10 rfl) gs_nil rfl) rfl) rfl (gsCons_len (gsCons_len gsNil_len))) (s_one (s_if (t_tst (B.eK hK) (b_callB B (c_all B.calm) q_explaining_19 m.b_all rfl (a_cons (b_lc B hK false (b := sc_explaining_1) (own := [("before", 2), ("after", 3)]) q_explaining_12 (i_val (B.eK hK) (b_var B q_explaining_2)) (fun X1 B1 h1 => have k1 : (C.with h1).K = K := hK; (g_tup (B1.eK k1) B1.calm (gs_cons (b_name B1 q_explaining_14 rfl) (gs_cons (b_name B1 q_explaining_13 rfl) gs_nil rfl) rfl) rfl (gsCons_len (gsCons_len gsNil_len)))) (fun X1 B1 h1 => have k1 : (C.with h1).K = K := hK; ts_none) (fun X1 B1 h1 => have k1 : (C.with h1).K = K := hK; (s_cmp (z_eq (B1.eK k1) B1.u64) (b_callP (C := C) B1 c_outcome rfl q_explaining_17 (a_cons (b_var B1 q_explaining_15) (a_cons (b_var B1 q_explaining_16) a_nil rfl) rfl) rfl rfl) (b_var B1 q_explaining_18) rfl))) a_nil rfl) rfl rfl) (fun _ => rfl)) (s_one (s_expr (s_meth PySem.F.plainAttrs_list PySem.F.slot_list_append PySem.F.type_list_append mz_append (b_var B q_explaining_20) (a_cons (b_var B q_explaining_21) a_nil rfl)) rfl)) s_nil))) (s_one (s_ret (s_frz (b_var B q_explaining_20)))))))
theorem fnz_explaining {fa : Addr} {fd : FuncData} (hK : C.K = K) (m : Md w K mg) (hsy : ∃ o, base.get? sysModules = some o) (F : FunD K "explaining" "explaining" (defArgs s_explaining) (defBody s_explaining) sc_explaining [] [] fa fd) : FnG P w K mg base CX0 8 fa fd ["sequences", "observations"] (SpZ C 2 (runD N_explaining.length E_explaining)) :=
  def_z (b := E_explaining) F S_explaining rfl (fun cdv A outer s H E hid hr hg => by
    have c_require_sequences := cal_require_sequences (P := P) (w := w) (K := K) (mg := mg) (base := base) (C := C.with hid) hK m hsy
    have c_require_nest := cal_require_nest (P := P) (w := w) (K := K) (mg := mg) (base := base) (C := C.with hid) hK m hsy
    have c_outcome := cal_outcome (P := P) (w := w) (K := K) (mg := mg) (base := base) (C := C.with hid) hK m hsy
    exact body_explaining (C := C.with hid) hK m hsy c_require_sequences c_require_nest c_outcome ⟨rfl, rfl, rfl, rfl, rfl, rfl, rfl, rfl, S_explaining.nd, rfl, hr, hg, rfl⟩ (passes_of rfl))
theorem cal_explaining (hK : C.K = K) (m : Md w K mg) (hsy : ∃ o, base.get? sysModules = some o) : CalG P w K mg base C "explaining" 8 2 D_explaining [] := by
  obtain ⟨fa, fd, F, gm⟩ := m.f_explaining
  rw [e_explaining] at F
  have hz : FnG P w K mg base CX0 8 fa fd ["sequences", "observations"] (SpZ C 2 (runD N_explaining.length E_explaining)) := fnz_explaining hK m hsy F
  exact ⟨fa, fd, ["sequences", "observations"], [], [], hz, gm, F.kp, F.bindsN (fun _ _ _ _ _ _ us hl => match us, hl with | [_, _], _ => rfl), .nil, fun _ _ _ => .nil⟩
theorem body_law {X : Cx} {W : WX} (hK : C.K = K) (m : Md w K mg) (hsy : ∃ o, base.get? sysModules = some o) (c_law_numbers : CalG P w K mg base C "_law_numbers" 1 3 D_law_numbers []) (c_law_sequence : CalG P w K mg base C "_law_sequence" 2 2 D_law_sequence []) (c_law_nest : CalG P w K mg base C "_law_nest" 1 2 D_law_nest []) (c_law_result : CalG P w K mg base C "_law_result" 4 2 D_law_result []) (c_explaining_c : CalG P w K mg base C "explaining" 8 2 D_explaining_c []) (c_law_explaining : CalG P w K mg base C "_law_explaining" 5 2 D_law_explaining []) (c_telling : CalG P w K mg base C "telling" 8 2 D_telling []) (c_law_telling : CalG P w K mg base C "_law_telling" 5 2 D_law_telling []) (c_explaining : CalG P w K mg base C "explaining" 8 2 D_explaining []) (B : Bd P w K mg base J_law 8 X) (hp : PassesOwn (model X.prog X.w) X.A X.env X.xe) : PSs X (defBody s_law) (TSz C W E_law) :=
  s_cons (b_for (ws := [1, 2]) B [1, 2, 3, 4, 5, 6, 7, 8, 9, 10, 11, 12, 13, 14] hp (i_enum (B.eK hK) (B.gl q_law_2) (B.nx m.b_enumerate) (a_cons (s_bin (z_add (B.eK hK) false) (s_sl (B.eK hK) false (b_var B q_law_0) o_none (o_some (s_c pe_int fun _ _ => .int _))) (s_bin (z_mul false) (s_lst false (a_cons (s_c pe_int fun _ _ => .int _) a_nil rfl)) (b_callTy B c_int q_law_1 m.b_int rfl (a_cons (s_cmp (z_eq (B.eK hK) B.u64) (b_var B q_law_0) (s_lst false a_nil) rfl) a_nil rfl) rfl rfl))) a_nil rfl) rfl) (g_tup (B.eK hK) B.calm (gs_cons (b_name B q_law_4 rfl) (gs_cons (b_name B q_law_3 rfl) gs_nil rfl) rfl) rfl (gsCons_len (gsCons_len gsNil_len))) (s_cons (b_asg B q_law_8 (b_callP (C := C) B c_law_numbers rfl q_law_7 (a_cons (b_var B q_law_5) (a_cons (s_bin (z_add (B.eK hK) false) (s_c pe_int fun _ _ => .int _) (b_var B q_law_6)) (a_cons (s_bin (z_mul false) (s_lst false (a_cons (s_c pe_int fun _ _ => .int _) a_nil rfl)) (s_c pe_int fun _ _ => .int _)) a_nil rfl) rfl) rfl) rfl rfl) rfl) (s_cons (b_setLc B hK false (b := sc_law_1) (own := [("_law_j", 15)]) q_law_16 q_law_17 rfl q_law_11 (i_range1 (B.gl q_law_10) (B.nx m.b_range) (a_cons (s_bin z_mod (s_ix (B.eK hK) B.u1 (b_var B q_law_9) (s_c pe_int fun _ _ => .int _) (fun _ _ => rfl)) (s_c pe_int fun _ _ => .int _)) a_nil rfl) rfl) (fun X1 B1 h1 => have k1 : (C.with h1).K = K := hK; (b_name B1 q_law_12 rfl)) (fun X1 B1 h1 => have k1 : (C.with h1).K = K := hK; ts_none) (fun X1 B1 h1 => have k1 : (C.with h1).K = K := hK; (b_callP (C := C) B1 c_law_sequence rfl q_law_15 (a_cons (s_sl (B1.eK k1) false (b_var B1 q_law_13) (o_some (s_bin (z_add (B1.eK k1) false) (s_bin (z_mul false) (s_c pe_int fun _ _ => .int _) (b_var B1 q_law_14)) (s_c pe_int fun _ _ => .int _))) o_none) (a_cons (s_bin z_mod (s_ix (B1.eK k1) B1.u1 (b_var B1 q_law_13) (s_bin (z_mul false) (s_c pe_int fun _ _ => .int _) (b_var B1 q_law_14)) (fun _ _ => rfl)) (s_c pe_int fun _ _ => .int _)) a_nil rfl) rfl) rfl rfl))) (s_cons (b_setLc B hK false (b := sc_law_2) (own := [("_law_j", 15)]) q_law_23 q_law_24 rfl q_law_18 (i_range1 (B.gl q_law_10) (B.nx m.b_range) (a_cons (s_bin z_mod (s_ix (B.eK hK) B.u1 (b_var B q_law_9) (s_c pe_int fun _ _ => .int _) (fun _ _ => rfl)) (s_c pe_int fun _ _ => .int _)) a_nil rfl) rfl) (fun X2 B2 h2 => have k2 : (C.with h2).K = K := hK; (b_name B2 q_law_19 rfl)) (fun X2 B2 h2 => have k2 : (C.with h2).K = K := hK; ts_none) (fun X2 B2 h2 => have k2 : (C.with h2).K = K := hK; (b_callP (C := C) B2 c_law_nest rfl q_law_22 (a_cons (s_sl (B2.eK k2) false (b_var B2 q_law_20) (o_some (s_bin (z_add (B2.eK k2) false) (s_c pe_int fun _ _ => .int _) (s_bin (z_mul false) (s_c pe_int fun _ _ => .int _) (b_var B2 q_law_21)))) o_none) (a_cons (s_c pe_int fun _ _ => .int _) a_nil rfl) rfl) rfl rfl))) (s_cons (b_asg B q_law_27 (s_ix (B.eK hK) B.u1 (s_bin (z_add (B.eK hK) false) (b_var B q_law_25) (s_lst false (a_cons (s_lst false a_nil) a_nil rfl))) (s_bin z_mod (s_ix (B.eK hK) B.u1 (b_var B q_law_9) (s_c pe_int fun _ _ => .int _) (fun _ _ => rfl)) (s_bin (z_add (B.eK hK) false) (b_callB B (c_len (B.eK hK)) q_law_26 m.b_len rfl (a_cons (b_var B q_law_25) a_nil rfl) rfl rfl) (s_c pe_int fun _ _ => .int _))) (fun _ _ => rfl)) rfl) (s_cons (b_setLc B hK false (b := sc_law_3) (own := [("_law_nest_here", 16)]) q_law_34 q_law_35 rfl q_law_29 (i_val (B.eK hK) (b_var B q_law_28)) (fun X3 B3 h3 => have k3 : (C.with h3).K = K := hK; (b_name B3 q_law_30 rfl)) (fun X3 B3 h3 => have k3 : (C.with h3).K = K := hK; ts_none) (fun X3 B3 h3 => have k3 : (C.with h3).K = K := hK; (s_tup (a_cons (b_var B3 q_law_31) (a_cons (b_callP (C := C) B3 c_law_result rfl q_law_33 (a_cons (b_var B3 q_law_31) (a_cons (b_var B3 q_law_32) a_nil rfl) rfl) rfl rfl) a_nil rfl) rfl)))) (s_cons (b_asg B q_law_38 (s_bin (z_add (B.eK hK) false) (b_var B q_law_36) (s_lst false (a_cons (s_tup (a_cons (b_callP (C := C) B c_law_nest rfl q_law_37 (a_cons (s_sl (B.eK hK) false (b_var B q_law_9) (o_some (s_c pe_int fun _ _ => .int _)) o_none) (a_cons (s_c pe_int fun _ _ => .int _) a_nil rfl) rfl) rfl rfl) (a_cons (s_ix (B.eK hK) B.u1 (s_lst false (a_cons (s_c pe_non fun _ _ => .non) (a_cons (s_lst false a_nil) (a_cons (s_lst false (a_cons (s_dct false (p_cons (fun h4 => have kh4 : (C.with h4).K = K := hK; (s_c pe_str fun _ _ => .str _)) (fun h4 => have kh4 : (C.with h4).K = K := hK; (s_c pe_str fun _ _ => .str _)) p_nil) rfl rfl (by simp) (by decide)) a_nil rfl)) a_nil rfl) rfl) rfl)) (s_bin z_mod (s_ix (B.eK hK) B.u1 (b_var B q_law_9) (s_c pe_int fun _ _ => .int _) (fun _ _ => rfl)) (s_c pe_int fun _ _ => .int _)) (fun _ _ => rfl)) a_nil rfl) rfl)) a_nil rfl))) rfl) (s_cons (b_asg B q_law_41 (b_callB B (c_repr (B.eK hK) (B.sys hsy) B.gu B.u64) q_law_40 m.b_repr rfl (a_cons (s_lst false (a_cons (b_var B q_law_25) (a_cons (b_var B q_law_28) (a_cons (b_var B q_law_36) (a_cons (b_var B q_law_39) a_nil rfl) rfl) rfl) rfl)) a_nil rfl) rfl rfl) rfl) (s_cons (b_for (ws := [10]) B [10, 11, 12, 13] hp (i_val (B.eK hK) (s_lst false (a_cons (b_var B q_law_36) (a_cons (b_var B q_law_39) (a_cons (s_lst false a_nil) (a_cons (s_sl (B.eK hK) false (b_var B q_law_36) o_none (o_some (s_c pe_int fun _ _ => .int _))) (a_cons (s_rev (B.eK hK) false (b_var B q_law_39)) a_nil rfl) rfl) rfl) rfl) rfl))) (b_name B q_law_42 rfl) (s_one (b_for (ws := [11]) B [11, 12, 13] hp (i_range1 (B.gl q_law_10) (B.nx m.b_range) (a_cons (s_c pe_int fun _ _ => .int _) a_nil rfl) rfl) (b_name B q_law_43 rfl) (s_cons (b_setLc B hK false (b := sc_law_4) (own := [("_law_at", 17), ("_law_steps", 18)]) q_law_51 q_law_52 rfl q_law_44 (i_enum (B.eK hK) (B.gl q_law_2) (B.nx m.b_enumerate) (a_cons (b_var B q_law_25) a_nil rfl) rfl) (fun X5 B5 h5 => have k5 : (C.with h5).K = K := hK; (g_tup (B5.eK k5) B5.calm (gs_cons (b_name B5 q_law_46 rfl) (gs_cons (b_name B5 q_law_45 rfl) gs_nil rfl) rfl) rfl (gsCons_len (gsCons_len gsNil_len)))) (fun X5 B5 h5 => have k5 : (C.with h5).K = K := hK; ts_none) (fun X5 B5 h5 => have k5 : (C.with h5).K = K := hK; (s_ix (B5.eK k5) B5.u1 (s_lst false (a_cons (b_var B5 q_law_47) (a_cons (b_callTy B5 (c_tuple (B5.eK k5)) q_law_48 m.b_tuple rfl (a_cons (b_var B5 q_law_47) a_nil rfl) rfl rfl) a_nil rfl) rfl)) (s_bin z_mod (s_bin (z_add (B5.eK k5) false) (b_var B5 q_law_49) (b_var B5 q_law_50)) (s_c pe_int fun _ _ => .int _)) (fun _ _ => rfl)))) (s_cons (b_asg B q_law_56 (b_callN (C := C) B c_explaining_c rfl q_law_55 (a_cons (b_var B q_law_53) (a_cons (b_var B q_law_54) a_nil rfl) rfl) rfl rfl) rfl) (s_cons (s_if (t_cmp b_ne (z_ne (B.eK hK) B.u64) (b_callB B (c_repr (B.eK hK) (B.sys hsy) B.gu B.u64) q_law_40 m.b_repr rfl (a_cons (b_var B q_law_57) a_nil rfl) rfl rfl) (b_callB B (c_repr (B.eK hK) (B.sys hsy) B.gu B.u64) q_law_40 m.b_repr rfl (a_cons (b_callP (C := C) B c_law_explaining rfl q_law_58 (a_cons (b_var B q_law_25) (a_cons (b_var B q_law_54) a_nil rfl) rfl) rfl rfl) a_nil rfl) rfl rfl) rfl) (s_one (s_ret (s_c pe_bl fun _ _ => .bl _))) s_nil) (s_one (s_expr (s_meth PySem.F.plainAttrs_list PySem.F.slot_list_append PySem.F.type_list_append mz_append (b_var B q_law_57) (a_cons (s_c pe_non fun _ _ => .non) a_nil rfl)) rfl)))))))) (s_cons (b_for (ws := [14]) B [14] hp (i_val (B.eK hK) (s_lst false (a_cons (b_var B q_law_28) (a_cons (s_rev (B.eK hK) false (b_var B q_law_28)) (a_cons (s_sl (B.eK hK) false (b_var B q_law_28) o_none (o_some (s_c pe_int fun _ _ => .int _))) (a_cons (s_lst false a_nil) a_nil rfl) rfl) rfl) rfl))) (b_name B q_law_59 rfl) (s_one (s_if (t_cmp b_ne (z_ne (B.eK hK) B.u64) (b_callP (C := C) B c_telling rfl q_law_61 (a_cons (b_var B q_law_25) (a_cons (b_var B q_law_60) a_nil rfl) rfl) rfl rfl) (b_callP (C := C) B c_law_telling rfl q_law_62 (a_cons (b_var B q_law_25) (a_cons (b_var B q_law_60) a_nil rfl) rfl) rfl rfl) rfl) (s_one (s_ret (s_c pe_bl fun _ _ => .bl _))) s_nil))) (s_cons (s_if (PW.pt (t_or (t_cmp b_ne (z_ne (B.eK hK) B.u64) (b_callP (C := C) B c_telling rfl q_law_61 (a_cons (s_lst false a_nil) (a_cons (b_var B q_law_28) a_nil rfl) rfl) rfl rfl) (s_tup (a_cons (s_c pe_non fun _ _ => .non) (a_cons (s_c pe_int fun _ _ => .int _) a_nil rfl) rfl)) rfl) (pw_or1 (t_cmp b_ne (z_ne (B.eK hK) B.u64) (b_callP (C := C) B c_telling rfl q_law_61 (a_cons (s_sl (B.eK hK) false (b_var B q_law_25) o_none (o_some (s_c pe_int fun _ _ => .int _))) (a_cons (b_var B q_law_28) a_nil rfl) rfl) rfl rfl) (b_callP (C := C) B c_law_telling rfl q_law_62 (a_cons (s_sl (B.eK hK) false (b_var B q_law_25) o_none (o_some (s_c pe_int fun _ _ => .int _))) (a_cons (b_var B q_law_28) a_nil rfl) rfl) rfl rfl) rfl)))) (s_one (s_ret (s_c pe_bl fun _ _ => .bl _))) s_nil) (s_one (s_if (PW.pt (t_or (t_cmp b_ne (z_ne (B.eK hK) B.u64) (b_callP (C := C) B c_explaining rfl q_law_55 (a_cons (s_lst false a_nil) (a_cons (b_var B q_law_36) a_nil rfl) rfl) rfl rfl) (s_lst false a_nil) rfl) (pw_or1 (t_cmp b_ne (z_ne (B.eK hK) B.u64) (b_callB B (c_repr (B.eK hK) (B.sys hsy) B.gu B.u64) q_law_40 m.b_repr rfl (a_cons (s_lst false (a_cons (b_var B q_law_25) (a_cons (b_var B q_law_28) (a_cons (b_var B q_law_36) (a_cons (b_var B q_law_39) a_nil rfl) rfl) rfl) rfl)) a_nil rfl) rfl rfl) (b_var B q_law_63) rfl)))) (s_one (s_ret (s_c pe_bl fun _ _ => .bl _))) s_nil))))))))))))) (s_one (s_ret (s_c pe_bl fun _ _ => .bl _)))
theorem fnz_law {fa : Addr} {fd : FuncData} (hK : C.K = K) (m : Md w K mg) (hsy : ∃ o, base.get? sysModules = some o) (F : FunD K "law" "law" (defArgs s_law) (defBody s_law) sc_law [] [] fa fd) : FnG P w K mg base CX0 9 fa fd ["_law_script"] (SpZ C 1 (runD N_law.length E_law)) :=
  def_z (b := E_law) F S_law rfl (fun cdv A outer s H E hid hr hg => by
    have c_law_numbers := cal_law_numbers (P := P) (w := w) (K := K) (mg := mg) (base := base) (C := C.with hid) hK m hsy
    have c_law_sequence := cal_law_sequence (P := P) (w := w) (K := K) (mg := mg) (base := base) (C := C.with hid) hK m hsy
    have c_law_nest := cal_law_nest (P := P) (w := w) (K := K) (mg := mg) (base := base) (C := C.with hid) hK m hsy
    have c_law_result := cal_law_result (P := P) (w := w) (K := K) (mg := mg) (base := base) (C := C.with hid) hK m hsy
    have c_explaining_c := cal_explaining_c (P := P) (w := w) (K := K) (mg := mg) (base := base) (C := C.with hid) hK m hsy
    have c_law_explaining := cal_law_explaining (P := P) (w := w) (K := K) (mg := mg) (base := base) (C := C.with hid) hK m hsy
    have c_telling := cal_telling (P := P) (w := w) (K := K) (mg := mg) (base := base) (C := C.with hid) hK m hsy
    have c_law_telling := cal_law_telling (P := P) (w := w) (K := K) (mg := mg) (base := base) (C := C.with hid) hK m hsy
    have c_explaining := cal_explaining (P := P) (w := w) (K := K) (mg := mg) (base := base) (C := C.with hid) hK m hsy
    exact body_law (C := C.with hid) hK m hsy c_law_numbers c_law_sequence c_law_nest c_law_result c_explaining_c c_law_explaining c_telling c_law_telling c_explaining ⟨rfl, rfl, rfl, rfl, rfl, rfl, rfl, rfl, S_law.nd, rfl, hr, hg, rfl⟩ (passes_of rfl))
theorem cal_law (hK : C.K = K) (m : Md w K mg) (hsy : ∃ o, base.get? sysModules = some o) : CalG P w K mg base C "law" 9 1 D_law [] := by
  obtain ⟨fa, fd, F, gm⟩ := m.f_law
  rw [e_law] at F
  have hz : FnG P w K mg base CX0 9 fa fd ["_law_script"] (SpZ C 1 (runD N_law.length E_law)) := fnz_law hK m hsy F
  exact ⟨fa, fd, ["_law_script"], [], [], hz, gm, F.kp, F.bindsN (fun _ _ _ _ _ _ us hl => match us, hl with | [_], _ => rfl), .nil, fun _ _ _ => .nil⟩
end
end G
end
section
set_option Elab.async false
set_option linter.all false
set_option maxRecDepth 100000
set_option maxHeartbeats 0
/-! the head -/
namespace G
open PySem PySem.Spec PyProof.Rows L2 Z PySem.SeqAt
def DD (x : Str) (st : Stmt) : He.DefD := ⟨(x, none), x, x, defArgs st, defBody st, defScope st, [], []⟩
def fn : List He.DefD := [DD "_law_numbers" s_law_numbers, DD "_law_step" s_law_step, DD "_law_sequence" s_law_sequence, DD "_law_nest" s_law_nest, DD "_law_visible" s_law_visible, DD "_law_after" s_law_after, DD "_law_run" s_law_run, DD "_law_result" s_law_result, DD "is_text_of" s_is_text_of, DD "is_name" s_is_name, DD "is_value" s_is_value, DD "is_part" s_is_part, DD "is_step" s_is_step, DD "first_invalid" s_first_invalid, DD "require_sequence" s_require_sequence, DD "require_sequences" s_require_sequences, DD "is_scope" s_is_scope, DD "is_nest" s_is_nest, DD "require_nest" s_require_nest, DD "visible_of" s_visible_of, DD "wanted_value" s_wanted_value, DD "own_of" s_own_of, DD "after_step" s_after_step, DD "outcome" s_outcome, DD "explaining" s_explaining, DD "_law_explaining" s_law_explaining, DD "largest_group" s_largest_group, DD "telling" s_telling, DD "_law_telling" s_law_telling, DD "law" s_law]
def fa : List He.Fa := [.str "DIGITS" "0123456789", .str "LETTERS" "abcdefghijklmnopqrstuvwxyz", .int "MAX_LENGTH" 8, .glo "SHAPES", .free "all", .free "dict", .free "enumerate", .free "int", .free "isinstance", .free "len", .free "list", .free "max", .free "min", .free "range", .free "repr", .free "sorted", .free "str", .free "tuple", .free "zip", .glo "_law_numbers", .glo "_law_step", .glo "_law_sequence", .glo "_law_nest", .glo "_law_visible", .glo "_law_after", .glo "_law_run", .glo "_law_result", .glo "is_text_of", .glo "is_name", .glo "is_value", .glo "is_part", .glo "is_step", .glo "first_invalid", .glo "require_sequence", .glo "require_sequences", .glo "is_scope", .glo "is_nest", .glo "require_nest", .glo "visible_of", .glo "wanted_value", .glo "own_of", .glo "after_step", .glo "outcome", .glo "explaining", .glo "_law_explaining", .glo "largest_group", .glo "telling", .glo "_law_telling", .glo "law"]
def tabs : List TabS := [("SHAPES", T_SHAPES)]
abbrev R : PySem.W.OpenRow := PySem.W.OpenLaw.row PySem.Challenge.rw_scopeeffect_k60_observations_explained
abbrev hk : PySem.W.Hook := hookZ 4 fa fn tabs
def ob (s : PySem.W.SharedT) : AlZ := obsZ 4 fa fn tabs (HandSHeadRun.getT s)
theorem ob_eq (s : PySem.W.SharedT) : ob s = hk.obs s.abs := obsZ_eq (HandSHeadRun.getT_eq s)
def names0 : List PySem.Str := ["ScopeError", "InvalidNest", "InvalidSequence", "LETTERS", "DIGITS", "MAX_LENGTH", "is_text_of", "is_name", "is_value", "is_scope", "is_nest", "require_nest", "own_of", "visible_of", "SHAPES", "is_part", "is_step", "first_invalid", "require_sequence", "wanted_value"]
def names1 : List PySem.Str := ["after_step", "outcome", "require_sequences", "explaining", "largest_group", "telling", "_law_numbers", "_law_nest", "_law_step", "_law_sequence", "_law_visible", "_law_after", "_law_run", "_law_result", "_law_explaining", "_law_telling"]
abbrev names : List PySem.Str := names0 ++ names1
theorem run (w : World) : HandSHeadRun.RunEq R (PySem.W.view R.prog [41]) hk ob 6000 names w :=
  PySem.W.byRow2 "special-get-raises" (P := fun w => HandSHeadRun.RunEq R (PySem.W.view R.prog [41]) hk ob 6000 names w) (fun w => by
    intro os
    kernel_rfl) (fun w => by
    intro os
    kernel_rfl) w
theorem md_of {w : World} {K : PySem.W.Frag} {h : Heap} {mg : Str → Option Value} (M : ModK fa fn tabs w K) (X : K.In h) (G : h.Ns mainGlobals mg) : Md w K mg :=
  have c := M.says.d
  ⟨(let ⟨t, e⟩ := He.str_ok X G (c.fact 0 rfl); ⟨_, e, t, rfl⟩), (let ⟨t, e⟩ := He.str_ok X G (c.fact 1 rfl); ⟨_, e, t, rfl⟩), (let ⟨t, e⟩ := He.int_ok X G (c.fact 2 rfl); ⟨_, e, t, rfl⟩), M.tab 0 rfl, He.glo_ok X G (c.fact 3 rfl), He.free_ok X G (c.fact 4 rfl), He.free_ok X G (c.fact 5 rfl), He.free_ok X G (c.fact 6 rfl), He.free_ok X G (c.fact 7 rfl), He.free_ok X G (c.fact 8 rfl), He.free_ok X G (c.fact 9 rfl), He.free_ok X G (c.fact 10 rfl), He.free_ok X G (c.fact 11 rfl), He.free_ok X G (c.fact 12 rfl), He.free_ok X G (c.fact 13 rfl), He.free_ok X G (c.fact 14 rfl), He.free_ok X G (c.fact 15 rfl), He.free_ok X G (c.fact 16 rfl), He.free_ok X G (c.fact 17 rfl), He.free_ok X G (c.fact 18 rfl), (let ⟨fd, F⟩ := c.def_ 0 rfl; ⟨_, fd, F, He.glo_ok X G (c.fact 19 rfl)⟩), (let ⟨fd, F⟩ := c.def_ 1 rfl; ⟨_, fd, F, He.glo_ok X G (c.fact 20 rfl)⟩), (let ⟨fd, F⟩ := c.def_ 2 rfl; ⟨_, fd, F, He.glo_ok X G (c.fact 21 rfl)⟩), (let ⟨fd, F⟩ := c.def_ 3 rfl; ⟨_, fd, F, He.glo_ok X G (c.fact 22 rfl)⟩), (let ⟨fd, F⟩ := c.def_ 4 rfl; ⟨_, fd, F, He.glo_ok X G (c.fact 23 rfl)⟩), (let ⟨fd, F⟩ := c.def_ 5 rfl; ⟨_, fd, F, He.glo_ok X G (c.fact 24 rfl)⟩), (let ⟨fd, F⟩ := c.def_ 6 rfl; ⟨_, fd, F, He.glo_ok X G (c.fact 25 rfl)⟩), (let ⟨fd, F⟩ := c.def_ 7 rfl; ⟨_, fd, F, He.glo_ok X G (c.fact 26 rfl)⟩), (let ⟨fd, F⟩ := c.def_ 8 rfl; ⟨_, fd, F, He.glo_ok X G (c.fact 27 rfl)⟩), (let ⟨fd, F⟩ := c.def_ 9 rfl; ⟨_, fd, F, He.glo_ok X G (c.fact 28 rfl)⟩), (let ⟨fd, F⟩ := c.def_ 10 rfl; ⟨_, fd, F, He.glo_ok X G (c.fact 29 rfl)⟩), (let ⟨fd, F⟩ := c.def_ 11 rfl; ⟨_, fd, F, He.glo_ok X G (c.fact 30 rfl)⟩), (let ⟨fd, F⟩ := c.def_ 12 rfl; ⟨_, fd, F, He.glo_ok X G (c.fact 31 rfl)⟩), (let ⟨fd, F⟩ := c.def_ 13 rfl; ⟨_, fd, F, He.glo_ok X G (c.fact 32 rfl)⟩), (let ⟨fd, F⟩ := c.def_ 14 rfl; ⟨_, fd, F, He.glo_ok X G (c.fact 33 rfl)⟩), (let ⟨fd, F⟩ := c.def_ 15 rfl; ⟨_, fd, F, He.glo_ok X G (c.fact 34 rfl)⟩), (let ⟨fd, F⟩ := c.def_ 16 rfl; ⟨_, fd, F, He.glo_ok X G (c.fact 35 rfl)⟩), (let ⟨fd, F⟩ := c.def_ 17 rfl; ⟨_, fd, F, He.glo_ok X G (c.fact 36 rfl)⟩), (let ⟨fd, F⟩ := c.def_ 18 rfl; ⟨_, fd, F, He.glo_ok X G (c.fact 37 rfl)⟩), (let ⟨fd, F⟩ := c.def_ 19 rfl; ⟨_, fd, F, He.glo_ok X G (c.fact 38 rfl)⟩), (let ⟨fd, F⟩ := c.def_ 20 rfl; ⟨_, fd, F, He.glo_ok X G (c.fact 39 rfl)⟩), (let ⟨fd, F⟩ := c.def_ 21 rfl; ⟨_, fd, F, He.glo_ok X G (c.fact 40 rfl)⟩), (let ⟨fd, F⟩ := c.def_ 22 rfl; ⟨_, fd, F, He.glo_ok X G (c.fact 41 rfl)⟩), (let ⟨fd, F⟩ := c.def_ 23 rfl; ⟨_, fd, F, He.glo_ok X G (c.fact 42 rfl)⟩), (let ⟨fd, F⟩ := c.def_ 24 rfl; ⟨_, fd, F, He.glo_ok X G (c.fact 43 rfl)⟩), (let ⟨fd, F⟩ := c.def_ 25 rfl; ⟨_, fd, F, He.glo_ok X G (c.fact 44 rfl)⟩), (let ⟨fd, F⟩ := c.def_ 26 rfl; ⟨_, fd, F, He.glo_ok X G (c.fact 45 rfl)⟩), (let ⟨fd, F⟩ := c.def_ 27 rfl; ⟨_, fd, F, He.glo_ok X G (c.fact 46 rfl)⟩), (let ⟨fd, F⟩ := c.def_ 28 rfl; ⟨_, fd, F, He.glo_ok X G (c.fact 47 rfl)⟩), (let ⟨fd, F⟩ := c.def_ 29 rfl; ⟨_, fd, F, He.glo_ok X G (c.fact 48 rfl)⟩)⟩
end G
end
section
set_option Elab.async false
set_option linter.all false
set_option maxRecDepth 100000
set_option maxHeartbeats 0
/-! the end -/
namespace G
open PySem PySem.Spec PyProof.Rows L2 Z PySem.SeqAt
theorem fin_law {P : Program} {w : World} {K : PySem.W.Frag} {mg : Str → Option Value} {fa : Addr} (m : Md w K mg) (hmg : mg "law" = some (.ref fa)) :
    ∃ (fd : FuncData) (sp : Sp), (∀ (s : Shared) (u : Value), BindsTo s fd ⟨[u], []⟩ [("_law_script", u)]) ∧
        (∀ (H : Hp) (a : Addr) (ns : List Int) (od : Obj), ns.length ≤ 63 → H a = some (.frz od (.lst (ns.map V.int))) → sp [.ref a] H (fun v _ => v = .bl true) fun _ _ _ => False) ∧
        ∀ base : Heap, K.In base → base.Ns mainGlobals mg → (∃ o, base.get? sysModules = some o) → FnG P w K mg base CX0 9 fa fd ["_law_script"] sp := by
  obtain ⟨fb, fd, F, gm⟩ := m.f_law
  have e : fb = fa := by
    rw [hmg] at gm
    cases gm; rfl
  subst e
  rw [e_law] at F
  let C : Cfg := ⟨K, He.ga K, fun _ => False⟩
  have b := FunD.bindsA (ps := ["_law_script"]) F fun _ _ _ _ _ _ us hl => match us, hl with | [_], _ => rfl
  refine ⟨fd, SpZ C 1 D_law, fun s v => b s [v] rfl, fun H a ns od hl hH => sp_law C (law_true ns hl) hH, fun base _ _ hsy => ?_⟩
  exact fnz_law (base := base) rfl m hsy F
end G
open PySem PySem.W PySem.Calls PyProof.Rows
theorem PySem.Challenge.cw_scopeeffect_k60_observations_explained_holds : PySem.Challenge.rw_scopeeffect_k60_observations_explained.Holds := by
  w_on; o_law
  refine HandSHeadRun.head_any (r := OpenLaw.row PySem.Challenge.rw_scopeeffect_k60_observations_explained) (q := view (OpenLaw.row PySem.Challenge.rw_scopeeffect_k60_observations_explained).prog [41]) (H := G.hk) (ob := G.ob) (M := 6000) (loose := G.names) (d := HandSHeadRun.topDef (OpenLaw.row PySem.Challenge.rw_scopeeffect_k60_observations_explained).prog 41) (kwd := []) G.ob_eq
    (by kernel_rfl) (fun s => by kernel_rfl) G.run (by kernel_rfl) (by kernel_rfl) (by kernel_rfl) (by rfl) (by first | assumption | decide +kernel) (by decide +kernel) ⟨rfl, rfl, rfl, rfl, rfl, by decide +kernel⟩ ?hw ?hc
  case hw => w_witness2
  case hc =>
    refine Z.walk_ofG (l := PySem.Challenge.rw_scopeeffect_k60_observations_explained) (n := 63) (k := 9) (x := "_law_script") rfl (by decide) (by kernel_rfl) ⟨rfl, by decide, by decide⟩ ?F
    intro w mg fa h K X M Gh hmg0
    have hmg : mg ("law" : PySem.Str) = some (.ref fa) := by
      have e : (HandSHeadRun.topDef (OpenLaw.row PySem.Challenge.rw_scopeeffect_k60_observations_explained).prog 41).name = ("law" : PySem.Str) := by kernel_rfl
      rw [← e]
      exact hmg0
    exact G.fin_law (P := (PySem.Challenge.rw_scopeeffect_k60_observations_explained).prog) (G.md_of M X Gh) hmg
end
