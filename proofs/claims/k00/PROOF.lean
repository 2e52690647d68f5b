import PyProof.Rows.All
import Wide.All
import OpenK.AllK
import Wide.FinOn
import HandS.ForMost
import HandS.Exc
import HandS.ExcOwn
import HandS.ExcInit
import HandS.TupAny
import HandS.Wide
import HandS.Star
import HandS.TryOnly
import HandS.WordsExc
import HandS.Defaults
import KE.KExcSuper
import HandS.ExcIs
import HandS.ExcField
import KE.KExcIs
import HandS.IsInst
import PyProof.ReprRoads
import PyProof.CallFns
import PyProof.RowDictHeap
import HandS.WideBits
import HandS.Deep
import PyProof.AutoIntOps
import HandS.Conv
import HandS.WordsDict
import HandS.TupLen
import HandS.HeadEnd
import HandS.Head2
import HandS.HeadHook2
import PySem.Challenge.RW_factpairs_k00_errors_keep_their_value
set_option Elab.async false
section
set_option linter.all false
set_option maxRecDepth 100000
set_option maxHeartbeats 4000000
namespace PyD
open PySem L2

/-! ### trees of values -/
inductive D where
  | non | bl (b : Bool) | int (i : Int) | str (x : Str)
  | tup (xs : List D) | lst (xs : List D)
  | dk (kvs : List (Key × D)) | dt (kvs : List (List Key × D))
  | ins (c : Str) (fs : List (Str × D))
  | exc (c : Str) (v : D)
  /-- a list that is locked for good: the script -/
  | scr (xs : List D)
  deriving Inhabited

/-- what is known of a class's name: where it stands -/
abbrev Cl := Str → Addr

/-- at a: an exception of the class at C, its dict at d, whatever else it bears -/
def exv (a C d : Addr) : HO := .ext fun h => ∃ (o : Obj) (vs : Array Value), h.get? a = some o ∧ o.cls = .ref C ∧ o.dict = some d ∧ o.data = .fields vs
inductive Rep (cl : Cl) (F : Hp) : D → V → Prop
  | non : Rep cl F .non .non
  | bl {b : Bool} : Rep cl F (.bl b) (.bl b)
  | int {i : Int} : Rep cl F (.int i) (.int i)
  | str {x : Str} : Rep cl F (.str x) (.str x)
  | tup {a : Addr} {xs : List D} {vs : List V} : F a = some (.tup vs) → Paired (Rep cl F) xs vs → Rep cl F (.tup xs) (.ref a)
  | lst {a : Addr} {xs : List D} {vs : List V} : F a = some (.lst vs) → Paired (Rep cl F) xs vs → Rep cl F (.lst xs) (.ref a)
  | dk {a : Addr} {kvs : List (Key × D)} {ks : List (Key × V)} : F a = some (.dK ks) → kvs.map (·.1) = ks.map (·.1) → Paired (Rep cl F) (kvs.map (·.2)) (ks.map (·.2)) → Rep cl F (.dk kvs) (.ref a)
  | dt {a : Addr} {kvs : List (List Key × D)} {ks : List (List Key × V)} : F a = some (.dT ks) → kvs.map (·.1) = ks.map (·.1) → Paired (Rep cl F) (kvs.map (·.2)) (ks.map (·.2)) → Rep cl F (.dt kvs) (.ref a)
  | ins {a dx : Addr} {c : Str} {fs : List (Str × D)} {gs : List (Str × V)} : F a = some (.ins (cl c) dx gs) → fs.map (·.1) = gs.map (·.1) → Paired (Rep cl F) (fs.map (·.2)) (gs.map (·.2)) → Rep cl F (.ins c fs) (.ref a)
  | exc {a d : Addr} {c : Str} {x : D} {v : V} : F a = some (exv a (cl c) d) → F d = some (.xd [("value", v)]) → Rep cl F x v → Rep cl F (.exc c x) (.ref a)
  | scr {a : Addr} {ob : Obj} {xs : List D} {vs : List V} : F a = some (.frz ob (.lst vs)) → Paired (Rep cl F) xs vs → Rep cl F (.scr xs) (.ref a)
abbrev RepL (cl : Cl) (F : Hp) : List D → List V → Prop := Paired (Rep cl F)

theorem Paired.impMem {α β : Type} {F G : α → β → Prop} : ∀ {l₁ : List α} {l₂ : List β}, Paired F l₁ l₂ → (∀ a, a ∈ l₁ → ∀ b, F a b → G a b) → Paired G l₁ l₂
  | _, _, .nil, _ => .nil
  | _, _, .cons r t, f => .cons (f _ List.mem_cons_self _ r) (Paired.impMem t fun a ha b => f a (List.mem_cons_of_mem _ ha) b)

abbrev Sub (F F' : Hp) : Prop := ∀ a o, F a = some o → F' a = some o

theorem sz_tup {x : D} {xs : List D} (h : x ∈ xs) : sizeOf x < 1 + sizeOf xs := by
  have := List.sizeOf_lt_of_mem h
  omega
theorem sz_snd {κ : Type} [SizeOf κ] {x : D} {kvs : List (κ × D)} (h : x ∈ kvs.map (·.2)) : sizeOf x < 1 + sizeOf kvs := by
  obtain ⟨p, hp, rfl⟩ := List.mem_map.mp h
  have h1 := List.sizeOf_lt_of_mem hp
  have h2 : sizeOf p.2 < sizeOf p := by
    cases p
    simp
    omega
  omega

theorem Rep.mono {cl : Cl} {F F' : Hp} (s : Sub F F') : ∀ (d : D) (v : V), Rep cl F d v → Rep cl F' d v
  | .non, _, .non => .non
  | .bl _, _, .bl => .bl
  | .int _, _, .int => .int
  | .str _, _, .str => .str
  | .tup xs, _, .tup h r => .tup (s _ _ h) (Paired.impMem r fun x hx v q => Rep.mono s x v q)
  | .lst xs, _, .lst h r => .lst (s _ _ h) (Paired.impMem r fun x hx v q => Rep.mono s x v q)
  | .dk kvs, _, .dk h e r => .dk (s _ _ h) e (Paired.impMem r fun x hx v q => Rep.mono s x v q)
  | .dt kvs, _, .dt h e r => .dt (s _ _ h) e (Paired.impMem r fun x hx v q => Rep.mono s x v q)
  | .ins c fs, _, .ins h e r => .ins (s _ _ h) e (Paired.impMem r fun x hx v q => Rep.mono s x v q)
  | .exc c x, _, .exc h e r => .exc (s _ _ h) (s _ _ e) (Rep.mono s x _ r)
  | .scr xs, _, .scr h r => .scr (s _ _ h) (Paired.impMem r fun x hx v q => Rep.mono s x v q)
termination_by d => sizeOf d
decreasing_by
  all_goals simp_wf
  all_goals first
    | exact sz_tup hx
    | exact sz_snd hx
    | (have := sz_snd hx; omega)
    | omega
theorem RepL.mono {cl : Cl} {F F' : Hp} (s : Sub F F') {ds : List D} {vs : List V} (h : RepL cl F ds vs) : RepL cl F' ds vs := Paired.impMem h fun _ _ _ q => q.mono s

/-! ### slots, results -/
inductive Sl where
  | un | im (d : D) | ow (pin : Bool) (d : D)
abbrev Rho := List Sl
inductive Res (α : Type) where
  | ok (x : α) (r : Rho) | exc (k : Str) (d : D) (r : Rho) | stuck
abbrev M (α : Type) := Rho → Res α
def M.bind {α β : Type} (c : M α) (k : α → M β) : M β := fun r => match c r with
  | .ok x r' => k x r'
  | .exc k d r' => .exc k d r'
  | .stuck => .stuck
def M.ret {α : Type} (x : α) : M α := fun r => .ok x r
def M.stop {α : Type} : M α := fun _ => .stuck
def M.opt {α : Type} : Option α → M α
  | some x => M.ret x
  | none => M.stop

/-- an object of one's own, by its tree -/
inductive RepO (cl : Cl) (F : Hp) : D → HO → Prop
  | lst {xs : List D} {vs : List V} : RepL cl F xs vs → RepO cl F (.lst xs) (.lst vs)
  | dk {kvs : List (Key × D)} {ks : List (Key × V)} : kvs.map (·.1) = ks.map (·.1) → RepL cl F (kvs.map (·.2)) (ks.map (·.2)) → RepO cl F (.dk kvs) (.dK ks)
  | dt {kvs : List (List Key × D)} {ks : List (List Key × V)} : kvs.map (·.1) = ks.map (·.1) → RepL cl F (kvs.map (·.2)) (ks.map (·.2)) → RepO cl F (.dt kvs) (.dT ks)
  | ins {c : Str} {dx : Addr} {fs : List (Str × D)} {gs : List (Str × V)} : fs.map (·.1) = gs.map (·.1) → RepL cl F (fs.map (·.2)) (gs.map (·.2)) → RepO cl F (.ins c fs) (.ins (cl c) dx gs)
theorem RepO.mono {cl : Cl} {F F' : Hp} (s : Sub F F') {d : D} {o : HO} (h : RepO cl F d o) : RepO cl F' d o := by
  cases h with
  | lst r => exact .lst (r.mono s)
  | dk e r => exact .dk e (r.mono s)
  | dt e r => exact .dt e (r.mono s)
  | ins e r => exact .ins e (r.mono s)
theorem RepO.rep {cl : Cl} {F : Hp} {d : D} {o : HO} {p : Addr} (h : RepO cl F d o) (hp : F p = some o) : Rep cl F d (.ref p) := by
  cases h with
  | lst r => exact .lst hp r
  | dk e r => exact .dk hp e r
  | dt e r => exact .dt hp e r
  | ins e r => exact .ins hp e r

/-- what may be locked while it is walked -/
def Lk : HO → Prop
  | .dK _ => True
  | .dT _ => True
  | _ => False
def RdX (H : Hp) (a : Addr) (o : HO) : Prop := H a = some o ∨ (Lk o ∧ ∃ ob, H a = some (.frz ob o))
def Ext (F H : Hp) : Prop := ∀ a o, F a = some o → RdX H a o

def SlotOk (cl : Cl) (F H : Hp) : Sl → Option V → Prop
  | .un, _ => True
  | .im d, o => ∃ v, o = some v ∧ Rep cl F d v
  | .ow _ d, o => ∃ p ho, o = some (.ref p) ∧ H p = some ho ∧ F p = none ∧ RepO cl F d ho
/-- the objects that the slots own -/
def Own (ρ : Rho) (σ : St) (p : Addr) : Prop := ∃ (i : Nat) (b : Bool) (d : D), ρ[i]? = some (.ow b d) ∧ σ[i]? = some (some (.ref p))

structure St0 (cl : Cl) (ρ : Rho) (σ : St) (F H : Hp) : Prop where
  ext : Ext F H
  len : ρ.length = σ.length
  sl : ∀ (i : Nat) (s : Sl) (o : Option V), ρ[i]? = some s → σ[i]? = some o → SlotOk cl F H s o
  ds : ∀ (i j : Nat) (b c : Bool) (d e : D) (p : Addr), ρ[i]? = some (.ow b d) → ρ[j]? = some (.ow c e) → σ[i]? = some (some (.ref p)) → σ[j]? = some (some (.ref p)) → i = j

def noTbl : HO → Prop
  | .tbl _ => False
  | _ => True
structure Go (ρ : Rho) (σ : St) (F H : Hp) (ρ' : Rho) (σ' : St) (F' H' : Hp) : Prop where
  mono : Sub F F'
  fr : ∀ a o, H a = some o → ¬ Own ρ σ a → (∃ o', H' a = some o' ∧ (noTbl o → o' = o)) ∧ (F a = none → F' a = none)
  own : ∀ a, Own ρ' σ' a → Own ρ σ a ∨ H a = none
  pin : ∀ (i : Nat) (d : D), ρ[i]? = some (.ow true d) → σ'[i]? = σ[i]? ∧ ∃ d', ρ'[i]? = some (.ow true d')
  pinB : ∀ (i : Nat) (d : D), ρ'[i]? = some (.ow true d) → ∃ d0, ρ[i]? = some (.ow true d0)
  len : σ'.length = σ.length
  there : ∀ a o, H a = some o → ∃ o', H' a = some o'
theorem Go.refl {ρ : Rho} {σ : St} {F H : Hp} : Go ρ σ F H ρ σ F H :=
  ⟨fun _ _ h => h, fun _ o h _ => ⟨⟨o, h, fun _ => rfl⟩, fun x => x⟩, fun _ h => .inl h, fun i d h => ⟨rfl, d, h⟩, fun i d h => ⟨d, h⟩, rfl, fun _ o h => ⟨o, h⟩⟩
theorem Go.trans {ρ ρ1 ρ2 : Rho} {σ σ1 σ2 : St} {F H F1 H1 F2 H2 : Hp} (a : Go ρ σ F H ρ1 σ1 F1 H1) (b : Go ρ1 σ1 F1 H1 ρ2 σ2 F2 H2) : Go ρ σ F H ρ2 σ2 F2 H2 where
  mono := fun x o h => b.mono x o (a.mono x o h)
  fr := fun x o h n => by
    obtain ⟨⟨o1, h1, t1⟩, f1⟩ := a.fr x o h n
    have n1 : ¬ Own ρ1 σ1 x := fun z => by
      rcases a.own x z with q | q
      · exact n q
      · rw [h] at q
        cases q
    obtain ⟨⟨o2, h2, t2⟩, f2⟩ := b.fr x o1 h1 n1
    refine ⟨⟨o2, h2, fun t => ?_⟩, fun z => f2 (f1 z)⟩
    have e := t1 t
    subst e
    exact t2 t
  own := fun x h => by
    rcases b.own x h with q | q
    · exact a.own x q
    · cases e : H x with
      | none => exact .inr rfl
      | some o =>
        refine .inl (Classical.byContradiction fun n => ?_)
        obtain ⟨⟨o1, h1, _⟩, _⟩ := a.fr x o e n
        rw [h1] at q
        cases q
  pin := fun i d h => by
    obtain ⟨e1, d1, h1⟩ := a.pin i d h
    obtain ⟨e2, d2, h2⟩ := b.pin i d1 h1
    exact ⟨e2.trans e1, d2, h2⟩
  pinB := fun i d h => by
    obtain ⟨d1, h1⟩ := b.pinB i d h
    exact a.pinB i d1 h1
  len := b.len.trans a.len
  there := fun x o h => by
    obtain ⟨o1, h1⟩ := a.there x o h
    exact b.there x o1 h1

/-! ### new things -/
/-- F, H grow by objects that H did not track -/
structure New (F H F' H' : Hp) : Prop where
  ext : Ext F' H'
  mono : Sub F F'
  keep : ∀ a o, H a = some o → (∃ o', H' a = some o' ∧ (noTbl o → o' = o)) ∧ (F a = none → F' a = none)
theorem New.refl {F H : Hp} (e : Ext F H) : New F H F H := ⟨e, fun _ _ h => h, fun _ o h => ⟨⟨o, h, fun _ => rfl⟩, fun x => x⟩⟩
theorem New.trans {F H F1 H1 F2 H2 : Hp} (a : New F H F1 H1) (b : New F1 H1 F2 H2) : New F H F2 H2 where
  ext := b.ext
  mono := fun x o h => b.mono x o (a.mono x o h)
  keep := fun x o h => by
    obtain ⟨⟨o1, h1, t1⟩, f1⟩ := a.keep x o h
    obtain ⟨⟨o2, h2, t2⟩, f2⟩ := b.keep x o1 h1
    refine ⟨⟨o2, h2, fun t => ?_⟩, fun z => f2 (f1 z)⟩
    have e := t1 t
    subst e
    exact t2 t
theorem Ext.none {F H : Hp} (e : Ext F H) {a : Addr} (h : H a = none) : F a = none := by
  cases q : F a with
  | none => rfl
  | some o =>
    rcases e a o q with z | ⟨_, ob, z⟩
    · rw [h] at z; cases z
    · rw [h] at z; cases z
theorem New.at_ {F H : Hp} (e : Ext F H) {p : Addr} {o : HO} (h : H p = none) : New F H (upd F p o) (upd H p o) where
  ext := fun a u q => by
    by_cases z : a = p
    · subst z
      rw [upd_same] at q
      cases q
      exact .inl upd_same
    · rw [upd_ne z] at q
      unfold RdX
      rw [upd_ne z]
      exact e a u q
  mono := fun a u q => by rw [upd_ne (ne_of_none q (e.none h))]; exact q
  keep := fun a u q => by
    have z := ne_of_none q h
    exact ⟨⟨u, by rw [upd_ne z]; exact q, fun _ => rfl⟩, fun f => by rw [upd_ne z]; exact f⟩
/-- a new object that stays one's own -/
theorem New.own {F H : Hp} (e : Ext F H) {p : Addr} {o : HO} (h : H p = none) : New F H F (upd H p o) where
  ext := fun a u q => by
    have z : a ≠ p := ne_of_none q (e.none h)
    unfold RdX
    rw [upd_ne z]
    exact e a u q
  mono := fun _ _ q => q
  keep := fun a u q => ⟨⟨u, by rw [upd_ne (ne_of_none q h)]; exact q, fun _ => rfl⟩, fun f => f⟩

theorem RepO.noTbl {cl : Cl} {F : Hp} {d : D} {o : HO} (h : RepO cl F d o) : noTbl o := by cases h <;> trivial
theorem SlotOk.new {cl : Cl} {F H F' H' : Hp} (n : New F H F' H') {s : Sl} {o : Option V} (h : SlotOk cl F H s o) : SlotOk cl F' H' s o := by
  cases s with
  | un => trivial
  | im d =>
    obtain ⟨v, e, r⟩ := h
    exact ⟨v, e, r.mono n.mono⟩
  | ow b d =>
    obtain ⟨p, ho, e, q, f, r⟩ := h
    obtain ⟨⟨o', h1, t⟩, f1⟩ := n.keep p ho q
    have := t r.noTbl
    subst this
    exact ⟨p, o', e, h1, f1 f, r.mono n.mono⟩
theorem St0.new {cl : Cl} {ρ : Rho} {σ : St} {F H F' H' : Hp} (s : St0 cl ρ σ F H) (n : New F H F' H') : St0 cl ρ σ F' H' :=
  ⟨n.ext, s.len, fun i a o h1 h2 => (s.sl i a o h1 h2).new n, s.ds⟩
theorem Go.new {ρ : Rho} {σ : St} {F H F' H' : Hp} (n : New F H F' H') : Go ρ σ F H ρ σ F' H' :=
  ⟨n.mono, fun a o h _ => n.keep a o h, fun _ h => .inl h, fun i d h => ⟨rfl, d, h⟩, fun i d h => ⟨d, h⟩, rfl, fun a o h => (n.keep a o h).1.imp fun _ z => z.1⟩

/-- a slot's own object is frozen -/
theorem St0.freeze {cl : Cl} {ρ : Rho} {σ : St} {F H : Hp} {i : Nat} {d : D} {v : V} (s : St0 cl ρ σ F H) (h : ρ[i]? = some (.ow false d)) (hv : σ[i]? = some (some v)) :
    ∃ F', St0 cl (ρ.set i (.im d)) σ F' H ∧ Go ρ σ F H (ρ.set i (.im d)) σ F' H ∧ Rep cl F' d v := by
  obtain ⟨p, ho, e, hp, hf, r⟩ := s.sl i _ _ h hv
  cases e
  have hi : i < ρ.length := (List.getElem?_eq_some_iff.mp h).1
  have mono : Sub F (upd F p ho) := fun a o q => by rw [upd_ne (ne_of_none q hf)]; exact q
  have rp : Rep cl (upd F p ho) d (.ref p) := (r.mono mono).rep upd_same
  refine ⟨upd F p ho, ⟨fun a o q => ?_, by rw [List.length_set]; exact s.len, fun j t o h1 h2 => ?_, fun j k b c x y q h1 h2 h3 h4 => ?_⟩, ⟨mono, fun a o q n => ⟨⟨o, q, fun _ => rfl⟩, fun f => ?_⟩, fun a ha => ?_, fun j x hj => ?_, fun j x hj => ⟨x, by
    by_cases z : j = i
    · subst z
      rw [List.getElem?_set_self hi] at hj
      cases hj
    · rw [List.getElem?_set_ne (Ne.symm z)] at hj
      exact hj⟩, rfl, fun _ o h => ⟨o, h⟩⟩, rp⟩
  · by_cases z : a = p
    · subst z
      rw [upd_same] at q
      cases q
      exact .inl hp
    · rw [upd_ne z] at q
      exact s.ext a o q
  · by_cases z : j = i
    · subst z
      rw [List.getElem?_set_self hi] at h1
      cases h1
      rw [hv] at h2
      cases h2
      exact ⟨_, rfl, rp⟩
    · rw [List.getElem?_set_ne (Ne.symm z)] at h1
      have q := s.sl j t o h1 h2
      cases t with
      | un => trivial
      | im x =>
        obtain ⟨u, e, w⟩ := q
        exact ⟨u, e, w.mono mono⟩
      | ow b x =>
        obtain ⟨p', ho', e, h3, f, w⟩ := q
        subst e
        refine ⟨p', ho', rfl, h3, ?_, w.mono mono⟩
        rw [upd_ne fun e => z (s.ds j i b false x d p h1 h (by rw [h2, e]) hv)]
        exact f
  · have nj : j ≠ i := fun z => by
      subst z
      rw [List.getElem?_set_self hi] at h1
      cases h1
    have nk : k ≠ i := fun z => by
      subst z
      rw [List.getElem?_set_self hi] at h2
      cases h2
    rw [List.getElem?_set_ne (Ne.symm nj)] at h1
    rw [List.getElem?_set_ne (Ne.symm nk)] at h2
    exact s.ds j k b c x y q h1 h2 h3 h4
  · have z : a ≠ p := fun e => n ⟨i, false, d, h, by rw [hv, e]⟩
    rw [upd_ne z]
    exact f
  · obtain ⟨j, b, x, h1, h2⟩ := ha
    have nj : j ≠ i := fun z => by
      subst z
      rw [List.getElem?_set_self hi] at h1
      cases h1
    rw [List.getElem?_set_ne (Ne.symm nj)] at h1
    exact .inl ⟨j, b, x, h1, h2⟩
  · refine ⟨rfl, x, ?_⟩
    have nj : j ≠ i := fun z => by
      subst z
      rw [h] at hj
      cases hj
    rw [List.getElem?_set_ne (Ne.symm nj)]
    exact hj
/-- a slot's own object is written -/
theorem St0.write {cl : Cl} {ρ : Rho} {σ : St} {F H : Hp} {i : Nat} {b : Bool} {d d' : D} {p : Addr} {o : HO} (s : St0 cl ρ σ F H) (h : ρ[i]? = some (.ow b d)) (hv : σ[i]? = some (some (.ref p))) (r : RepO cl F d' o) :
    St0 cl (ρ.set i (.ow b d')) σ F (upd H p o) ∧ Go ρ σ F H (ρ.set i (.ow b d')) σ F (upd H p o) := by
  obtain ⟨p', ho, e, hp, hf, _⟩ := s.sl i _ _ h hv
  cases e
  have hi : i < ρ.length := (List.getElem?_eq_some_iff.mp h).1
  refine ⟨⟨fun a u q => ?_, by rw [List.length_set]; exact s.len, fun j t u h1 h2 => ?_, fun j k b1 c x y q h1 h2 h3 h4 => ?_⟩, ⟨fun _ _ q => q, fun a u q n => ⟨⟨u, ?_, fun _ => rfl⟩, fun f => f⟩, fun a ha => ?_, fun j x hj => ⟨rfl, ?_⟩, fun j x hj => by
    by_cases z : j = i
    · subst z
      rw [List.getElem?_set_self hi] at hj
      cases hj
      exact ⟨d, h⟩
    · rw [List.getElem?_set_ne (Ne.symm z)] at hj
      exact ⟨x, hj⟩, rfl, fun a u q => ?_⟩⟩
  · unfold RdX
    rw [upd_ne (ne_of_none q hf)]
    exact s.ext a u q
  · by_cases z : j = i
    · subst z
      rw [List.getElem?_set_self hi] at h1
      cases h1
      rw [hv] at h2
      cases h2
      exact ⟨p, o, rfl, upd_same, hf, r⟩
    · rw [List.getElem?_set_ne (Ne.symm z)] at h1
      have q := s.sl j t u h1 h2
      cases t with
      | un => trivial
      | im x => exact q
      | ow c x =>
        obtain ⟨p', ho', e, h3, f, w⟩ := q
        subst e
        refine ⟨p', ho', rfl, ?_, f, w⟩
        rw [upd_ne fun e => z (s.ds j i c b x d p h1 h (by rw [h2, e]) hv)]
        exact h3
  · have back : ∀ (j : Nat) (b1 : Bool) (x : D), (ρ.set i (.ow b d'))[j]? = some (.ow b1 x) → ∃ b2 x2, ρ[j]? = some (.ow b2 x2) := fun j b1 x hj => by
      by_cases z : j = i
      · exact ⟨b, d, by rw [z]; exact h⟩
      · rw [List.getElem?_set_ne (Ne.symm z)] at hj
        exact ⟨_, _, hj⟩
    obtain ⟨_, _, g1⟩ := back j b1 x h1
    obtain ⟨_, _, g2⟩ := back k c y h2
    exact s.ds j k _ _ _ _ q g1 g2 h3 h4
  · rw [upd_ne fun e => n ⟨i, b, d, h, by rw [hv, e]⟩]
    exact q
  · obtain ⟨j, b1, x, h1, h2⟩ := ha
    by_cases z : j = i
    · subst z
      exact .inl ⟨j, b, d, h, h2⟩
    · rw [List.getElem?_set_ne (Ne.symm z)] at h1
      exact .inl ⟨j, b1, x, h1, h2⟩
  · by_cases z : j = i
    · subst z
      rw [h] at hj
      cases hj
      exact ⟨d', List.getElem?_set_self hi⟩
    · exact ⟨x, by rw [List.getElem?_set_ne (Ne.symm z)]; exact hj⟩
  · by_cases z : a = p
    · exact ⟨o, by rw [z, upd_same]⟩
    · exact ⟨u, by rw [upd_ne z]; exact q⟩
/-- a slot is stored: a value that is shared -/
theorem St0.store {cl : Cl} {ρ : Rho} {σ : St} {F H : Hp} {i : Nat} {d : D} {v : V} (s : St0 cl ρ σ F H) (hn : ∀ x, ρ[i]? ≠ some (.ow true x)) (r : Rep cl F d v) :
    St0 cl (ρ.set i (.im d)) (σ.set i (some v)) F H ∧ Go ρ σ F H (ρ.set i (.im d)) (σ.set i (some v)) F H := by
  have oth : ∀ (j : Nat) (b : Bool) (x : D), (ρ.set i (.im d))[j]? = some (.ow b x) → j ≠ i ∧ ρ[j]? = some (.ow b x) := fun j b x h => by
    by_cases z : j = i
    · subst z
      by_cases hi : j < ρ.length
      · rw [List.getElem?_set_self hi] at h
        cases h
      · rw [List.getElem?_eq_none (by rw [List.length_set]; omega)] at h
        cases h
    · rw [List.getElem?_set_ne (Ne.symm z)] at h
      exact ⟨z, h⟩
  refine ⟨⟨s.ext, by rw [List.length_set, List.length_set]; exact s.len, fun j t u h1 h2 => ?_, fun j k b c x y q h1 h2 h3 h4 => ?_⟩, ⟨fun _ _ q => q, fun a u q n => ⟨⟨u, q, fun _ => rfl⟩, fun f => f⟩, fun a ha => ?_, fun j x hj => ?_, fun j x hj => ⟨x, (oth j true x hj).2⟩, by rw [List.length_set], fun _ o h => ⟨o, h⟩⟩⟩
  · by_cases z : j = i
    · subst z
      by_cases hi : j < ρ.length
      · rw [List.getElem?_set_self hi] at h1
        rw [List.getElem?_set_self (by rw [← s.len]; exact hi)] at h2
        cases h1
        cases h2
        exact ⟨v, rfl, r⟩
      · rw [List.getElem?_eq_none (by rw [List.length_set]; omega)] at h1
        cases h1
    · rw [List.getElem?_set_ne (Ne.symm z)] at h1 h2
      exact s.sl j t u h1 h2
  · obtain ⟨nj, g1⟩ := oth j b x h1
    obtain ⟨nk, g2⟩ := oth k c y h2
    rw [List.getElem?_set_ne (Ne.symm nj)] at h3
    rw [List.getElem?_set_ne (Ne.symm nk)] at h4
    exact s.ds j k b c x y q g1 g2 h3 h4
  · obtain ⟨j, b, x, h1, h2⟩ := ha
    obtain ⟨nj, g1⟩ := oth j b x h1
    rw [List.getElem?_set_ne (Ne.symm nj)] at h2
    exact .inl ⟨j, b, x, g1, h2⟩
  · have nj : j ≠ i := fun z => hn x (z ▸ hj)
    exact ⟨List.getElem?_set_ne (Ne.symm nj), x, by rw [List.getElem?_set_ne (Ne.symm nj)]; exact hj⟩
/-- .. an object of one's own, new or not owned by any slot -/
theorem St0.storeOwn {cl : Cl} {ρ : Rho} {σ : St} {F H : Hp} {i : Nat} {d : D} {p : Addr} {o : HO} (s : St0 cl ρ σ F H) (hn : ∀ x, ρ[i]? ≠ some (.ow true x)) (h0 : H p = none) (r : RepO cl F d o) :
    St0 cl (ρ.set i (.ow false d)) (σ.set i (some (.ref p))) F (upd H p o) ∧ Go ρ σ F H (ρ.set i (.ow false d)) (σ.set i (some (.ref p))) F (upd H p o) := by
  have s1 := s.new (New.own s.ext (o := o) h0)
  have np : ∀ (j : Nat) (b : Bool) (x : D), ρ[j]? = some (.ow b x) → σ[j]? ≠ some (some (.ref p)) := fun j b x h e => by
    obtain ⟨p', ho, e', hp, _⟩ := s.sl j _ _ h e
    cases e'
    rw [h0] at hp
    cases hp
  have oth : ∀ (j : Nat) (b : Bool) (x : D), (ρ.set i (.ow false d))[j]? = some (.ow b x) → j ≠ i → ρ[j]? = some (.ow b x) := fun j b x h z => by
    rw [List.getElem?_set_ne (Ne.symm z)] at h
    exact h
  refine ⟨⟨s1.ext, by rw [List.length_set, List.length_set]; exact s.len, fun j t u h1 h2 => ?_, fun j k b c x y q h1 h2 h3 h4 => ?_⟩, ⟨fun _ _ q => q, fun a u q n => ⟨⟨u, by rw [upd_ne (ne_of_none q h0)]; exact q, fun _ => rfl⟩, fun f => f⟩, fun a ha => ?_, fun j x hj => ?_, fun j x hj => ⟨x, by
    by_cases z : j = i
    · subst z
      by_cases hi : j < ρ.length
      · rw [List.getElem?_set_self hi] at hj
        cases hj
      · rw [List.getElem?_eq_none (by rw [List.length_set]; omega)] at hj
        cases hj
    · exact oth j true x hj z⟩, by rw [List.length_set], fun a u q => ⟨u, by rw [upd_ne (ne_of_none q h0)]; exact q⟩⟩⟩
  · by_cases z : j = i
    · subst z
      by_cases hi : j < ρ.length
      · rw [List.getElem?_set_self hi] at h1
        rw [List.getElem?_set_self (by rw [← s.len]; exact hi)] at h2
        cases h1
        cases h2
        exact ⟨p, o, rfl, upd_same, s.ext.none h0, r⟩
      · rw [List.getElem?_eq_none (by rw [List.length_set]; omega)] at h1
        cases h1
    · rw [List.getElem?_set_ne (Ne.symm z)] at h1 h2
      exact s1.sl j t u h1 h2
  · by_cases zj : j = i
    · by_cases zk : k = i
      · rw [zj, zk]
      · rw [List.getElem?_set_ne (Ne.symm zk)] at h4
        have hi : i < σ.length := by
          have := (List.getElem?_eq_some_iff.mp h3).1
          rw [List.length_set, zj] at this
          exact this
        rw [zj, List.getElem?_set_self hi] at h3
        cases h3
        exact absurd h4 (np k c y (oth k c y h2 zk))
    · by_cases zk : k = i
      · rw [List.getElem?_set_ne (Ne.symm zj)] at h3
        have hi : i < σ.length := by
          have := (List.getElem?_eq_some_iff.mp h4).1
          rw [List.length_set, zk] at this
          exact this
        rw [zk, List.getElem?_set_self hi] at h4
        cases h4
        exact absurd h3 (np j b x (oth j b x h1 zj))
      · rw [List.getElem?_set_ne (Ne.symm zj)] at h3
        rw [List.getElem?_set_ne (Ne.symm zk)] at h4
        exact s.ds j k b c x y q (oth j b x h1 zj) (oth k c y h2 zk) h3 h4
  · obtain ⟨j, b, x, h1, h2⟩ := ha
    by_cases z : j = i
    · have hi : i < σ.length := by
        have := (List.getElem?_eq_some_iff.mp h2).1
        rw [List.length_set, z] at this
        exact this
      rw [z, List.getElem?_set_self hi] at h2
      cases h2
      exact .inr h0
    · rw [List.getElem?_set_ne (Ne.symm z)] at h2
      exact .inl ⟨j, b, x, oth j b x h1 z, h2⟩
  · have nj : j ≠ i := fun z => hn x (z ▸ hj)
    exact ⟨List.getElem?_set_ne (Ne.symm nj), x, by rw [List.getElem?_set_ne (Ne.symm nj)]; exact hj⟩
end PyD
end
section
set_option linter.all false
set_option maxRecDepth 100000
set_option maxHeartbeats 4000000
namespace PyD
open PySem L2

/-! ### what follows a mirror -/
section
variable {α β γ δ : Type} (cl : Cl)
def Fol (A : St → Hp → Hp → α → β → Prop) (W : WX) (r : Res α) (ρ : Rho) (σ : St) (F H : Hp) (Q : β → Hp → Prop) : Prop := match r with
  | .ok x ρ' => ∀ v F' H', St0 cl ρ' σ F' H' → Go ρ σ F H ρ' σ F' H' → A σ F' H' x v → Q v H'
  | .exc k d ρ' => ∀ F' H' dx v, St0 cl ρ' σ F' H' → Go ρ σ F H ρ' σ F' H' → F' dx = some (.xd [("value", v)]) → Rep cl F' d v → W (.ref (cl k)) (some dx) σ H'
  | .stuck => False
def tM (A : St → Hp → Hp → α → β → Prop) (W : WX) (c : M α) : St → Hp → (β → Hp → Prop) → Prop := fun σ H Q => ∃ ρ F, St0 cl ρ σ F H ∧ Fol cl A W (c ρ) ρ σ F H Q
variable {cl}
theorem Fol.after {A : St → Hp → Hp → α → β → Prop} {W : WX} {r : Res α} {ρ ρ1 : Rho} {σ : St} {F H F1 H1 : Hp} {Q : β → Hp → Prop} (h : Fol cl A W r ρ σ F H Q) (g : Go ρ σ F H ρ1 σ F1 H1) : Fol cl A W r ρ1 σ F1 H1 Q := by
  cases r with
  | ok x ρ' => exact fun v F' H' s g' a => h v F' H' s (g.trans g') a
  | exc k d ρ' => exact fun F' H' dx v s g' e r => h F' H' dx v s (g.trans g') e r
  | stuck => exact h
theorem Fol.bind {A : St → Hp → Hp → α → β → Prop} {C : St → Hp → Hp → γ → δ → Prop} {W : WX} {c : M α} {k : α → M γ} {ρ : Rho} {σ : St} {F H : Hp} {Q : δ → Hp → Prop} {R : β → Hp → Prop}
    (h : Fol cl C W (c.bind k ρ) ρ σ F H Q) (hk : ∀ x v ρ1 F1 H1, St0 cl ρ1 σ F1 H1 → Sub F F1 → A σ F1 H1 x v → Fol cl C W (k x ρ1) ρ1 σ F1 H1 Q → R v H1) : Fol cl A W (c ρ) ρ σ F H R := by
  unfold M.bind at h
  cases e : c ρ with
  | ok x ρ1 =>
    rw [e] at h
    exact fun v F1 H1 s g a => hk x v ρ1 F1 H1 s g.mono a (h.after g)
  | exc k d ρ' =>
    rw [e] at h
    exact h
  | stuck =>
    rw [e] at h
    exact h
theorem tM_of {A : St → Hp → Hp → α → β → Prop} {W : WX} {c : M α} {ρ : Rho} {σ : St} {F H : Hp} {Q : β → Hp → Prop} (s : St0 cl ρ σ F H) (h : Fol cl A W (c ρ) ρ σ F H Q) : tM cl A W c σ H Q := ⟨ρ, F, s, h⟩
/-- a mirror's end: a value -/
theorem Fol.opt {A : St → Hp → Hp → α → β → Prop} {W : WX} {o : Option α} {ρ : Rho} {σ : St} {F H : Hp} {Q : β → Hp → Prop} (h : Fol cl A W (M.opt o ρ) ρ σ F H Q) :
    ∃ x, o = some x ∧ ∀ v F' H', St0 cl ρ σ F' H' → Go ρ σ F H ρ σ F' H' → A σ F' H' x v → Q v H' := by
  cases o with
  | none => exact h.elim
  | some x => exact ⟨x, rfl, h⟩
end

/-! ### the relations -/
section
variable (cl : Cl)
/-- what is read at a value now: its uppermost object may be one's own -/
def At (F H : Hp) (d : D) (v : V) : Prop := match d with
  | .lst xs => ∃ p vs, v = .ref p ∧ H p = some (.lst vs) ∧ RepL cl F xs vs
  | .dk kvs => ∃ p ks, v = .ref p ∧ Rd H p (.dK ks) ∧ kvs.map (·.1) = ks.map (·.1) ∧ RepL cl F (kvs.map (·.2)) (ks.map (·.2))
  | .dt kvs => ∃ p ks, v = .ref p ∧ Rd H p (.dT ks) ∧ kvs.map (·.1) = ks.map (·.1) ∧ RepL cl F (kvs.map (·.2)) (ks.map (·.2))
  | .ins c fs => ∃ p dx gs, v = .ref p ∧ H p = some (.ins (cl c) dx gs) ∧ fs.map (·.1) = gs.map (·.1) ∧ RepL cl F (fs.map (·.2)) (gs.map (·.2))
  | d => Rep cl F d v
abbrev AE : St → Hp → Hp → D → V → Prop := fun _ F _ d v => Rep cl F d v
abbrev AP : St → Hp → Hp → D → V → Prop := fun _ F H d v => At cl F H d v
abbrev AT : St → Hp → Hp → Bool → Bool → Prop := fun _ _ _ b c => b = c
abbrev AL : St → Hp → Hp → List D → List V → Prop := fun _ F _ ds vs => RepL cl F ds vs
variable {cl}
theorem RdX.one {H : Hp} {a : Addr} {o : HO} (h : RdX H a o) (n : ¬ Lk o) : H a = some o := by
  rcases h with h | ⟨k, _⟩
  · exact h
  · exact absurd k n
theorem RdX.rd {H : Hp} {a : Addr} {o : HO} (h : RdX H a o) : Rd H a o := by
  rcases h with h | ⟨_, ob, h⟩
  · exact .inl h
  · exact .inr ⟨ob, h⟩
theorem Rep.at_ {F H : Hp} {d : D} {v : V} (e : Ext F H) (r : Rep cl F d v) : At cl F H d v := by
  cases r with
  | lst h r => exact ⟨_, _, rfl, (e _ _ h).one (fun z => z), r⟩
  | dk h k r => exact ⟨_, _, rfl, (e _ _ h).rd, k, r⟩
  | dt h k r => exact ⟨_, _, rfl, (e _ _ h).rd, k, r⟩
  | ins h k r => exact ⟨_, _, _, rfl, (e _ _ h).one (fun z => z), k, r⟩
  | non => exact .non
  | bl => exact .bl
  | int => exact .int
  | str => exact .str
  | tup h r => exact .tup h r
  | exc h k r => exact .exc h k r
  | scr h r => exact .scr h r
theorem RepO.at_ {F H : Hp} {d : D} {p : Addr} {o : HO} (h : RepO cl F d o) (hp : H p = some o) : At cl F H d (.ref p) := by
  cases h with
  | lst r => exact ⟨_, _, rfl, hp, r⟩
  | dk e r => exact ⟨_, _, rfl, .inl hp, e, r⟩
  | dt e r => exact ⟨_, _, rfl, .inl hp, e, r⟩
  | ins e r => exact ⟨_, _, _, rfl, hp, e, r⟩
end

/-! ### the judgements -/
section
variable (cl : Cl)
def SE (X : Cx) (W : WX) (e : Expr) (c : M D) : Prop := PE X e (tM cl (AE cl) W c)
def SP (X : Cx) (W : WX) (e : Expr) (c : M D) : Prop := PE X e (tM cl (AP cl) W c)
def ST (X : Cx) (W : WX) (e : Expr) (c : M Bool) : Prop := PT X e (tM cl AT W c)
def SL (X : Cx) (W : WX) (es : List Expr) (c : M (List D)) : Prop := PA X es (tM cl (AL cl) W c)
end
theorem PE.imp {X : Cx} {e : Expr} {t t' : TE} (h : PE X e t) (i : ∀ σ H Q, t' σ H Q → t σ H Q) : PE X e t' := ⟨fun pins s σ H Q I z => h.run pins s σ H Q I (i _ _ _ z)⟩
theorem PT.imp {X : Cx} {e : Expr} {t t' : TT} (h : PT X e t) (i : ∀ σ H Q, t' σ H Q → t σ H Q) : PT X e t' := ⟨fun pins s σ H Q I z => h.run pins s σ H Q I (i _ _ _ z)⟩
theorem PA.imp {X : Cx} {e : List Expr} {t t' : TA} (h : PA X e t) (i : ∀ σ H Q, t' σ H Q → t σ H Q) : PA X e t' := ⟨fun pos pins s σ H Q I z => h.run pos pins s σ H Q I (i _ _ _ z)⟩
theorem PS.imp {X : Cx} {e : Stmt} {t t' : TS} (h : PS X e t) (i : ∀ D σ H, t' D σ H → t D σ H) : PS X e t' := ⟨fun pins s σ H D I z => h.run pins s σ H D I (i _ _ _ z)⟩
theorem PSs.imp {X : Cx} {e : List Stmt} {t t' : TS} (h : PSs X e t) (i : ∀ D σ H, t' D σ H → t D σ H) : PSs X e t' := ⟨fun pins s σ H D I z => h.run pins s σ H D I (i _ _ _ z)⟩

section
variable {cl : Cl} {X : Cx} {W : WX} {e a b : Expr} {es : List Expr} {pos : Pos} {ca cb : M D} {α β : Type}
theorem SE.sp (h : SE cl X W e ca) : SP cl X W e ca := PE.imp h fun σ H Q ⟨ρ, F, s, f⟩ => ⟨ρ, F, s, by
  cases q : ca ρ with
  | ok x ρ' =>
    rw [q] at f
    exact fun v F' H' s' g a => f v F' H' s' g (a.at_ s'.ext)
  | exc k d ρ' =>
    rw [q] at f
    exact f
  | stuck =>
    rw [q] at f
    exact f⟩

/-! names, constants -/
def cVar (i : Nat) : M D := fun r => match r[i]? with
  | some (.im d) => .ok d r
  | some (.ow false d) => .ok d (r.set i (.im d))
  | _ => .stuck
def cPeek (i : Nat) : M D := fun r => match r[i]? with
  | some (.im d) => .ok d r
  | some (.ow _ d) => .ok d r
  | _ => .stuck
theorem St0.slot {ρ : Rho} {σ : St} {F H : Hp} {i : Nat} {x : Sl} (s : St0 cl ρ σ F H) (h : ρ[i]? = some x) : ∃ o, σ[i]? = some o ∧ SlotOk cl F H x o := by
  have hi : i < σ.length := by
    rw [← s.len]
    exact (List.getElem?_eq_some_iff.mp h).1
  exact ⟨σ[i], List.getElem?_eq_getElem hi, s.sl i x _ h (List.getElem?_eq_getElem hi)⟩
theorem se_var {i : Nat} (h : PE X e (tVar i)) : SE cl X W e (cVar i) := PE.imp h fun σ H Q ⟨ρ, F, s, f⟩ => by
  unfold cVar at f
  cases q : ρ[i]? with
  | none => rw [q] at f; exact f.elim
  | some x =>
    rw [q] at f
    obtain ⟨o, ho, k⟩ := s.slot q
    cases x with
    | un => exact f.elim
    | im d =>
      obtain ⟨v, rfl, r⟩ := k
      exact ⟨v, ho, f v F H s Go.refl r⟩
    | ow b d =>
      cases b with
      | true => exact f.elim
      | false =>
        obtain ⟨p, u, rfl, _⟩ := k
        obtain ⟨F', s', g, r⟩ := s.freeze q ho
        exact ⟨_, ho, f _ F' H s' g r⟩
theorem sp_var {i : Nat} (h : PE X e (tVar i)) : SP cl X W e (cPeek i) := PE.imp h fun σ H Q ⟨ρ, F, s, f⟩ => by
  unfold cPeek at f
  cases q : ρ[i]? with
  | none => rw [q] at f; exact f.elim
  | some x =>
    rw [q] at f
    obtain ⟨o, ho, k⟩ := s.slot q
    cases x with
    | un => exact f.elim
    | im d =>
      obtain ⟨v, rfl, r⟩ := k
      exact ⟨v, ho, f v F H s Go.refl (r.at_ s.ext)⟩
    | ow b d =>
      obtain ⟨p, u, rfl, hp, _, r⟩ := k
      exact ⟨_, ho, f _ F H s Go.refl (r.at_ hp)⟩
theorem se_c {d : D} {v : V} (h : PE X e (tC v)) (r : ∀ F, Rep cl F d v) : SE cl X W e (M.ret d) := PE.imp h fun σ H Q ⟨ρ, F, s, f⟩ => f v F H s Go.refl (r F)
theorem se_int {i : Int} {j : Nat} : SE cl X W (.Constant (.int i) j pos) (M.ret (.int i)) := se_c pe_int fun _ => .int
theorem se_str {x : Str} {j : Nat} : SE cl X W (.Constant (.str x) j pos) (M.ret (.str x)) := se_c pe_str fun _ => .str
theorem se_bl {x : Bool} {j : Nat} : SE cl X W (.Constant (.bool x) j pos) (M.ret (.bl x)) := se_c pe_bl fun _ => .bl
theorem se_non {j : Nat} : SE cl X W (.Constant .none j pos) (M.ret .non) := se_c pe_non fun _ => .non
theorem se_gint {x : Str} {i : Int} {t : Tok} (hg : Gl X x) (hm : X.mg x = some (.int i t)) (hd : (x == ("__debug__" : Str)) = false := by decide) : SE cl X W (.Name x pos) (M.ret (.int i)) := se_c (v := .int i) (pe_glob hg hm ⟨t, rfl⟩ hd) fun _ => .int
theorem se_gstr {x z : Str} {t : Tok} (hg : Gl X x) (hm : X.mg x = some (.str z t)) (hd : (x == ("__debug__" : Str)) = false := by decide) : SE cl X W (.Name x pos) (M.ret (.str z)) := se_c (v := .str z) (pe_glob hg hm ⟨t, rfl⟩ hd) fun _ => .str

/-! operations on two values -/
def OpD (cl : Cl) (r : R2) (f : D → D → Option D) : Prop := ∀ (F H : Hp) (x y : D) (u v : V) (z : D) (Q : VK), Ext F H → Rep cl F x u → At cl F H y v → f x y = some z → (∀ w F' H', New F H F' H' → Rep cl F' z w → Q w H') → r u v H Q
def cOp (f : D → D → Option D) (ca cb : M D) : M D := ca.bind fun x => cb.bind fun y => M.opt (f x y)
theorem tM_op {r : R2} {f : D → D → Option D} (hf : OpD cl r f) (σ : St) (H : Hp) (Q : VK) (h : tM cl (AE cl) W (cOp f ca cb) σ H Q) : tOp r (tM cl (AE cl) W ca) (tM cl (AP cl) W cb) σ H Q := by
  obtain ⟨ρ, F, s, h⟩ := h
  refine tM_of s (Fol.bind h fun x u ρ1 F1 H1 s1 m1 r1 h1 => tM_of s1 (Fol.bind h1 fun y v ρ2 F2 H2 s2 m2 r2 h2 => ?_))
  obtain ⟨z, e, h3⟩ := Fol.opt h2
  exact hf F2 H2 x y u v z Q s2.ext (r1.mono m2) r2 e fun w F' H' n r => h3 w F' H' (s2.new n) (Go.new n) r
theorem se_bin {op : Operator} {r : R2} {f : D → D → Option D} (ho : OpR X (binaryOp op) r) (hf : OpD cl r f) (ha : SE cl X W a ca) (hb : SP cl X W b cb) : SE cl X W (.BinOp a op b pos) (cOp f ca cb) :=
  PE.imp (pe_op ho ha hb) fun σ H Q h => tM_op hf σ H Q h
theorem se_cmp {op : CmpOp} {r : R2} {f : D → D → Option D} (ho : OpR X (compareOp op) r) (hf : OpD cl r f) (ha : SE cl X W a ca) (hb : SP cl X W b cb) (hm : behindInMarks op b = false) : SE cl X W (.Compare a [op] [b] pos) (cOp f ca cb) :=
  PE.imp (pe_cmpR ho ha hb hm) fun σ H Q h => tM_op hf σ H Q h
/-- a value as a truth value -/
def toB : D → Option Bool
  | .bl b => some b
  | _ => none
def cB (c : M D) : M Bool := c.bind fun d => M.opt (toB d)
theorem toB_some {d : D} {b : Bool} (h : toB d = some b) : d = .bl b := by
  cases d <;> first | (cases h; rfl) | cases h
theorem tM_B {c : M D} (σ : St) (H : Hp) (Q : Bool → Hp → Prop) (h : tM cl AT W (cB c) σ H Q) : tM cl (AE cl) W c σ H fun x H1 => ∃ b, x = .bl b ∧ Q b H1 := by
  obtain ⟨ρ, F, s, h⟩ := h
  refine tM_of s (Fol.bind h fun x u ρ1 F1 H1 s1 m1 r1 h1 => ?_)
  obtain ⟨b, e, h3⟩ := Fol.opt h1
  cases toB_some e
  cases r1
  exact ⟨b, rfl, h3 b F1 H1 s1 Go.refl rfl⟩
theorem st_cmp {op : CmpOp} {r : R2} {f : D → D → Option D} (ho : OpR X (compareOp op) r) (hf : OpD cl r f) (ha : SE cl X W a ca) (hb : SP cl X W b cb) (hm : behindInMarks op b = false) : ST cl X W (.Compare a [op] [b] pos) (cB (cOp f ca cb)) :=
  PT.imp (pt_cmpR ho ha hb hm) fun σ H Q h => by
    obtain ⟨ρ, F, s, h⟩ := h
    have h' : tM cl (AE cl) W (cOp f ca cb) σ H fun x H1 => ∃ b, x = .bl b ∧ Q b H1 := tM_B σ H Q ⟨ρ, F, s, h⟩
    exact tM_op hf σ H _ h'
/-- an expression whose value is True or False, as a test -/
theorem st_val (h : SE cl X W e ca) (he : ∀ whole, isTrue e X.env whole = (do let v ← whole; standAt e.pos; holding [v] (truthy v)) := by intro _; rfl) : ST cl X W e (cB ca) :=
  PT.imp (pt_val h he) fun σ H Q h => tM_B σ H Q h

/-! and, or, not -/
def cNot (c : M Bool) : M Bool := c.bind fun b => M.ret (!b)
def cAnd (c k : M Bool) : M Bool := c.bind fun b => if b = true then k else M.ret false
def cOr (c k : M Bool) : M Bool := c.bind fun b => if b = true then M.ret true else k
theorem st_not {c : M Bool} (h : ST cl X W a c) : ST cl X W (.UnaryOp .Not a pos) (cNot c) := PT.imp (pt_not h) fun σ H Q ⟨ρ, F, s, f⟩ =>
  tM_of s (Fol.bind f fun x u ρ1 F1 H1 s1 m1 r1 h1 => by
    cases r1
    exact h1 _ F1 H1 s1 Go.refl rfl)
def SW (cl : Cl) (X : Cx) (W : WX) (e : Expr) (c : M Bool) : Prop := PW X e (tM cl AT W c)
theorem PW.imp {t t' : TT} (h : PW X e t) (i : ∀ σ H Q, t' σ H Q → t σ H Q) : PW X e t' := ⟨fun wh pins s σ H Q I z => h.run wh pins s σ H Q I (i _ _ _ z)⟩
theorem SW.st {c : M Bool} (h : SW cl X W e c) : ST cl X W e c := L2.PW.pt h
theorem sw_and1 {c : M Bool} (h : ST cl X W a c) : SW cl X W (.BoolOp .And [a] pos) c := pw_and1 h
theorem sw_or1 {c : M Bool} (h : ST cl X W a c) : SW cl X W (.BoolOp .Or [a] pos) c := pw_or1 h
theorem sw_and {c k : M Bool} (h : ST cl X W a c) (h2 : SW cl X W (.BoolOp .And (b :: es) pos) k) : SW cl X W (.BoolOp .And (a :: b :: es) pos) (cAnd c k) := PW.imp (pw_and h h2) fun σ H Q ⟨ρ, F, s, f⟩ =>
  tM_of s (Fol.bind f fun x u ρ1 F1 H1 s1 m1 r1 h1 => by
    cases r1
    cases x with
    | true => exact tM_of s1 h1
    | false => exact h1 _ F1 H1 s1 Go.refl rfl)
theorem sw_or {c k : M Bool} (h : ST cl X W a c) (h2 : SW cl X W (.BoolOp .Or (b :: es) pos) k) : SW cl X W (.BoolOp .Or (a :: b :: es) pos) (cOr c k) := PW.imp (pw_or h h2) fun σ H Q ⟨ρ, F, s, f⟩ =>
  tM_of s (Fol.bind f fun x u ρ1 F1 H1 s1 m1 r1 h1 => by
    cases r1
    cases x with
    | true => exact h1 _ F1 H1 s1 Go.refl rfl
    | false => exact tM_of s1 h1)
/-- as values -/
def cNotV (c : M D) : M D := c.bind fun d => M.opt ((toB d).map fun b => .bl (!b))
def cAndV (c k : M D) : M D := c.bind fun d => (M.opt (toB d)).bind fun b => if b = true then k else M.ret (.bl false)
def cOrV (c k : M D) : M D := c.bind fun d => (M.opt (toB d)).bind fun b => if b = true then M.ret (.bl true) else k
theorem se_not (h : SE cl X W a ca) : SE cl X W (.UnaryOp .Not a pos) (cNotV ca) := PE.imp (pe_not h) fun σ H Q ⟨ρ, F, s, f⟩ =>
  tM_of s (Fol.bind f fun x u ρ1 F1 H1 s1 m1 r1 h1 => by
    obtain ⟨z, e, h3⟩ := Fol.opt h1
    obtain ⟨b, e1, rfl⟩ := Option.map_eq_some_iff.mp e
    cases toB_some e1
    cases r1
    exact ⟨b, rfl, h3 _ F1 H1 s1 Go.refl .bl⟩)
theorem se_one {op : BoolOp} (h : SE cl X W a ca) : SE cl X W (.BoolOp op [a] pos) ca := pe_one h
theorem se_and (h : SE cl X W a ca) (h2 : SE cl X W (.BoolOp .And (b :: es) pos) cb) : SE cl X W (.BoolOp .And (a :: b :: es) pos) (cAndV ca cb) := PE.imp (pe_and h h2) fun σ H Q ⟨ρ, F, s, f⟩ =>
  tM_of s (Fol.bind f fun x u ρ1 F1 H1 s1 m1 r1 h1 => by
    cases q : toB x with
    | none => rw [q] at h1; exact h1.elim
    | some b =>
      rw [q] at h1
      cases toB_some q
      cases r1
      refine ⟨b, rfl, ?_⟩
      cases b with
      | true => exact tM_of s1 h1
      | false => exact h1 _ F1 H1 s1 Go.refl .bl)
theorem se_or (h : SE cl X W a ca) (h2 : SE cl X W (.BoolOp .Or (b :: es) pos) cb) : SE cl X W (.BoolOp .Or (a :: b :: es) pos) (cOrV ca cb) := PE.imp (pe_or h h2) fun σ H Q ⟨ρ, F, s, f⟩ =>
  tM_of s (Fol.bind f fun x u ρ1 F1 H1 s1 m1 r1 h1 => by
    cases q : toB x with
    | none => rw [q] at h1; exact h1.elim
    | some b =>
      rw [q] at h1
      cases toB_some q
      cases r1
      refine ⟨b, rfl, ?_⟩
      cases b with
      | true => exact h1 _ F1 H1 s1 Go.refl .bl
      | false => exact tM_of s1 h1)
def cIf {α : Type} (c : M Bool) (x y : M α) : M α := c.bind fun b => if b = true then x else y
theorem se_if {t : Expr} {c : M Bool} (h : ST cl X W t c) (h1 : SE cl X W a ca) (h2 : SE cl X W b cb) : SE cl X W (.IfExp t a b pos) (cIf c ca cb) := PE.imp (pe_ifExp h h1 h2) fun σ H Q ⟨ρ, F, s, f⟩ =>
  tM_of s (Fol.bind f fun x u ρ1 F1 H1 s1 m1 r1 h1 => by
    cases r1
    cases x with
    | true => exact tM_of s1 h1
    | false => exact tM_of s1 h1)

/-! lists of values; displays -/
theorem sl_nil : SL cl X W [] (M.ret []) := PA.imp pa_nil fun σ H Q ⟨ρ, F, s, f⟩ => f _ F H s Go.refl .nil
def cCons (c : M D) (k : M (List D)) : M (List D) := c.bind fun x => k.bind fun xs => M.ret (x :: xs)
theorem sl_cons {k : M (List D)} (h : SE cl X W e ca) (h2 : SL cl X W es k) (hs : starEach (e :: es) X.env = (false, eval e X.env) :: starEach es X.env := by rfl) : SL cl X W (e :: es) (cCons ca k) := PA.imp (pa_cons h h2 hs) fun σ H Q ⟨ρ, F, s, f⟩ =>
  tM_of s (Fol.bind f fun x u ρ1 F1 H1 s1 m1 r1 h1 => tM_of s1 (Fol.bind h1 fun y v ρ2 F2 H2 s2 m2 r2 h2 => h2 _ F2 H2 s2 Go.refl (.cons (r1.mono m2) r2)))
def tupOf (xs : List D) : Option D := if xs.length ≤ sizeLine then some (.tup xs) else none
def lstOf (xs : List D) : Option D := if xs.length ≤ sizeLine then some (.lst xs) else none
theorem tupOf_some {xs : List D} {d : D} (h : tupOf xs = some d) : xs.length ≤ sizeLine ∧ d = .tup xs := by
  unfold tupOf at h
  split at h
  · rename_i z
    exact ⟨z, (Option.some.inj h).symm⟩
  · cases h
theorem lstOf_some {xs : List D} {d : D} (h : lstOf xs = some d) : xs.length ≤ sizeLine ∧ d = .lst xs := by
  unfold lstOf at h
  split at h
  · rename_i z
    exact ⟨z, (Option.some.inj h).symm⟩
  · cases h
theorem se_tup {k : M (List D)} {x1 : Nat} (h : SL cl X W es k) : SE cl X W (.Tuple es x1 pos) (k.bind fun xs => M.opt (tupOf xs)) := PE.imp (pe_tup h) fun σ H Q ⟨ρ, F, s, f⟩ =>
  tM_of s (Fol.bind f fun x u ρ1 F1 H1 s1 m1 r1 h1 => by
    obtain ⟨z, e, h3⟩ := Fol.opt h1
    obtain ⟨hz, rfl⟩ := tupOf_some e
    refine ⟨by rw [← Paired.length r1]; exact hz, fun p hp => ?_⟩
    have n : New F1 H1 (upd F1 p (.tup u)) (upd H1 p (.tup u)) := New.at_ s1.ext hp
    exact h3 _ _ _ (s1.new n) (Go.new n) (.tup upd_same (RepL.mono n.mono r1)))
theorem se_lst {k : M (List D)} (h : SL cl X W es k) : SE cl X W (.List es pos) (k.bind fun xs => M.opt (lstOf xs)) := PE.imp (pe_lst h) fun σ H Q ⟨ρ, F, s, f⟩ =>
  tM_of s (Fol.bind f fun x u ρ1 F1 H1 s1 m1 r1 h1 => by
    obtain ⟨z, e, h3⟩ := Fol.opt h1
    obtain ⟨hz, rfl⟩ := lstOf_some e
    refine ⟨by rw [← Paired.length r1]; exact hz, fun p hp => ?_⟩
    have n : New F1 H1 (upd F1 p (.lst u)) (upd H1 p (.lst u)) := New.at_ s1.ext hp
    exact h3 _ _ _ (s1.new n) (Go.new n) (.lst upd_same (RepL.mono n.mono r1)))

/-! calls of built-ins -/
def CallD (cl : Cl) (r : List V → Hp → VK → Prop) (f : List D → Option D) : Prop := ∀ (F H : Hp) (xs : List D) (vs : List V) (z : D) (Q : VK), Ext F H → RepL cl F xs vs → f xs = some z → (∀ w F' H', New F H F' H' → Rep cl F' z w → Q w H') → r vs H Q
def cCall (f : List D → Option D) (k : M (List D)) : M D := k.bind fun xs => M.opt (f xs)
theorem tM_call {r : List V → Hp → VK → Prop} {f : List D → Option D} (hf : CallD cl r f) {k : M (List D)} (σ : St) (H : Hp) (Q : VK) (h : tM cl (AE cl) W (cCall f k) σ H Q) : tCB r (tM cl (AL cl) W k) σ H Q := by
  obtain ⟨ρ, F, s, h⟩ := h
  refine tM_of s (Fol.bind h fun x u ρ1 F1 H1 s1 m1 r1 h1 => ?_)
  obtain ⟨z, e, h3⟩ := Fol.opt h1
  exact hf F1 H1 x u z Q s1.ext r1 e fun w F' H' n r => h3 w F' H' (s1.new n) (Go.new n) r
/-- one argument, looked at as it stands -/
def Call1D (cl : Cl) (r : List V → Hp → VK → Prop) (f : D → Option D) : Prop := ∀ (F H : Hp) (x : D) (v : V) (z : D) (Q : VK), Ext F H → At cl F H x v → f x = some z → (∀ w F' H', New F H F' H' → Rep cl F' z w → Q w H') → r [v] H Q
def cCall1 (f : D → Option D) (c : M D) : M D := c.bind fun x => M.opt (f x)
theorem tM_call1 {r : List V → Hp → VK → Prop} {f : D → Option D} (hf : Call1D cl r f) (σ : St) (H : Hp) (Q : VK) (h : tM cl (AE cl) W (cCall1 f ca) σ H Q) : tCB r (tCons (tM cl (AP cl) W ca) tNil) σ H Q := by
  obtain ⟨ρ, F, s, h⟩ := h
  refine tM_of s (Fol.bind h fun x u ρ1 F1 H1 s1 m1 r1 h1 => ?_)
  obtain ⟨z, e, h3⟩ := Fol.opt h1
  exact hf F1 H1 x u z Q s1.ext r1 e fun w F' H' n r => h3 w F' H' (s1.new n) (Go.new n) r
end
end PyD
end
section
set_option linter.all false
set_option maxRecDepth 100000
set_option maxHeartbeats 4000000
namespace PyD
open PySem L2

/-! ### statements -/
theorem Go.new0 {ρ1 ρ2 : Rho} {σ1 σ2 : St} {F1 H1 F2 H2 : Hp} (g : Go ρ1 σ1 F1 H1 ρ2 σ2 F2 H2) {p : Addr} (h : H2 p = none) : H1 p = none := by
  cases z : H1 p with
  | none => rfl
  | some o =>
    obtain ⟨o', e⟩ := g.there p o z
    rw [h] at e
    cases e
inductive RS where
  | nx (r : Rho) | rt (d : D) (r : Rho) | ro (d : D) (r : Rho) | bk (r : Rho) | ct (r : Rho) | exc (k : Str) (d : D) (r : Rho) | stuck
abbrev MS := Rho → RS
def liftS {α : Type} (c : M α) (k : α → MS) : MS := fun r => match c r with
  | .ok x r' => k x r'
  | .exc k d r' => .exc k d r'
  | .stuck => .stuck
section
variable (cl : Cl)
def FolS (W : WX) (r : RS) (ρ : Rho) (σ : St) (F H : Hp) (D : Ends) : Prop := match r with
  | .nx ρ' => ∀ σ' F' H', St0 cl ρ' σ' F' H' → Go ρ σ F H ρ' σ' F' H' → D.nx σ' H'
  | .rt d ρ' => ∀ v σ' F' H', St0 cl ρ' σ' F' H' → Go ρ σ F H ρ' σ' F' H' → Rep cl F' d v → D.rt v H'
  | .ro d ρ' => ∀ p o σ' F' H', St0 cl ρ' σ' F' H' → Go ρ σ F H ρ' σ' F' H' → H p = none → H' p = some o → F' p = none → ¬ Own ρ' σ' p → RepO cl F' d o → D.rt (.ref p) H'
  | .bk ρ' => ∀ σ' F' H', St0 cl ρ' σ' F' H' → Go ρ σ F H ρ' σ' F' H' → D.bk σ' H'
  | .ct ρ' => ∀ σ' F' H', St0 cl ρ' σ' F' H' → Go ρ σ F H ρ' σ' F' H' → D.ct σ' H'
  | .exc k d ρ' => ∀ σ' F' H' dx v, St0 cl ρ' σ' F' H' → Go ρ σ F H ρ' σ' F' H' → F' dx = some (.xd [("value", v)]) → Rep cl F' d v → W (.ref (cl k)) (some dx) σ' H'
  | .stuck => False
def tS (W : WX) (c : MS) : TS := fun D σ H => ∃ ρ F, St0 cl ρ σ F H ∧ FolS cl W (c ρ) ρ σ F H D
def SS (X : Cx) (W : WX) (st : Stmt) (c : MS) : Prop := PS X st (tS cl W c)
def SSs (X : Cx) (W : WX) (st : List Stmt) (c : MS) : Prop := PSs X st (tS cl W c)
variable {cl}
/-- what a wish of exceptions says at some slots is said at all slots behind -/
def WStable (W : WX) : Prop := ∀ c d σ σ' H, W c d σ H → W c d σ' H
theorem FolS.after {W : WX} {r : RS} {ρ ρ1 : Rho} {σ σ1 : St} {F H F1 H1 : Hp} {D : Ends} (h : FolS cl W r ρ σ F H D) (g : Go ρ σ F H ρ1 σ1 F1 H1) : FolS cl W r ρ1 σ1 F1 H1 D := by
  cases r with
  | nx ρ' => exact fun σ' F' H' s g' => h σ' F' H' s (g.trans g')
  | rt d ρ' => exact fun v σ' F' H' s g' a => h v σ' F' H' s (g.trans g') a
  | ro d ρ' => exact fun p o σ' F' H' s g' h0 a1 a2 a3 a4 => h p o σ' F' H' s (g.trans g') (g.new0 h0) a1 a2 a3 a4
  | bk ρ' => exact fun σ' F' H' s g' => h σ' F' H' s (g.trans g')
  | ct ρ' => exact fun σ' F' H' s g' => h σ' F' H' s (g.trans g')
  | exc k d ρ' => exact fun σ' F' H' dx v s g' e r => h σ' F' H' dx v s (g.trans g') e r
  | stuck => exact h
theorem FolS.lift {α β : Type} {A : St → Hp → Hp → α → β → Prop} {W : WX} {c : M α} {k : α → MS} {ρ : Rho} {σ : St} {F H : Hp} {D : Ends} {R : β → Hp → Prop}
    (h : FolS cl W (liftS c k ρ) ρ σ F H D) (hk : ∀ x v ρ1 F1 H1, St0 cl ρ1 σ F1 H1 → Sub F F1 → A σ F1 H1 x v → FolS cl W (k x ρ1) ρ1 σ F1 H1 D → R v H1) : Fol cl A W (c ρ) ρ σ F H R := by
  unfold liftS at h
  cases e : c ρ with
  | ok x ρ1 =>
    rw [e] at h
    exact fun v F1 H1 s g a => hk x v ρ1 F1 H1 s g.mono a (h.after g)
  | exc k d ρ' =>
    rw [e] at h
    exact fun F' H' dx v s g e r => h σ F' H' dx v s g e r
  | stuck =>
    rw [e] at h
    exact h
theorem tS_of {W : WX} {c : MS} {ρ : Rho} {σ : St} {F H : Hp} {D : Ends} (s : St0 cl ρ σ F H) (h : FolS cl W (c ρ) ρ σ F H D) : tS cl W c D σ H := ⟨ρ, F, s, h⟩
end

/-! ### targets -/
section
variable (cl : Cl)
/-- a target's reading follows the mirror gt -/
def GD (g : TG) (gt : D → Rho → Option Rho) : Prop := ∀ (d : D) (v : V) (ρ : Rho) (σ : St) (F H : Hp) (ρ' : Rho) (Q : St → Hp → Prop), St0 cl ρ σ F H → Rep cl F d v → gt d ρ = some ρ' →
  (∀ σ' F' H', St0 cl ρ' σ' F' H' → Go ρ σ F H ρ' σ' F' H' → Q σ' H') → g v σ H Q
def GDs (g : TGs) (gt : List D → Rho → Option Rho) : Prop := ∀ (d : List D) (v : List V) (ρ : Rho) (σ : St) (F H : Hp) (ρ' : Rho) (Q : St → Hp → Prop), St0 cl ρ σ F H → RepL cl F d v → gt d ρ = some ρ' →
  (∀ σ' F' H', St0 cl ρ' σ' F' H' → Go ρ σ F H ρ' σ' F' H' → Q σ' H') → g v σ H Q
variable {cl}
def free (i : Nat) (r : Rho) : Bool := match r[i]? with
  | some (.ow true _) => false
  | none => false
  | _ => true
theorem free_ok {i : Nat} {r : Rho} (h : free i r = true) : ∀ x, r[i]? ≠ some (.ow true x) := fun x e => by
  unfold free at h
  rw [e] at h
  cases h
def gtName (i : Nat) (d : D) (r : Rho) : Option Rho := if free i r = true then some (r.set i (.im d)) else none
theorem gd_name (i : Nat) : GD cl (gName i) (gtName i) := fun d v ρ σ F H ρ' Q s r h k => by
  unfold gtName at h
  split at h
  · rename_i hf
    cases h
    obtain ⟨s', g⟩ := s.store (free_ok hf) r
    exact k _ _ _ s' g
  · cases h
def gtNil (ds : List D) (r : Rho) : Option Rho := match ds with
  | [] => some r
  | _ => none
def gtCons (g : D → Rho → Option Rho) (gs : List D → Rho → Option Rho) (ds : List D) (r : Rho) : Option Rho := match ds with
  | d :: ds => (g d r).bind (gs ds)
  | [] => none
theorem gds_nil : GDs cl gNil gtNil := fun d v ρ σ F H ρ' Q s r h k => by
  cases r with
  | nil =>
    cases h
    exact ⟨rfl, k _ _ _ s Go.refl⟩
  | cons _ _ => cases h
theorem gds_cons {g : TG} {gs : TGs} {gt : D → Rho → Option Rho} {gts : List D → Rho → Option Rho} (h1 : GD cl g gt) (h2 : GDs cl gs gts) : GDs cl (gCons g gs) (gtCons gt gts) := fun d v ρ σ F H ρ' Q s r h k => by
  cases r with
  | nil => cases h
  | cons q t =>
    obtain ⟨ρ1, e1, e2⟩ := Option.bind_eq_some_iff.mp h
    refine ⟨_, _, rfl, h1 _ _ ρ σ F H ρ1 _ s q e1 fun σ1 F1 H1 s1 g1 => ?_⟩
    exact h2 _ _ ρ1 σ1 F1 H1 ρ' Q s1 (RepL.mono g1.mono t) e2 fun σ2 F2 H2 s2 g2 => k σ2 F2 H2 s2 (g1.trans g2)
def gtTup (n : Nat) (gs : List D → Rho → Option Rho) (d : D) (r : Rho) : Option Rho := match d with
  | .tup ds => if ds.length = n then gs ds r else none
  | _ => none
theorem gd_tup {K : PySem.W.Frag} {n : Nat} {gs : TGs} {gts : List D → Rho → Option Rho} (h2 : GDs cl gs gts) : GD cl (gTup K n gs) (gtTup n gts) := fun d v ρ σ F H ρ' Q s r h k => by
  cases r with
  | tup e q =>
    unfold gtTup at h
    dsimp only at h
    split at h
    · rename_i hn
      exact ⟨_, _, rfl, .inl ((s.ext _ _ e).rd), by rw [← Paired.length q]; exact hn, h2 _ _ ρ σ F H ρ' Q s q h k⟩
    · cases h
  | _ => cases h
end

/-! ### rules -/
section
variable {cl : Cl} {X : Cx} {W : WX} {e a b t : Expr} {es : List Expr} {st : Stmt} {rest body orelse : List Stmt} {pos : Pos} {ca cb : M D} {c k : MS}
def cNext : MS := fun r => .nx r
def cSeq (c k : MS) : MS := fun r => match c r with
  | .nx r' => k r'
  | x => x
theorem ss_nil : SSs cl X W [] cNext := PSs.imp pss_nil fun D σ H ⟨ρ, F, s, f⟩ => f σ F H s Go.refl
theorem ss_one (h : SS cl X W st c) : SSs cl X W [st] c := pss_one h
theorem ss_cons (h : SS cl X W st c) (h2 : SSs cl X W rest k) : SSs cl X W (st :: rest) (cSeq c k) := PSs.imp (pss_cons h h2) fun D σ H ⟨ρ, F, s, f⟩ => by
  refine ⟨ρ, F, s, ?_⟩
  unfold cSeq at f
  cases q : c ρ with
  | nx ρ1 =>
    rw [q] at f
    exact fun σ1 F1 H1 s1 g1 => tS_of s1 (FolS.after f g1)
  | rt d ρ1 => rw [q] at f; exact f
  | bk ρ1 => rw [q] at f; exact f
  | ro d ρ1 => rw [q] at f; exact f
  | ct ρ1 => rw [q] at f; exact f
  | exc k d ρ1 => rw [q] at f; exact f
  | stuck => rw [q] at f; exact f
theorem ss_pass : SS cl X W (.Pass pos) cNext := PS.imp ps_pass fun D σ H ⟨ρ, F, s, f⟩ => f σ F H s Go.refl
def cBrk : MS := fun r => .bk r
def cCnt : MS := fun r => .ct r
theorem ss_break : SS cl X W (.Break pos) cBrk := PS.imp ps_break fun D σ H ⟨ρ, F, s, f⟩ => f σ F H s Go.refl
theorem ss_continue : SS cl X W (.Continue pos) cCnt := PS.imp ps_continue fun D σ H ⟨ρ, F, s, f⟩ => f σ F H s Go.refl
def cRet (c : M D) : MS := liftS c fun d r => .rt d r
theorem ss_ret (h : SE cl X W e ca) : SS cl X W (.Return (some e) pos) (cRet ca) := PS.imp (ps_ret h) fun D σ H ⟨ρ, F, s, f⟩ =>
  tM_of s (FolS.lift f fun x v ρ1 F1 H1 s1 m1 r1 f1 => f1 v σ F1 H1 s1 Go.refl r1)
theorem ss_retN : SS cl X W (.Return none pos) (fun r => .rt .non r) := PS.imp ps_retN fun D σ H ⟨ρ, F, s, f⟩ => f .non σ F H s Go.refl .non
def cDrop (c : M D) : MS := liftS c fun _ r => .nx r
theorem ss_expr (h : SE cl X W e ca) (hs : swapsWith e none pos.line X.env = pure false := by rfl) : SS cl X W (.Expr e pos) (cDrop ca) := PS.imp (ps_expr h hs) fun D σ H ⟨ρ, F, s, f⟩ =>
  tM_of s (FolS.lift f fun x v ρ1 F1 H1 s1 m1 r1 f1 => f1 σ F1 H1 s1 Go.refl)
def cIfS (c : M Bool) (x y : MS) : MS := liftS c fun b => if b = true then x else y
theorem ss_if {c : M Bool} {x y : MS} (h : ST cl X W t c) (h1 : SSs cl X W body x) (h2 : SSs cl X W orelse y) : SS cl X W (.If t body orelse pos) (cIfS c x y) := PS.imp (ps_if h h1 h2) fun D σ H ⟨ρ, F, s, f⟩ =>
  tM_of s (FolS.lift f fun x v ρ1 F1 H1 s1 m1 r1 f1 => by
    cases r1
    cases x with
    | true => exact tS_of s1 f1
    | false => exact tS_of s1 f1)
def cAsg (c : M D) (g : D → Rho → Option Rho) : MS := liftS c fun d r => match g d r with
  | some r' => .nx r'
  | none => .stuck
theorem tS_asg {g : TG} {gt : D → Rho → Option Rho} (hg : GD cl g gt) (D : Ends) (σ : St) (H : Hp) (h : tS cl W (cAsg ca gt) D σ H) : tAsg (tM cl (AE cl) W ca) g D σ H := by
  obtain ⟨ρ, F, s, f⟩ := h
  refine tM_of s (FolS.lift f fun x v ρ1 F1 H1 s1 m1 r1 f1 => ?_)
  cases q : gt x ρ1 with
  | none => rw [q] at f1; exact f1.elim
  | some ρ2 =>
    rw [q] at f1
    exact hg x v ρ1 σ F1 H1 ρ2 _ s1 r1 q fun σ2 F2 H2 s2 g2 => f1 σ2 F2 H2 s2 g2
theorem ss_asg {tg : Expr} {g : TG} {gt : D → Rho → Option Rho} (h : SE cl X W e ca) (hp : PG X tg g) (hg : GD cl g gt) (hs : swapsWithSole [tg] e pos.line X.env = pure false := by rfl) (hw : swappedStores [tg] e X.env = pure none := by rfl)
    (h1 : (assignEach [tg] X.env).map (·.2) = [assign tg X.env] := by rfl) : SS cl X W (.Assign [tg] e pos) (cAsg ca gt) := PS.imp (ps_asg h hp hs hw h1) fun D σ H h => tS_asg hg D σ H h
def cSet (i : Nat) (c : M D) : MS := cAsg c (gtName i)
theorem ss_set {i : Nat} {x : Str} {pos' : Pos} (hN : X.N.Nodup) (hi : X.N[i]? = some x) (hx : Loc X.env.scope x) (he : SE cl X W e ca) (hs : swapsWith e (some (.Name x pos')) pos.line X.env = pure false := by rfl)
    (hf : X.fn x = true ∨ X.env.scope.names.lookup x = some .local := by first | exact .inl rfl | exact .inr rfl | assumption) : SS cl X W (.Assign [.Name x pos'] e pos) (cSet i ca) :=
  PS.imp (ps_set hN hi hx he hs hf) fun D σ H h => tS_asg (gd_name i) D σ H h

/-! for -/
/-- a walk's turns are the items ds, whatever happens beside -/
structure ItD (cl : Cl) (J : It) (ds : List D) (F0 : Hp) : Prop where
  go : ∀ i F H, Sub F0 F → Ext F H → i < ds.length → J.go i H
  stop : ∀ i F H, Sub F0 F → Ext F H → ds.length ≤ i → J.stop i H
  yld : ∀ i F H x H', Sub F0 F → Ext F H → i < ds.length → J.yld i H x H' → ∃ d F', ds[i]? = some d ∧ New F H F' H' ∧ Rep cl F' d x
def tI (cl : Cl) (W : WX) (c : M (List D)) : TI := fun σ H R => tM cl (fun _ F _ ds J => ItD cl J ds F) W c σ H R
def SI (cl : Cl) (X : Cx) (W : WX) (tg e : Expr) (c : M (List D)) : Prop := PI X tg e (tI cl W c)
theorem PI.imp {tg : Expr} {w w' : TI} (h : PI X tg e w) (i : ∀ σ H R, w' σ H R → w σ H R) : PI X tg e w' := ⟨fun pins s σ H R I z => h.run pins s σ H R I (i _ _ _ z)⟩
def forL (gt : D → Rho → Option Rho) (cb : MS) : List D → MS
  | [], r => .nx r
  | d :: ds, r => match gt d r with
    | none => .stuck
    | some r1 => match cb r1 with
      | .nx r2 => forL gt cb ds r2
      | .ct r2 => forL gt cb ds r2
      | .bk r2 => .nx r2
      | x => x
def cFor (ci : M (List D)) (gt : D → Rho → Option Rho) (cb : MS) : MS := liftS ci fun ds => forL gt cb ds
theorem ss_for {tg : Expr} {ci : M (List D)} {g : TG} {gt : D → Rho → Option Rho} (hp : PassesOwn (model X.prog X.w) X.A X.env X.xe) (hc : X.calm = true) (hi : SI cl X W tg e ci) (hg : PG X tg g) (hd : GD cl g gt) (hb : SSs cl X W body c)
    (hs : ∀ x, foldedSetIterable e X.env x = pure x := by intro _; rfl) : SS cl X W (.For tg e body [] pos) (cFor ci gt c) := PS.imp (ps_for hp hc hi hg hb hs) fun D σ H ⟨ρ, F, s, f⟩ => by
  refine tM_of s (FolS.lift f fun ds J ρ1 F1 H1 s1 m1 it f1 => ?_)
  refine ⟨fun i m σ' H' => m = ds.length - i ∧ i ≤ ds.length ∧ ∃ ρ' F', St0 cl ρ' σ' F' H' ∧ Sub F1 F' ∧ FolS cl W (forL gt c (ds.drop i) ρ') ρ' σ' F' H' D,
    ⟨_, rfl, Nat.zero_le _, ρ1, F1, s1, fun _ _ z => z, f1⟩, ?_⟩
  rintro i m σ2 H2 ⟨rfl, hi, ρ2, F2, s2, m2, f2⟩
  by_cases hlt : i < ds.length
  · refine .inr ⟨it.go i F2 H2 m2 s2.ext hlt, fun σ' H' => ∃ ρ' F', St0 cl ρ' σ' F' H' ∧ Sub F1 F' ∧ FolS cl W (forL gt c (ds.drop (i + 1)) ρ') ρ' σ' F' H' D,
      fun σ' H' ⟨ρ', F', a1, a2, a3⟩ => ⟨ds.length - (i + 1), by omega, rfl, hlt, ρ', F', a1, a2, a3⟩, fun x H3 hy => ?_⟩
    obtain ⟨d, F3, hd1, n3, r3⟩ := it.yld i F2 H2 x H3 m2 s2.ext hlt hy
    rw [List.drop_eq_getElem_cons hlt] at f2
    have ed : ds[i] = d := by
      rw [List.getElem?_eq_getElem hlt] at hd1
      exact Option.some.inj hd1
    rw [ed] at f2
    unfold forL at f2
    cases q : gt d ρ2 with
    | none => rw [q] at f2; exact f2.elim
    | some ρ3 =>
      rw [q] at f2
      dsimp only at f2
      have s3 := s2.new n3
      refine hd d x ρ2 σ2 F3 H3 ρ3 _ s3 r3 q fun σ4 F4 H4 s4 g4 => tS_of s4 ?_
      have g24 : Go ρ2 σ2 F2 H2 ρ3 σ4 F4 H4 := (Go.new n3).trans g4
      have m4 : Sub F1 F4 := fun a o z => g24.mono a o (m2 a o z)
      cases q2 : c ρ3 with
      | nx ρ5 =>
        rw [q2] at f2
        exact fun σ5 F5 H5 s5 g5 => ⟨ρ5, F5, s5, fun a o z => g5.mono a o (m4 a o z), FolS.after f2 (g24.trans g5)⟩
      | ct ρ5 =>
        rw [q2] at f2
        exact fun σ5 F5 H5 s5 g5 => ⟨ρ5, F5, s5, fun a o z => g5.mono a o (m4 a o z), FolS.after f2 (g24.trans g5)⟩
      | bk ρ5 =>
        rw [q2] at f2
        exact fun σ5 F5 H5 s5 g5 => f2 σ5 F5 H5 s5 (g24.trans g5)
      | rt d' ρ5 =>
        rw [q2] at f2
        exact FolS.after (r := .rt d' ρ5) f2 g24
      | ro d' ρ5 =>
        rw [q2] at f2
        exact FolS.after (r := .ro d' ρ5) f2 g24
      | exc k' d' ρ5 =>
        rw [q2] at f2
        exact fun σ5 F5 H5 dx v s5 g5 e5 r5 => f2 σ5 F5 H5 dx v s5 (g24.trans g5) e5 r5
      | stuck => rw [q2] at f2; exact f2
  · have hge : ds.length ≤ i := Nat.le_of_not_lt hlt
    rw [List.drop_eq_nil_of_le hge] at f2
    exact .inl ⟨it.stop i F2 H2 m2 s2.ext hge, f2 σ2 F2 H2 s2 Go.refl⟩

/-! while -/
def whileL (ct : M Bool) (cb : MS) : Nat → MS
  | 0, _ => .stuck
  | n + 1, r => match ct r with
    | .ok true r1 => match cb r1 with
      | .nx r2 => whileL ct cb n r2
      | .ct r2 => whileL ct cb n r2
      | .bk r2 => .nx r2
      | x => x
    | .ok false r1 => .nx r1
    | .exc k d r1 => .exc k d r1
    | .stuck => .stuck
theorem ss_while (n : Nat) {ct : M Bool} (hp : PassesOwn (model X.prog X.w) X.A X.env X.xe) (ht : ST cl X W t ct) (hb : SSs cl X W body c) : SS cl X W (.While t body [] pos) (whileL ct c n) := PS.imp (ps_while hp ht hb) fun D σ H ⟨ρ, F, s, f⟩ => by
  refine ⟨fun m σ' H' => ∃ ρ' F', St0 cl ρ' σ' F' H' ∧ FolS cl W (whileL ct c m ρ') ρ' σ' F' H' D, ⟨n, ρ, F, s, f⟩, ?_⟩
  rintro m σ1 H1 ⟨ρ1, F1, s1, f1⟩
  cases m with
  | zero => exact f1.elim
  | succ m =>
    refine tM_of s1 ?_
    unfold whileL at f1
    cases q : ct ρ1 with
    | exc k' d' ρ2 =>
      rw [q] at f1
      exact fun F' H' dx v s g e r => f1 σ1 F' H' dx v s g e r
    | stuck => rw [q] at f1; exact f1
    | ok bb ρ2 =>
      rw [q] at f1
      intro v F2 H2 s2 g2 e2
      cases e2
      cases bb with
      | false =>
        dsimp only at f1
        exact f1 σ1 F2 H2 s2 g2
      | true =>
        dsimp only at f1
        refine ⟨fun σ' H' => ∃ ρ' F', St0 cl ρ' σ' F' H' ∧ FolS cl W (whileL ct c m ρ') ρ' σ' F' H' D, fun σ' H' z => ⟨m, Nat.lt_succ_self _, z⟩, tS_of s2 ?_⟩
        cases q2 : c ρ2 with
        | nx ρ5 =>
          rw [q2] at f1
          exact fun σ5 F5 H5 s5 g5 => ⟨ρ5, F5, s5, FolS.after f1 (g2.trans g5)⟩
        | ct ρ5 =>
          rw [q2] at f1
          exact fun σ5 F5 H5 s5 g5 => ⟨ρ5, F5, s5, FolS.after f1 (g2.trans g5)⟩
        | bk ρ5 =>
          rw [q2] at f1
          exact fun σ5 F5 H5 s5 g5 => f1 σ5 F5 H5 s5 (g2.trans g5)
        | rt d' ρ5 =>
          rw [q2] at f1
          exact FolS.after (r := .rt d' ρ5) f1 g2
        | ro d' ρ5 =>
          rw [q2] at f1
          exact FolS.after (r := .ro d' ρ5) f1 g2
        | exc k' d' ρ5 =>
          rw [q2] at f1
          exact fun σ5 F5 H5 dx v s5 g5 e5 r5 => f1 σ5 F5 H5 dx v s5 (g2.trans g5) e5 r5
        | stuck => rw [q2] at f1; exact f1

/-! walks of lists, tuples, ranges -/
theorem repL_at {F : Hp} {xs : List D} {vs : List V} (h : RepL cl F xs vs) {i : Nat} {v : V} (e : vs[i]? = some v) : ∃ d, xs[i]? = some d ∧ Rep cl F d v := by
  induction h generalizing i with
  | nil => simp at e
  | cons r t ih =>
    cases i with
    | zero =>
      simp at e
      subst e
      exact ⟨_, rfl, r⟩
    | succ i =>
      simp at e
      obtain ⟨d, h1, h2⟩ := ih e
      exact ⟨d, by simpa using h1, h2⟩
theorem repL_get {F : Hp} {xs : List D} {vs : List V} (h : RepL cl F xs vs) {i : Nat} {d : D} (e : xs[i]? = some d) : ∃ v, vs[i]? = some v ∧ Rep cl F d v := by
  induction h generalizing i with
  | nil => simp at e
  | cons r t ih =>
    cases i with
    | zero =>
      simp at e
      subst e
      exact ⟨_, rfl, r⟩
    | succ i =>
      simp at e
      obtain ⟨d, h1, h2⟩ := ih e
      exact ⟨d, by simpa using h1, h2⟩
theorem sqL_of {K : PySem.W.Frag} {F H : Hp} {a : Addr} {vs : List V} (e : Ext F H) (h : F a = some (.lst vs)) : SqL K H a vs := .inl (e _ _ h).rd
theorem sqL_scr {K : PySem.W.Frag} {F H : Hp} {a : Addr} {ob : Obj} {vs : List V} (e : Ext F H) (h : F a = some (.frz ob (.lst vs))) : SqL K H a vs := .inl (.inr ⟨ob, (e _ _ h).one fun z => z⟩)
theorem sqT_of {K : PySem.W.Frag} {F H : Hp} {a : Addr} {vs : List V} (e : Ext F H) (h : F a = some (.tup vs)) : SqT K H a vs := .inl (e _ _ h).rd
theorem itd_list {K : PySem.W.Frag} {a : Addr} {vs : List V} {xs : List D} {F0 : Hp} (h : ∀ F H, Sub F0 F → Ext F H → SqL K H a vs) (r : RepL cl F0 xs vs) : ItD cl (Itl K a) xs F0 where
  go := fun i F H m e hi => by
    have hv : i < vs.length := by rw [← Paired.length r]; exact hi
    exact ⟨vs, vs[i], h F H m e, List.getElem?_eq_getElem hv⟩
  stop := fun i F H m e hi => ⟨vs, h F H m e, by rw [← Paired.length r]; exact hi⟩
  yld := fun i F H x H' m e hi hy => by
    obtain ⟨rfl, hx⟩ := hy
    obtain ⟨d, h1, h2⟩ := repL_at r (hx vs (h F H' m e))
    exact ⟨d, F, h1, New.refl e, h2.mono m⟩
theorem itd_tup {K : PySem.W.Frag} {a : Addr} {vs : List V} {xs : List D} {F0 : Hp} (h : ∀ F H, Sub F0 F → Ext F H → SqT K H a vs) (r : RepL cl F0 xs vs) : ItD cl (Itt K a) xs F0 where
  go := fun i F H m e hi => by
    have hv : i < vs.length := by rw [← Paired.length r]; exact hi
    exact ⟨vs, vs[i], h F H m e, List.getElem?_eq_getElem hv⟩
  stop := fun i F H m e hi => ⟨vs, h F H m e, by rw [← Paired.length r]; exact hi⟩
  yld := fun i F H x H' m e hi hy => by
    obtain ⟨rfl, hx⟩ := hy
    obtain ⟨d, h1, h2⟩ := repL_at r (hx vs (h F H' m e))
    exact ⟨d, F, h1, New.refl e, h2.mono m⟩
def itemsL : D → Option (List D)
  | .lst xs => some xs
  | .scr xs => some xs
  | _ => none
def itemsT : D → Option (List D)
  | .tup xs => some xs
  | _ => none
def cItems (f : D → Option (List D)) (c : M D) : M (List D) := c.bind fun d => M.opt (f d)
theorem si_list {tg : Expr} (h : SE cl X W e ca) : SI cl X W tg e (cItems itemsL ca) := PI.imp (pi_list h) fun σ H R ⟨ρ, F, s, f⟩ =>
  tM_of s (Fol.bind f fun x v ρ1 F1 H1 s1 m1 r1 h1 => by
    obtain ⟨z, e, h3⟩ := Fol.opt h1
    cases r1 with
    | lst q r =>
      cases e
      exact ⟨_, rfl, ⟨_, sqL_of s1.ext q⟩, h3 _ F1 H1 s1 Go.refl (itd_list (fun F H m e => sqL_of e (m _ _ q)) r)⟩
    | scr q r =>
      cases e
      exact ⟨_, rfl, ⟨_, sqL_scr s1.ext q⟩, h3 _ F1 H1 s1 Go.refl (itd_list (fun F H m e => sqL_scr e (m _ _ q)) r)⟩
    | _ => cases e)
theorem si_tup {tg : Expr} (h : SE cl X W e ca) : SI cl X W tg e (cItems itemsT ca) := PI.imp (pi_tup h) fun σ H R ⟨ρ, F, s, f⟩ =>
  tM_of s (Fol.bind f fun x v ρ1 F1 H1 s1 m1 r1 h1 => by
    obtain ⟨z, e, h3⟩ := Fol.opt h1
    cases r1 with
    | tup q r =>
      cases e
      exact ⟨_, rfl, ⟨_, sqT_of s1.ext q⟩, h3 _ F1 H1 s1 Go.refl (itd_tup (fun F H m e => sqT_of e (m _ _ q)) r)⟩
    | _ => cases e)
def rangeL (lo : Int) (n : Nat) : List D := (List.range n).map fun i => .int (lo + (i : Nat))
theorem rangeL_len {lo : Int} {n : Nat} : (rangeL lo n).length = n := by simp [rangeL]
theorem rangeL_at {lo : Int} {n i : Nat} (h : i < n) : (rangeL lo n)[i]? = some (.int (lo + (i : Nat))) := by simp [rangeL, h]
theorem itd_range {lo : Int} {n : Nat} {F0 : Hp} : ItD cl (Itr lo n) (rangeL lo n) F0 where
  go := fun i F H m e hi => by rw [rangeL_len] at hi; exact hi
  stop := fun i F H m e hi => by rw [rangeL_len] at hi; exact hi
  yld := fun i F H x H' m e hi hy => by
    rw [rangeL_len] at hi
    obtain ⟨rfl, rfl⟩ := hy
    exact ⟨_, F, rangeL_at hi, New.refl e, .int⟩
def rng1 (xs : List D) : Option (List D) := match xs with
  | [.int j] => if -(2 ^ 62) ≤ j ∧ j < 2 ^ 62 then some (rangeL 0 j.toNat) else none
  | _ => none
def rng2 (xs : List D) : Option (List D) := match xs with
  | [.int i, .int j] => if -(2 ^ 62) ≤ i ∧ i < 2 ^ 62 ∧ -(2 ^ 62) ≤ j ∧ j < 2 ^ 62 then some (rangeL i (j - i).toNat) else none
  | _ => none
def cRng (f : List D → Option (List D)) (k : M (List D)) : M (List D) := k.bind fun xs => M.opt (f xs)
theorem si_range1 {tg : Expr} {p : Pos} {k : M (List D)} (hg : Gl X "range") (hm : X.mg "range" = none) (h : SL cl X W [a] k) (hs : starEach [a] X.env = [(false, eval a X.env)] := by rfl) : SI cl X W tg (.Call (.Name "range" p) [a] [] pos) (cRng rng1 k) :=
  PI.imp (pi_range1 hg hm h hs) fun σ H R ⟨ρ, F, s, f⟩ => tM_of s (Fol.bind f fun x v ρ1 F1 H1 s1 m1 r1 h1 => by
    obtain ⟨z, e, h3⟩ := Fol.opt h1
    unfold rng1 at e
    split at e
    · split at e
      · rename_i j hj
        cases e
        cases r1 with
        | cons q t =>
          cases q
          cases t
          exact ⟨_, rfl, hj.1, hj.2, h3 _ F1 H1 s1 Go.refl itd_range⟩
      · cases e
    · cases e)
theorem si_range2 {tg : Expr} {p : Pos} {k : M (List D)} (hg : Gl X "range") (hm : X.mg "range" = none) (h : SL cl X W [a, b] k) (hs : starEach [a, b] X.env = [(false, eval a X.env), (false, eval b X.env)] := by rfl) (hs2 : starEach [b] X.env = [(false, eval b X.env)] := by rfl) : SI cl X W tg (.Call (.Name "range" p) [a, b] [] pos) (cRng rng2 k) :=
  PI.imp (pi_range2 hg hm h (by exact hs) (by exact hs2)) fun σ H R ⟨ρ, F, s, f⟩ => tM_of s (Fol.bind f fun x v ρ1 F1 H1 s1 m1 r1 h1 => by
    obtain ⟨z, e, h3⟩ := Fol.opt h1
    unfold rng2 at e
    split at e
    · split at e
      · rename_i i j hj
        cases e
        cases r1 with
        | cons q t =>
          cases q
          cases t with
          | cons q2 t2 =>
            cases q2
            cases t2
            exact ⟨_, _, rfl, hj, h3 _ F1 H1 s1 Go.refl itd_range⟩
      · cases e
    · cases e)
end
end PyD
end
section
set_option linter.all false
set_option maxRecDepth 100000
set_option maxHeartbeats 4000000
namespace PyD
open PySem L2

/-! ### arguments -/
inductive Av where
  | v (d : D) | io (i : Nat)
def RepAv (cl : Cl) (σ : St) (F : Hp) : Av → V → Prop
  | .v d, v => Rep cl F d v
  | .io i, v => σ[i]? = some (some v)
abbrev AA (cl : Cl) : St → Hp → Hp → List Av → List V → Prop := fun σ F _ as vs => Paired (RepAv cl σ F) as vs
def SA (cl : Cl) (X : Cx) (W : WX) (es : List Expr) (c : M (List Av)) : Prop := PA X es (tM cl (AA cl) W c)
section
variable {cl : Cl} {X : Cx} {W : WX} {e : Expr} {es : List Expr} {pos : Pos} {ca : M D}
theorem RepAv.mono {σ : St} {F F' : Hp} (s : Sub F F') {a : Av} {v : V} (h : RepAv cl σ F a v) : RepAv cl σ F' a v := by
  cases a with
  | v d => exact Rep.mono s d v h
  | io i => exact h
theorem sa_nil : SA cl X W [] (M.ret []) := PA.imp pa_nil fun σ H Q ⟨ρ, F, s, f⟩ => f _ F H s Go.refl .nil
def cArg (c : M D) (k : M (List Av)) : M (List Av) := c.bind fun x => k.bind fun xs => M.ret (.v x :: xs)
def cArgR (i : Nat) (k : M (List Av)) : M (List Av) := k.bind fun xs => M.ret (.io i :: xs)
theorem sa_v {k : M (List Av)} (h : SE cl X W e ca) (h2 : SA cl X W es k) (hs : starEach (e :: es) X.env = (false, eval e X.env) :: starEach es X.env := by rfl) : SA cl X W (e :: es) (cArg ca k) := PA.imp (pa_cons h h2 hs) fun σ H Q ⟨ρ, F, s, f⟩ =>
  tM_of s (Fol.bind f fun x u ρ1 F1 H1 s1 m1 r1 h1 => tM_of s1 (Fol.bind h1 fun y v ρ2 F2 H2 s2 m2 r2 h2 => h2 _ F2 H2 s2 Go.refl (.cons (Rep.mono m2 _ _ r1) r2)))
/-- a name whose object is handed on as one's own -/
def used (i : Nat) (k : M (List Av)) : M (List Av) := fun r => match r[i]? with
  | some (.im _) => (cArgR i k) r
  | some (.ow _ _) => (cArgR i k) r
  | _ => .stuck
theorem sa_io {i : Nat} {k : M (List Av)} (h : PE X e (tVar i)) (h2 : SA cl X W es k) (hs : starEach (e :: es) X.env = (false, eval e X.env) :: starEach es X.env := by rfl) : SA cl X W (e :: es) (used i k) := PA.imp (pa_cons h h2 hs) fun σ H Q ⟨ρ, F, s, f⟩ => by
  have key : ∀ x v, ρ[i]? = some x → σ[i]? = some (some v) → Fol cl (AA cl) W (cArgR i k ρ) ρ σ F H Q → tCons (tVar i) (tM cl (AA cl) W k) σ H Q := fun x v hx hv f => by
    refine ⟨v, hv, tM_of s (Fol.bind f fun y u ρ2 F2 H2 s2 m2 r2 h2 => h2 _ F2 H2 s2 Go.refl (.cons hv r2))⟩
  unfold used at f
  cases q : ρ[i]? with
  | none => rw [q] at f; exact f.elim
  | some x =>
    rw [q] at f
    obtain ⟨o, ho, kk⟩ := s.slot q
    cases x with
    | un => exact f.elim
    | im d =>
      obtain ⟨v, rfl, r⟩ := kk
      exact key _ v q ho f
    | ow b d =>
      obtain ⟨p, u, rfl, _⟩ := kk
      exact key _ _ q ho f
end

/-! ### defs -/
inductive FR where
  | ok (d : D) (outs : List Sl) | exc (k : Str) (d : D) (outs : List Sl) | stuck
abbrev Fn := List Sl → FR
/-- of the parameters' slots what the caller gets back -/
def back1 : Sl → Sl
  | .ow true d => .ow true d
  | _ => .un
def backs (n : Nat) (r : Rho) : List Sl := (r.take n).map back1
/-- a def of n names by its body's mirror -/
def runF (n : Nat) (c : MS) : Fn := fun ss => match c (ss ++ List.replicate (n - ss.length) .un) with
  | .nx r => .ok .non (backs ss.length r)
  | .rt d r => .ok d (backs ss.length r)
  | .exc k d r => .exc k d (backs ss.length r)
  | _ => .stuck
def clean (ss : List Sl) : Bool := ss.all fun s => match s with
  | .ow false _ => false
  | .un => false
  | _ => true
section
variable (cl : Cl)
def spF (f : Fn) (n : Nat) : Sp := fun vs H Q E => vs.length = n ∧ ∃ ss F, St0 cl ss (vs.map some) F H ∧ clean ss = true ∧ match f ss with
  | .ok d outs => ∀ v F' H', St0 cl outs (vs.map some) F' H' → Go ss (vs.map some) F H outs (vs.map some) F' H' → Rep cl F' d v → Q v H'
  | .exc k d outs => ∀ F' H' dx v, St0 cl outs (vs.map some) F' H' → Go ss (vs.map some) F H outs (vs.map some) F' H' → F' dx = some (.xd [("value", v)]) → Rep cl F' d v → E (.ref (cl k)) (some dx) H'
  | .stuck => False
variable {cl}
theorem clean_at {ss : List Sl} (h : clean ss = true) {i : Nat} {d : D} {b : Bool} (e : ss[i]? = some (.ow b d)) : b = true := by
  have q := List.all_eq_true.mp h _ (List.mem_of_getElem? e)
  cases b with
  | true => rfl
  | false => cases q
theorem map_some_get {vs : List V} {i : Nat} {o : Option V} (h : (vs.map some)[i]? = some o) : ∃ v, vs[i]? = some v ∧ o = some v := by
  rw [List.getElem?_map] at h
  obtain ⟨v, h1, h2⟩ := Option.map_eq_some_iff.mp h
  exact ⟨v, h1, h2.symm⟩
theorem app_get {α : Type} {a b : List α} {i : Nat} {x : α} (h : a[i]? = some x) : (a ++ b)[i]? = some x := by
  rw [List.getElem?_append_left (List.getElem?_eq_some_iff.mp h).1]
  exact h
/-- the slots at a def's entry -/
theorem St0.entry {ss : List Sl} {vs : List V} {F H : Hp} {N : List Str} (s : St0 cl ss (vs.map some) F H) (hl : vs.length ≤ N.length) :
    St0 cl (ss ++ List.replicate (N.length - ss.length) .un) (start N vs) F H := by
  have e1 : ss.length = vs.length := by rw [s.len, List.length_map]
  have un : ∀ (i : Nat) (b : Bool) (d : D), (ss ++ List.replicate (N.length - ss.length) Sl.un)[i]? = some (.ow b d) → ss[i]? = some (.ow b d) := fun i b d h => by
    by_cases hi : i < ss.length
    · rw [List.getElem?_append_left hi] at h
      exact h
    · rw [List.getElem?_append_right (Nat.le_of_not_lt hi)] at h
      have z := List.mem_of_getElem? h
      rw [List.mem_replicate] at z
      cases z.2
  have lt : ∀ (i : Nat) (x : Sl), ss[i]? = some x → i < vs.length := fun i x h => by rw [← e1]; exact (List.getElem?_eq_some_iff.mp h).1
  have st : ∀ (i : Nat), i < vs.length → (start N vs)[i]? = (vs.map some)[i]? := fun i hi => by
    unfold L2.start
    rw [List.getElem?_append_left (by rw [List.length_map]; exact hi)]
  refine ⟨s.ext, ?_, fun i x o h1 h2 => ?_, fun i j b c x y p h1 h2 h3 h4 => ?_⟩
  · unfold L2.start
    simp only [List.length_append, List.length_replicate, List.length_map]
    omega
  · cases x with
    | un => trivial
    | im d =>
      have hi : i < ss.length := by
        refine Classical.byContradiction fun z => ?_
        rw [List.getElem?_append_right (Nat.le_of_not_lt z)] at h1
        have z := List.mem_of_getElem? h1
        rw [List.mem_replicate] at z
        cases z.2
      rw [List.getElem?_append_left hi] at h1
      rw [st i (lt i _ h1)] at h2
      exact s.sl i _ o h1 h2
    | ow b d =>
      have h := un i b d h1
      rw [st i (lt i _ h)] at h2
      exact s.sl i _ o h h2
  · have g1 := un i b x h1
    have g2 := un j c y h2
    rw [st i (lt i _ g1)] at h3
    rw [st j (lt j _ g2)] at h4
    exact s.ds i j b c x y p g1 g2 h3 h4
theorem backs_at {n : Nat} {r : Rho} {i : Nat} {b : Bool} {d : D} (h : (backs n r)[i]? = some (.ow b d)) : b = true ∧ r[i]? = some (.ow true d) ∧ i < n := by
  unfold backs at h
  rw [List.getElem?_map, List.getElem?_take] at h
  split at h
  · rename_i hi
    obtain ⟨x, h1, h2⟩ := Option.map_eq_some_iff.mp h
    cases x with
    | un => cases h2
    | im _ => cases h2
    | ow b' d' =>
      cases b' with
      | false => cases h2
      | true =>
        cases h2
        exact ⟨rfl, h1, hi⟩
  · cases h
/-- the slots behind a def's body, for its caller -/
theorem leave {ss : List Sl} {vs : List V} {F H F' H' : Hp} {N : List Str} {ρ' : Rho} {σ' : St} (s : St0 cl ss (vs.map some) F H) (hcl : clean ss = true) (hl : vs.length ≤ N.length)
    (s' : St0 cl ρ' σ' F' H') (g : Go (ss ++ List.replicate (N.length - ss.length) .un) (start N vs) F H ρ' σ' F' H') :
    St0 cl (backs ss.length ρ') (vs.map some) F' H' ∧ Go ss (vs.map some) F H (backs ss.length ρ') (vs.map some) F' H' := by
  have e1 : ss.length = vs.length := by rw [s.len, List.length_map]
  have lr : ρ'.length = N.length := by
    rw [s'.len, g.len]
    unfold L2.start
    simp only [List.length_append, List.length_replicate, List.length_map]
    omega
  have st : ∀ (i : Nat), i < vs.length → (start N vs)[i]? = (vs.map some)[i]? := fun i hi => by
    unfold L2.start
    rw [List.getElem?_append_left (by rw [List.length_map]; exact hi)]
  have un : ∀ (i : Nat) (b : Bool) (d : D), (ss ++ List.replicate (N.length - ss.length) Sl.un)[i]? = some (.ow b d) → ss[i]? = some (.ow b d) := fun i b d h => by
    by_cases hi : i < ss.length
    · rw [List.getElem?_append_left hi] at h
      exact h
    · rw [List.getElem?_append_right (Nat.le_of_not_lt hi)] at h
      have z := List.mem_of_getElem? h
      rw [List.mem_replicate] at z
      cases z.2
  have ownE : ∀ a, Own (ss ++ List.replicate (N.length - ss.length) .un) (start N vs) a → Own ss (vs.map some) a := fun a ⟨i, b, d, h1, h2⟩ => by
    have h := un i b d h1
    exact ⟨i, b, d, h, by rw [← st i (by rw [← e1]; exact (List.getElem?_eq_some_iff.mp h).1)]; exact h2⟩
  have ownE' : ∀ a, Own ss (vs.map some) a → Own (ss ++ List.replicate (N.length - ss.length) .un) (start N vs) a := fun a ⟨i, b, d, h1, h2⟩ =>
    ⟨i, b, d, app_get h1, by rw [st i (by rw [← e1]; exact (List.getElem?_eq_some_iff.mp h1).1)]; exact h2⟩
  -- an object that stays one's own stands where it stood
  have same : ∀ (i : Nat) (d : D), ρ'[i]? = some (.ow true d) → i < ss.length → σ'[i]? = (vs.map some)[i]? := fun i d h hi => by
    obtain ⟨d0, h0⟩ := g.pinB i d h
    obtain ⟨e, _⟩ := g.pin i d0 h0
    rw [e, st i (by rw [← e1]; exact hi)]
  have len' : (backs ss.length ρ').length = ss.length := by
    unfold backs
    rw [List.length_map, List.length_take, lr]
    omega
  have at_ : ∀ (i : Nat) (d : D), ρ'[i]? = some (.ow true d) → i < ss.length → (backs ss.length ρ')[i]? = some (.ow true d) := fun i d h hi => by
    unfold backs
    rw [List.getElem?_map, List.getElem?_take, if_pos hi, h]
    rfl
  refine ⟨⟨s'.ext, by rw [len', List.length_map, e1], fun i x o h1 h2 => ?_, fun i j b c x y p h1 h2 h3 h4 => ?_⟩, ⟨g.mono, fun a o h n => g.fr a o h fun z => n (ownE a z), fun a ⟨i, b, d, h1, h2⟩ => ?_, fun i d h => ⟨rfl, ?_⟩, fun i d h => ?_, rfl, g.there⟩⟩
  · cases x with
    | un => trivial
    | im d =>
      unfold backs at h1
      rw [List.getElem?_map] at h1
      obtain ⟨y, _, q⟩ := Option.map_eq_some_iff.mp h1
      cases y with
      | un => cases q
      | im _ => cases q
      | ow b _ => cases b <;> cases q
    | ow b d =>
      obtain ⟨rfl, h3, hi⟩ := backs_at h1
      exact s'.sl i _ o h3 (by rw [same i d h3 hi]; exact h2)
  · obtain ⟨rfl, g1, hi⟩ := backs_at h1
    obtain ⟨rfl, g2, hj⟩ := backs_at h2
    exact s'.ds i j _ _ _ _ p g1 g2 (by rw [same i _ g1 hi]; exact h3) (by rw [same j _ g2 hj]; exact h4)
  · obtain ⟨rfl, h3, hi⟩ := backs_at h1
    rcases g.own a ⟨i, true, d, h3, by rw [same i d h3 hi]; exact h2⟩ with q | q
    · exact .inl (ownE a q)
    · exact .inr q
  · obtain ⟨_, d', h'⟩ := g.pin i d (app_get h)
    exact ⟨d', at_ i d' h' (List.getElem?_eq_some_iff.mp h).1⟩
  · obtain ⟨_, h3, hi⟩ := backs_at h
    obtain ⟨d0, h0⟩ := g.pinB i d h3
    exact ⟨d0, un i true d0 h0⟩
/-- a def keeps the promise of its mirror -/
theorem fn_ok {P : Program} {w : World} {K : PySem.W.Frag} {mg : Str → Option Value} {base : Heap} {x qual : Str} {st : Stmt} {f : Addr} {fd : FuncData} {N ps : List Str} {k : Nat} {c : MS} (F : Fun K x qual st f fd) (S : FnScope N ps (defScope st)) (hn : ps.length ≤ N.length)
    (hb : ∀ (cdv : Value) (A : Around) (outer : List Env) (s : Shared) (H : Hp) (E : XK), Room k (A.deeper (PyProof.Rows.envOfC qual (defScope st) s.heap.objs.size f cdv)) →
      SSs cl (cxOf (L2.CX P w) P w K mg base N qual (defScope st) f cdv A outer s H E) (fun c d _ H => E c d H) (defBody st) c) :
    FnOk P w K mg base (L2.CX P w) (k + 1) f fd ps (spF cl (runF N.length c) ps.length) := by
  refine F.okX S (fun vs H Q E h => h.1) fun cdv A outer s H vs Q E hr h => ⟨_, hb cdv A outer s H E hr, ?_⟩
  obtain ⟨hl, ss, F0, s0, hcl, q⟩ := h
  have hl' : vs.length ≤ N.length := by rw [hl]; exact hn
  refine tS_of (s0.entry (N := N) hl') ?_
  unfold runF at q
  cases e : c (ss ++ List.replicate (N.length - ss.length) .un) with
  | nx r =>
    rw [e] at q
    intro σ' F' H' s' g
    obtain ⟨a, b⟩ := leave s0 hcl hl' s' g
    exact q .non F' H' a b .non
  | rt d r =>
    rw [e] at q
    intro v σ' F' H' s' g rv
    obtain ⟨a, b⟩ := leave s0 hcl hl' s' g
    exact q v F' H' a b rv
  | exc k d r =>
    rw [e] at q
    intro σ' F' H' dx v s' g ex rv
    obtain ⟨a, b⟩ := leave s0 hcl hl' s' g
    exact q F' H' dx v a b ex rv
  | bk r => rw [e] at q; exact q.elim
  | ro d r => rw [e] at q; exact q.elim
  | ct r => rw [e] at q; exact q.elim
  | stuck => rw [e] at q; exact q.elim
end

/-! ### calls of defs by their names -/
def toSl (r : Rho) : Av → Option Sl
  | .v d => some (.im d)
  | .io i => match r[i]? with
    | some (.ow _ d) => some (.ow true d)
    | some (.im d) => some (.im d)
    | _ => none
def iosOf : List Av → List Nat
  | [] => []
  | .io i :: r => i :: iosOf r
  | _ :: r => iosOf r
def put1 (r : Rho) (i : Nat) (d : D) : Rho := match r[i]? with
  | some (.ow b _) => r.set i (.ow b d)
  | _ => r
def putBack : Rho → List Av → List Sl → Rho
  | r, .io i :: as, .ow true d :: os => putBack (put1 r i d) as os
  | r, _ :: as, _ :: os => putBack r as os
  | r, _, _ => r
def allSl (r : Rho) : List Av → Option (List Sl)
  | [] => some []
  | a :: as => (toSl r a).bind fun s => (allSl r as).bind fun ss => some (s :: ss)
def noDup : List Nat → Bool
  | [] => true
  | i :: r => !r.contains i && noDup r
def cCallF (f : Fn) (n : Nat) (k : M (List Av)) : M D := fun r => match k r with
  | .ok as r1 => match allSl r1 as with
    | some ss => if noDup (iosOf as) = true ∧ as.length = n then (match f ss with
      | .ok d outs => .ok d (putBack r1 as outs)
      | .exc k d outs => .exc k d (putBack r1 as outs)
      | .stuck => .stuck) else .stuck
    | none => .stuck
  | .exc k d r1 => .exc k d r1
  | .stuck => .stuck
end PyD
end
section
set_option linter.all false
set_option maxRecDepth 100000
set_option maxHeartbeats 4000000
namespace PyD
open PySem L2

theorem put1_ne {r : Rho} {i j : Nat} {d : D} (h : j ≠ i) : (put1 r i d)[j]? = r[j]? := by
  unfold put1
  split
  · rw [List.getElem?_set_ne (Ne.symm h)]
  · rfl
theorem put1_len {r : Rho} {i : Nat} {d : D} : (put1 r i d).length = r.length := by
  unfold put1
  split
  · rw [List.length_set]
  · rfl
theorem putBack_len : ∀ (as : List Av) (os : List Sl) (r : Rho), (putBack r as os).length = r.length
  | [], [], r => by unfold putBack; rfl
  | [], _ :: _, r => by unfold putBack; rfl
  | a :: as, [], r => by cases a <;> rfl
  | .v d :: as, s :: os, r => by
    unfold putBack
    exact putBack_len as os r
  | .io i :: as, s :: os, r => by
    cases s with
    | un => exact putBack_len as os r
    | im _ => exact putBack_len as os r
    | ow b d =>
      cases b with
      | false => exact putBack_len as os r
      | true =>
        show (putBack (put1 r i d) as os).length = _
        rw [putBack_len as os, put1_len]
theorem putBack_out : ∀ (as : List Av) (os : List Sl) (r : Rho) (j : Nat), j ∉ iosOf as → (putBack r as os)[j]? = r[j]?
  | [], [], r, j, _ => by unfold putBack; rfl
  | [], _ :: _, r, j, _ => by unfold putBack; rfl
  | a :: as, [], r, j, _ => by cases a <;> rfl
  | .v d :: as, s :: os, r, j, h => by
    unfold putBack
    exact putBack_out as os r j h
  | .io i :: as, s :: os, r, j, h => by
    have h1 : j ≠ i := fun z => h (z ▸ List.mem_cons_self)
    have h2 : j ∉ iosOf as := fun z => h (List.mem_cons_of_mem _ z)
    cases s with
    | un => exact putBack_out as os r j h2
    | im _ => exact putBack_out as os r j h2
    | ow b d =>
      cases b with
      | false => exact putBack_out as os r j h2
      | true =>
        show (putBack (put1 r i d) as os)[j]? = _
        rw [putBack_out as os _ j h2, put1_ne h1]
theorem mem_ios : ∀ {as : List Av} {m i : Nat}, as[m]? = some (.io i) → i ∈ iosOf as
  | [], m, i, h => by simp at h
  | .v d :: as, m, i, h => by
    cases m with
    | zero => simp at h
    | succ m => exact mem_ios (as := as) (m := m) (by simpa using h)
  | .io k :: as, m, i, h => by
    cases m with
    | zero =>
      simp at h
      subst h
      exact List.mem_cons_self
    | succ m => exact List.mem_cons_of_mem _ (mem_ios (as := as) (m := m) (by simpa using h))
theorem ios_mem : ∀ {as : List Av} {i : Nat}, i ∈ iosOf as → ∃ m : Nat, as[m]? = some (Av.io i)
  | [], i, h => by cases h
  | .v d :: as, i, h => by
    obtain ⟨m, e⟩ := ios_mem (as := as) h
    exact ⟨m + 1, by simpa using e⟩
  | .io k :: as, i, h => by
    rcases List.mem_cons.mp h with rfl | h
    · exact ⟨0, rfl⟩
    · obtain ⟨m, e⟩ := ios_mem (as := as) h
      exact ⟨m + 1, by simpa using e⟩
theorem noDup_cons {i : Nat} {r : List Nat} (h : noDup (i :: r) = true) : i ∉ r ∧ noDup r = true := by
  unfold noDup at h
  obtain ⟨h1, h2⟩ := Bool.and_eq_true_iff.mp h
  refine ⟨fun z => ?_, h2⟩
  rw [List.contains_iff_mem.mpr z] at h1
  cases h1
theorem ios_inj : ∀ {as : List Av} {m k i : Nat}, noDup (iosOf as) = true → as[m]? = some (.io i) → as[k]? = some (.io i) → m = k
  | [], m, k, i, _, h, _ => by simp at h
  | .v d :: as, m, k, i, hd, h1, h2 => by
    cases m with
    | zero => simp at h1
    | succ m =>
      cases k with
      | zero => simp at h2
      | succ k => rw [ios_inj (as := as) (m := m) (k := k) hd (by simpa using h1) (by simpa using h2)]
  | .io j :: as, m, k, i, hd, h1, h2 => by
    obtain ⟨n, hd'⟩ := noDup_cons hd
    cases m with
    | zero =>
      simp at h1
      subst h1
      cases k with
      | zero => rfl
      | succ k => exact absurd (mem_ios (as := as) (m := k) (by simpa using h2)) n
    | succ m =>
      cases k with
      | zero =>
        simp at h2
        subst h2
        exact absurd (mem_ios (as := as) (m := m) (by simpa using h1)) n
      | succ k => rw [ios_inj (as := as) (m := m) (k := k) hd' (by simpa using h1) (by simpa using h2)]
/-- a slot whose object was handed on -/
theorem putBack_in : ∀ (as : List Av) (os : List Sl) (r : Rho) (m i : Nat) (b : Bool) (d d' : D), noDup (iosOf as) = true → as[m]? = some (.io i) → os[m]? = some (.ow true d') → r[i]? = some (.ow b d) → (putBack r as os)[i]? = some (.ow b d')
  | [], _, r, m, i, b, d, d', _, h, _, _ => by simp at h
  | _ :: _, [], r, m, i, b, d, d', _, _, h, _ => by simp at h
  | .v x :: as, s :: os, r, m, i, b, d, d', hd, h1, h2, h3 => by
    cases m with
    | zero => simp at h1
    | succ m =>
      unfold putBack
      exact putBack_in as os r m i b d d' hd (by simpa using h1) (by simpa using h2) h3
  | .io j :: as, s :: os, r, m, i, b, d, d', hd, h1, h2, h3 => by
    obtain ⟨n, hd'⟩ := noDup_cons hd
    cases m with
    | zero =>
      simp at h1 h2
      subst h1
      subst h2
      show (putBack (put1 r j d') as os)[j]? = _
      rw [putBack_out as os _ j n]
      unfold put1
      rw [h3]
      exact List.getElem?_set_self (List.getElem?_eq_some_iff.mp h3).1
    | succ m =>
      have h1' : as[m]? = some (.io i) := by simpa using h1
      have h2' : os[m]? = some (.ow true d') := by simpa using h2
      have ne : i ≠ j := fun z => n (z ▸ mem_ios h1')
      cases s with
      | un => exact putBack_in as os r m i b d d' hd' h1' h2' h3
      | im _ => exact putBack_in as os r m i b d d' hd' h1' h2' h3
      | ow c e =>
        cases c with
        | false => exact putBack_in as os r m i b d d' hd' h1' h2' h3
        | true =>
          show (putBack (put1 r j e) as os)[i]? = _
          exact putBack_in as os _ m i b d d' hd' h1' h2' (by rw [put1_ne ne]; exact h3)
theorem allSl_at {r : Rho} : ∀ {as : List Av} {ss : List Sl}, allSl r as = some ss → as.length = ss.length ∧ ∀ (m : Nat) (a : Av), as[m]? = some a → ∃ s, ss[m]? = some s ∧ toSl r a = some s
  | [], ss, h => by
    cases h
    exact ⟨rfl, fun m a e => by simp at e⟩
  | a :: as, ss, h => by
    obtain ⟨s, h1, h⟩ := Option.bind_eq_some_iff.mp h
    obtain ⟨ss', h2, h3⟩ := Option.bind_eq_some_iff.mp h
    cases h3
    obtain ⟨l, ih⟩ := allSl_at h2
    refine ⟨by simp [l], fun m b e => ?_⟩
    cases m with
    | zero =>
      simp at e
      subst e
      exact ⟨s, rfl, h1⟩
    | succ m =>
      obtain ⟨t, e1, e2⟩ := ih m b (by simpa using e)
      exact ⟨t, by simpa using e1, e2⟩
theorem toSl_ow {r : Rho} {i : Nat} {b : Bool} {d : D} (h : r[i]? = some (.ow b d)) : toSl r (.io i) = some (.ow true d) := by
  show (match r[i]? with | some (.ow _ d) => some (Sl.ow true d) | some (.im d) => some (.im d) | _ => none) = _
  rw [h]
theorem toSl_im {r : Rho} {i : Nat} {d : D} (h : r[i]? = some (.im d)) : toSl r (.io i) = some (.im d) := by
  show (match r[i]? with | some (.ow _ d) => some (Sl.ow true d) | some (.im d) => some (.im d) | _ => none) = _
  rw [h]
theorem toSl_un {r : Rho} {i : Nat} (h : r[i]? = some .un) : toSl r (.io i) = none := by
  show (match r[i]? with | some (.ow _ d) => some (Sl.ow true d) | some (.im d) => some (.im d) | _ => none) = _
  rw [h]
section
variable {cl : Cl}
theorem paired_at {α β : Type} {R : α → β → Prop} {l₁ : List α} {l₂ : List β} (h : Paired R l₁ l₂) : ∀ {i : Nat} {a : α}, l₁[i]? = some a → ∃ b, l₂[i]? = some b ∧ R a b := by
  induction h with
  | nil => intro i a e; simp at e
  | cons r t ih =>
    intro i a e
    cases i with
    | zero =>
      simp at e
      subst e
      exact ⟨_, rfl, r⟩
    | succ i =>
      obtain ⟨b, e1, e2⟩ := ih (i := i) (by simpa using e)
      exact ⟨b, by simpa using e1, e2⟩
theorem clean_of {r : Rho} {as : List Av} {ss : List Sl} (h : allSl r as = some ss) : clean ss = true := by
  obtain ⟨l, ha⟩ := allSl_at h
  refine List.all_eq_true.mpr fun s hs => ?_
  obtain ⟨m, e⟩ := List.mem_iff_getElem?.mp hs
  have hm : m < as.length := by rw [l]; exact (List.getElem?_eq_some_iff.mp e).1
  obtain ⟨s', e1, e2⟩ := ha m as[m] (List.getElem?_eq_getElem hm)
  rw [e] at e1
  cases e1
  cases q : as[m] with
  | v d =>
    rw [q] at e2
    cases e2
    rfl
  | io i =>
    rw [q] at e2
    unfold toSl at e2
    dsimp only at e2
    split at e2
    · cases e2
      rfl
    · cases e2
      rfl
    · cases e2
/-- the arguments' slots -/
theorem St0.args {ρ : Rho} {σ : St} {F H : Hp} {as : List Av} {ss : List Sl} {vs : List V} (s : St0 cl ρ σ F H) (ha : allSl ρ as = some ss) (hd : noDup (iosOf as) = true) (r : Paired (RepAv cl σ F) as vs) : St0 cl ss (vs.map some) F H := by
  obtain ⟨l, at_⟩ := allSl_at ha
  have back : ∀ (m : Nat) (x : Sl), ss[m]? = some x → ∃ a v, as[m]? = some a ∧ vs[m]? = some v ∧ toSl ρ a = some x ∧ RepAv cl σ F a v := fun m x h => by
    have hm : m < as.length := by rw [l]; exact (List.getElem?_eq_some_iff.mp h).1
    obtain ⟨x', e1, e2⟩ := at_ m as[m] (List.getElem?_eq_getElem hm)
    rw [h] at e1
    cases e1
    obtain ⟨v, e3, e4⟩ := paired_at r (List.getElem?_eq_getElem hm)
    exact ⟨_, v, List.getElem?_eq_getElem hm, e3, e2, e4⟩
  have own : ∀ (m : Nat) (b : Bool) (d : D), ss[m]? = some (.ow b d) → ∃ i c, as[m]? = some (.io i) ∧ b = true ∧ ρ[i]? = some (.ow c d) := fun m b d h => by
    obtain ⟨a, v, e1, _, e2, _⟩ := back m _ h
    cases a with
    | v x => cases e2
    | io i =>
      unfold toSl at e2
      dsimp only at e2
      split at e2
      · rename_i c d' q
        cases e2
        exact ⟨i, c, e1, rfl, q⟩
      · cases e2
      · cases e2
  refine ⟨s.ext, by rw [List.length_map, ← Paired.length r, l], fun m x o h1 h2 => ?_, fun m k b c x y p h1 h2 h3 h4 => ?_⟩
  · obtain ⟨v, h3, rfl⟩ := map_some_get h2
    obtain ⟨a, v', e1, e2, e3, e4⟩ := back m x h1
    rw [h3] at e2
    cases e2
    cases a with
    | v d =>
      cases e3
      exact ⟨v, rfl, e4⟩
    | io i =>
      unfold toSl at e3
      dsimp only at e3
      split at e3
      · rename_i c d' q
        cases e3
        obtain ⟨p, ho, e, h5, h6, h7⟩ := s.sl i _ _ q e4
        exact ⟨p, ho, e, h5, h6, h7⟩
      · rename_i d' q
        cases e3
        exact s.sl i _ _ q e4
      · cases e3
  · obtain ⟨i, _, a1, _, q1⟩ := own m b x h1
    obtain ⟨j, _, a2, _, q2⟩ := own k c y h2
    obtain ⟨v1, b1, r1⟩ := paired_at r a1
    obtain ⟨v2, b2, r2⟩ := paired_at r a2
    rw [List.getElem?_map, b1] at h3
    rw [List.getElem?_map, b2] at h4
    cases h3
    cases h4
    have e := s.ds i j _ _ _ _ p q1 q2 r1 r2
    subst e
    exact ios_inj hd a1 a2
theorem St0.back {ρ : Rho} {σ : St} {F H F' H' : Hp} {as : List Av} {ss outs : List Sl} {vs : List V} (s : St0 cl ρ σ F H) (ha : allSl ρ as = some ss) (hd : noDup (iosOf as) = true) (r : Paired (RepAv cl σ F) as vs)
    (s' : St0 cl outs (vs.map some) F' H') (g : Go ss (vs.map some) F H outs (vs.map some) F' H') : St0 cl (putBack ρ as outs) σ F' H' ∧ Go ρ σ F H (putBack ρ as outs) σ F' H' := by
  obtain ⟨l, at_⟩ := allSl_at ha
  -- what is owned by a slot that is handed on
  have given : ∀ (m i : Nat) (b : Bool) (d : D), as[m]? = some (.io i) → ρ[i]? = some (.ow b d) → ss[m]? = some (.ow true d) ∧ (∃ v, vs[m]? = some v ∧ σ[i]? = some (some v)) ∧ ∃ d', outs[m]? = some (.ow true d') := fun m i b d h1 h2 => by
    obtain ⟨x, e1, e2⟩ := at_ m _ h1
    have e3 : x = .ow true d := by
      rw [toSl_ow h2] at e2
      exact (Option.some.inj e2).symm
    subst e3
    obtain ⟨v, e4, e5⟩ := paired_at r h1
    exact ⟨e1, ⟨v, e4, e5⟩, (g.pin m d e1).2⟩
  have own : ∀ (m : Nat) (b : Bool) (d : D), ss[m]? = some (.ow b d) → ∃ i c, as[m]? = some (.io i) ∧ ρ[i]? = some (.ow c d) := fun m b d h => by
    have hm : m < as.length := by rw [l]; exact (List.getElem?_eq_some_iff.mp h).1
    obtain ⟨x', e1, e2⟩ := at_ m as[m] (List.getElem?_eq_getElem hm)
    rw [h] at e1
    cases e1
    cases q : as[m] with
    | v x =>
      rw [q] at e2
      cases e2
    | io i =>
      rw [q] at e2
      unfold toSl at e2
      dsimp only at e2
      split at e2
      · rename_i c d' q'
        cases e2
        exact ⟨i, c, by rw [List.getElem?_eq_getElem hm, q], q'⟩
      · cases e2
      · cases e2
  have ownS : ∀ p, Own ss (vs.map some) p → Own ρ σ p := fun p ⟨m, b, d, h1, h2⟩ => by
    obtain ⟨i, c, e1, e2⟩ := own m b d h1
    obtain ⟨v, e3, e4⟩ := paired_at r e1
    rw [List.getElem?_map, e3] at h2
    cases h2
    exact ⟨i, c, d, e2, e4⟩
  -- the two kinds of slots behind
  have kinds : ∀ (i : Nat) (x : Sl), (putBack ρ as outs)[i]? = some x → (∃ (m : Nat) (b : Bool) (d d' : D), as[m]? = some (Av.io i) ∧ outs[m]? = some (Sl.ow true d') ∧ ρ[i]? = some (Sl.ow b d) ∧ x = Sl.ow b d') ∨ (ρ[i]? = some x ∧ ∀ (m : Nat) (b : Bool) (d : D), as[m]? = some (Av.io i) → x ≠ Sl.ow b d) := fun i x h => by
    by_cases hi : i ∈ iosOf as
    · obtain ⟨m, e⟩ := ios_mem hi
      cases q : ρ[i]? with
      | none =>
        have z := (List.getElem?_eq_some_iff.mp h).1
        rw [putBack_len] at z
        rw [List.getElem?_eq_getElem z] at q
        cases q
      | some y =>
        cases y with
        | ow b d =>
          obtain ⟨_, _, d', e'⟩ := given m i b d e q
          rw [putBack_in as outs ρ m i b d d' hd e e' q] at h
          cases h
          exact .inl ⟨m, b, d, d', e, e', rfl, rfl⟩
        | un =>
          obtain ⟨z, e1, e2⟩ := at_ m _ e
          rw [toSl_un q] at e2
          cases e2
        | im d =>
          refine .inr ?_
          have same : (putBack ρ as outs)[i]? = ρ[i]? := by
            obtain ⟨z, e1, e2⟩ := at_ m _ e
            have e3 : z = .im d := by
              rw [toSl_im q] at e2
              exact (Option.some.inj e2).symm
            subst e3
            have no : ∀ d' : D, outs[m]? ≠ some (Sl.ow true d') := fun d' z => by
              obtain ⟨d0, z0⟩ := g.pinB m d' z
              rw [e1] at z0
              cases z0
            -- nothing is put at i
            have : ∀ (as' : List Av) (os' : List Sl) (r' : Rho), (∀ (m' : Nat), as'[m']? = some (Av.io i) → ∀ d' : D, os'[m']? ≠ some (Sl.ow true d')) → (putBack r' as' os')[i]? = r'[i]? := by
              intro as'
              induction as' with
              | nil => intro os' r' _; cases os' <;> (unfold putBack; rfl)
              | cons a as' ih =>
                intro os' r' hh
                have tl : ∀ (m' : Nat), as'[m']? = some (Av.io i) → ∀ d' : D, os'.tail[m']? ≠ some (Sl.ow true d') := fun m' em d' ed => by
                  refine hh (m' + 1) (by simpa using em) d' ?_
                  cases os' with
                  | nil => simp at ed
                  | cons _ _ => simpa using ed
                cases os' with
                | nil => cases a <;> rfl
                | cons o os' =>
                  have tl' := tl
                  cases a with
                  | v _ =>
                    unfold putBack
                    exact ih os' r' tl'
                  | io j =>
                    cases o with
                    | un => exact ih os' r' tl'
                    | im _ => exact ih os' r' tl'
                    | ow c e0 =>
                      cases c with
                      | false => exact ih os' r' tl'
                      | true =>
                        have nj : i ≠ j := fun z => hh 0 (by rw [z]; rfl) e0 rfl
                        show (putBack (put1 r' j e0) as' os')[i]? = _
                        rw [ih os' _ tl', put1_ne nj]
            refine this as outs ρ fun m' em d' ed => ?_
            have := ios_inj hd em e
            subst this
            exact no d' ed
          rw [same, q] at h
          cases h
          exact ⟨rfl, fun _ _ _ _ z => by cases z⟩
    · rw [putBack_out as outs ρ i hi] at h
      exact .inr ⟨h, fun m b d e _ => hi (mem_ios e)⟩
  have keepO : ∀ (i : Nat) (b : Bool) (d : D) (p : Addr) (ho : HO), ρ[i]? = some (.ow b d) → σ[i]? = some (some (.ref p)) → H p = some ho → F p = none → RepO cl F d ho → (∀ m : Nat, as[m]? ≠ some (Av.io i)) → H' p = some ho ∧ F' p = none := fun i b d p ho h1 h2 h3 h4 h5 hn => by
    have no : ¬ Own ss (vs.map some) p := fun ⟨m, b', d', z1, z2⟩ => by
      obtain ⟨j, c, e1, e2⟩ := own m b' d' z1
      obtain ⟨v, e3, e4⟩ := paired_at r e1
      rw [List.getElem?_map, e3] at z2
      cases z2
      have := s.ds i j _ _ _ _ p h1 e2 h2 e4
      subst this
      exact hn m e1
    obtain ⟨⟨o', q1, t⟩, q2⟩ := g.fr p ho h3 no
    have := t h5.noTbl
    subst this
    exact ⟨q1, q2 h4⟩
  refine ⟨⟨s'.ext, by rw [putBack_len]; exact s.len, fun i x o h1 h2 => ?_, fun i j b c x y p h1 h2 h3 h4 => ?_⟩, ⟨g.mono, fun a o h n => g.fr a o h fun z => n (ownS a z), fun a ⟨i, b, d, h1, h2⟩ => ?_, fun i d h => ⟨rfl, ?_⟩, fun i d h => ?_, rfl, g.there⟩⟩
  · rcases kinds i x h1 with ⟨m, b, d, d', e1, e2, e3, rfl⟩ | ⟨e1, hn⟩
    · obtain ⟨_, ⟨v, e4, e5⟩, _⟩ := given m i b d e1 e3
      rw [h2] at e5
      cases e5
      obtain ⟨p, ho, z, q1, q2, q3⟩ := s'.sl m _ _ e2 (by rw [List.getElem?_map, e4]; rfl)
      exact ⟨p, ho, z, q1, q2, q3⟩
    · have q := s.sl i x o e1 h2
      cases x with
      | un => trivial
      | im d =>
        obtain ⟨v, e, rr⟩ := q
        exact ⟨v, e, rr.mono g.mono⟩
      | ow b d =>
        obtain ⟨p, ho, e, q1, q2, q3⟩ := q
        subst e
        obtain ⟨z1, z2⟩ := keepO i b d p ho e1 h2 q1 q2 q3 fun m em => hn m b d em rfl
        exact ⟨p, ho, rfl, z1, z2, q3.mono g.mono⟩
  · have un : ∀ (i : Nat) (b : Bool) (x : D), (putBack ρ as outs)[i]? = some (.ow b x) → ∃ d, ρ[i]? = some (.ow b d) := fun i b x h => by
      rcases kinds i _ h with ⟨m, b', d, d', _, _, e3, e4⟩ | ⟨e1, _⟩
      · cases e4
        exact ⟨d, e3⟩
      · exact ⟨x, e1⟩
    obtain ⟨_, q1⟩ := un i b x h1
    obtain ⟨_, q2⟩ := un j c y h2
    exact s.ds i j b c _ _ p q1 q2 h3 h4
  · rcases kinds i _ h1 with ⟨m, b', d0, d', _, _, e3, e4⟩ | ⟨e1, _⟩
    · exact .inl ⟨i, _, _, e3, h2⟩
    · exact .inl ⟨i, _, _, e1, h2⟩
  · have hi : i < (putBack ρ as outs).length := by
      rw [putBack_len]
      exact (List.getElem?_eq_some_iff.mp h).1
    rcases kinds i _ (List.getElem?_eq_getElem hi) with ⟨m, b', d0, d', _, _, e3, e4⟩ | ⟨e1, _⟩
    · rw [h] at e3
      cases e3
      exact ⟨d', by rw [List.getElem?_eq_getElem hi, e4]⟩
    · rw [h] at e1
      exact ⟨d, by rw [List.getElem?_eq_getElem hi]; exact e1.symm⟩
  · rcases kinds i _ h with ⟨m, b', d0, d', _, _, e3, e4⟩ | ⟨e1, _⟩
    · cases e4
      exact ⟨d0, e3⟩
    · exact ⟨d, e1⟩
end
/-- f(e, ..), f a def of the module -/
theorem se_call {cl : Cl} {X : Cx} {W : WX} {k : Nat} {f : Addr} {fd : FuncData} {ps : List Str} {x : Str} {p pos : Pos} {e : Expr} {es : List Expr} {fn : Fn} {ka : M (List Av)} (tk : Takes X W)
    (G : FnOk X.prog X.w X.K X.mg X.base (L2.CX X.prog X.w) k f fd ps (spF cl fn ps.length)) (hr : Room k X.A) (hg : Gl X x) (hm : X.mg x = some (.ref f)) (hk : PySem.W.keepIn X.K (.ref f) = true) (hb : Binds X.K fd ps [])
    (ha : SA cl X W (e :: es) ka) (hdb : (x == ("__debug__" : Str)) = false := by decide) (he : starEach (e :: es) X.env = (false, eval e X.env) :: starEach es X.env := by rfl) (hpl : (backTo pos (starEach es X.env)).any (·.1) = false := by rfl) :
    SE cl X W (.Call (.Name x p) (e :: es) [] pos) (cCallF fn ps.length ka) :=
  PE.imp (pe_callS (E := WE W) G hr hg hm hk hb (fun σ => passAt tk σ) ha hdb he hpl) fun σ H Q ⟨ρ, F, s, h⟩ => by
    unfold cCallF at h
    refine tM_of s ?_
    cases q : ka ρ with
    | exc k d r1 => rw [q] at h; exact h
    | stuck => rw [q] at h; exact h
    | ok as r1 =>
      rw [q] at h
      dsimp only at h
      intro vs F1 H1 s1 g1 r
      cases q2 : allSl r1 as with
      | none => rw [q2] at h; exact h.elim
      | some ss =>
        rw [q2] at h
        dsimp only at h
        split at h
        · rename_i hc
          obtain ⟨hd, hlen⟩ := hc
          have s2 := s1.args q2 hd r
          refine ⟨by rw [← Paired.length r]; exact hlen, ss, F1, s2, clean_of q2, ?_⟩
          cases q3 : fn ss with
          | ok d outs =>
            rw [q3] at h
            intro v F' H' s3 g3 rv
            obtain ⟨s4, g4⟩ := s1.back q2 hd r s3 g3
            exact h v F' H' s4 (g1.trans g4) rv
          | exc k d outs =>
            rw [q3] at h
            intro F' H' dx v s3 g3 ex rv
            obtain ⟨s4, g4⟩ := s1.back q2 hd r s3 g3
            exact h F' H' dx v s4 (g1.trans g4) ex rv
          | stuck => rw [q3] at h; exact h
        · exact h.elim
end PyD
end
section
set_option linter.all false
set_option maxRecDepth 100000
set_option maxHeartbeats 4000000
namespace PyD
open PySem L2

/-! ### slots of a block -/
def wipeR (r : Rho) : List Nat → Rho
  | [] => r
  | v :: vs => (wipeR r vs).set v .un
def restore (r0 r2 : Rho) : List Nat → Rho
  | [] => r2
  | v :: vs => match r0[v]? with
    | some s => (restore r0 r2 vs).set v s
    | none => restore r0 r2 vs
theorem wipeR_len (r : Rho) : ∀ vs : List Nat, (wipeR r vs).length = r.length
  | [] => rfl
  | v :: vs => by unfold wipeR; rw [List.length_set, wipeR_len r vs]
theorem restore_len (r0 r2 : Rho) : ∀ vs : List Nat, (restore r0 r2 vs).length = r2.length
  | [] => rfl
  | v :: vs => by
    unfold restore
    split
    · rw [List.length_set, restore_len r0 r2 vs]
    · exact restore_len r0 r2 vs
theorem wipeR_out {r : Rho} {i : Nat} : ∀ {vs : List Nat}, i ∉ vs → (wipeR r vs)[i]? = r[i]?
  | [], _ => rfl
  | v :: vs, h => by
    unfold wipeR
    rw [List.getElem?_set_ne fun z => h (by rw [z]; exact List.mem_cons_self), wipeR_out fun z => h (List.mem_cons_of_mem _ z)]
theorem wipeR_in {r : Rho} {i : Nat} {x : Sl} : ∀ {vs : List Nat}, i ∈ vs → (wipeR r vs)[i]? = some x → x = .un
  | [], h, _ => by cases h
  | v :: vs, h, e => by
    unfold wipeR at e
    by_cases z : v = i
    · subst z
      by_cases hv : v < (wipeR r vs).length
      · rw [List.getElem?_set_self hv] at e
        cases e
        rfl
      · rw [List.getElem?_eq_none (by rw [List.length_set]; omega)] at e
        cases e
    · rw [List.getElem?_set_ne z] at e
      rcases List.mem_cons.mp h with q | q
      · exact absurd q.symm z
      · exact wipeR_in q e
theorem wipeR_own {r : Rho} {i : Nat} {b : Bool} {d : D} {vs : List Nat} (h : (wipeR r vs)[i]? = some (.ow b d)) : i ∉ vs ∧ r[i]? = some (.ow b d) := by
  by_cases z : i ∈ vs
  · cases wipeR_in z h
  · rw [wipeR_out z] at h
    exact ⟨z, h⟩
theorem wipe_out' {σ : St} {i : Nat} {vs : List Nat} (h : i ∉ vs) : (wipe σ vs)[i]? = σ[i]? := wipe_out h
theorem restore_out {r0 r2 : Rho} {i : Nat} : ∀ {vs : List Nat}, i ∉ vs → (restore r0 r2 vs)[i]? = r2[i]?
  | [], _ => rfl
  | v :: vs, h => by
    have h1 : v ≠ i := fun z => h (by rw [z]; exact List.mem_cons_self)
    have h2 : i ∉ vs := fun z => h (List.mem_cons_of_mem _ z)
    unfold restore
    split
    · rw [List.getElem?_set_ne h1, restore_out h2]
    · exact restore_out h2
theorem restore_in {r0 r2 : Rho} {i : Nat} (hl : r0.length = r2.length) : ∀ {vs : List Nat}, i ∈ vs → (restore r0 r2 vs)[i]? = r0[i]?
  | [], h => by cases h
  | v :: vs, h => by
    unfold restore
    by_cases z : v = i
    · subst z
      split
      · rename_i s e
        rw [List.getElem?_set_self (by rw [restore_len, ← hl]; exact (List.getElem?_eq_some_iff.mp e).1), e]
      · rename_i e
        rw [e]
        refine List.getElem?_eq_none ?_
        rw [restore_len, ← hl]
        exact List.getElem?_eq_none_iff.mp e
    · have q : i ∈ vs := by
        rcases List.mem_cons.mp h with q | q
        · exact absurd q.symm z
        · exact q
      split
      · rw [List.getElem?_set_ne z, restore_in hl q]
      · exact restore_in hl q

section
variable {cl : Cl} {ρ ρ2 : Rho} {σ σ2 : St} {F H F2 H2 : Hp} {vs : List Nat}
theorem own_wipe {p : Addr} (h : Own (wipeR ρ vs) (wipe σ vs) p) : Own ρ σ p := by
  obtain ⟨i, b, d, h1, h2⟩ := h
  obtain ⟨n, e⟩ := wipeR_own h1
  rw [wipe_out n] at h2
  exact ⟨i, b, d, e, h2⟩
theorem St0.wiped (s : St0 cl ρ σ F H) : St0 cl (wipeR ρ vs) (wipe σ vs) F H := by
  refine ⟨s.ext, by rw [wipeR_len, wipe_length]; exact s.len, fun i x o h1 h2 => ?_, fun i j b c x y p h1 h2 h3 h4 => ?_⟩
  · by_cases z : i ∈ vs
    · cases wipeR_in z h1
      trivial
    · rw [wipeR_out z] at h1
      rw [wipe_out z] at h2
      exact s.sl i x o h1 h2
  · obtain ⟨n1, e1⟩ := wipeR_own h1
    obtain ⟨n2, e2⟩ := wipeR_own h2
    rw [wipe_out n1] at h3
    rw [wipe_out n2] at h4
    exact s.ds i j b c x y p e1 e2 h3 h4
theorem Go.wiped (hn : ∀ v ∈ vs, ∀ x, ρ[v]? ≠ some (.ow true x)) : Go ρ σ F H (wipeR ρ vs) (wipe σ vs) F H := by
  refine ⟨fun _ _ q => q, fun a o h _ => ⟨⟨o, h, fun _ => rfl⟩, fun f => f⟩, fun a h => .inl (own_wipe h), fun i d h => ?_, fun i d h => ⟨d, (wipeR_own h).2⟩, wipe_length _ _, fun _ o h => ⟨o, h⟩⟩
  have n : i ∉ vs := fun z => hn i z d h
  exact ⟨wipe_out n, d, by rw [wipeR_out n]; exact h⟩
/-- behind a block: the def's own slots again -/
theorem St0.unwiped (s : St0 cl ρ σ F H) (hn : ∀ v ∈ vs, ∀ x, ρ[v]? ≠ some (.ow true x)) (s2 : St0 cl ρ2 (wipe σ vs) F2 H2) (g : Go (wipeR ρ vs) (wipe σ vs) F H ρ2 (wipe σ vs) F2 H2) (hu : ∀ v ∈ vs, ∀ x, ρ2[v]? = some x → x = .un) :
    St0 cl (restore ρ ρ2 vs) σ F2 H2 ∧ Go ρ σ F H (restore ρ ρ2 vs) σ F2 H2 := by
  have hl : ρ.length = ρ2.length := by rw [s.len, s2.len, wipe_length]
  have out : ∀ i, i ∉ vs → (restore ρ ρ2 vs)[i]? = ρ2[i]? := fun i h => restore_out h
  have inn : ∀ i, i ∈ vs → (restore ρ ρ2 vs)[i]? = ρ[i]? := fun i h => restore_in hl h
  -- the objects that are owned at v in vs were foreign in the block
  have nown : ∀ (i : Nat) (b : Bool) (d : D) (p : Addr), i ∈ vs → ρ[i]? = some (.ow b d) → σ[i]? = some (some (.ref p)) → ¬ Own (wipeR ρ vs) (wipe σ vs) p := fun i b d p hi h1 h2 ⟨j, c, e, q1, q2⟩ => by
    obtain ⟨n, q3⟩ := wipeR_own q1
    rw [wipe_out n] at q2
    exact n (s.ds i j b c d e p h1 q3 h2 q2 ▸ hi)
  have still : ∀ (i : Nat) (b : Bool) (d : D) (p : Addr), i ∈ vs → ρ[i]? = some (.ow b d) → σ[i]? = some (some (.ref p)) → ∃ ho, H2 p = some ho ∧ F2 p = none ∧ RepO cl F2 d ho := fun i b d p hi h1 h2 => by
    obtain ⟨p', ho, e, q1, q2, q3⟩ := s.sl i _ _ h1 h2
    cases e
    obtain ⟨⟨o', z1, t⟩, z2⟩ := g.fr p ho q1 (nown i b d p hi h1 h2)
    have := t q3.noTbl
    subst this
    exact ⟨o', z1, z2 q2, q3.mono g.mono⟩
  have no2 : ∀ (i : Nat) (b : Bool) (d : D) (p : Addr), i ∈ vs → ρ[i]? = some (.ow b d) → σ[i]? = some (some (.ref p)) → ¬ Own ρ2 (wipe σ vs) p := fun i b d p hi h1 h2 z => by
    obtain ⟨p', ho, e, q1, q2, q3⟩ := s.sl i _ _ h1 h2
    cases e
    rcases g.own p z with q | q
    · exact nown i b d p hi h1 h2 q
    · rw [q1] at q
      cases q
  refine ⟨⟨s2.ext, by rw [restore_len, s2.len, wipe_length], fun i x o h1 h2 => ?_, fun i j b c x y p h1 h2 h3 h4 => ?_⟩, ⟨g.mono, fun a o h n => g.fr a o h fun z => n (own_wipe z), fun a ⟨i, b, d, h1, h2⟩ => ?_, fun i d h => ⟨rfl, ?_⟩, fun i d h => ?_, rfl, g.there⟩⟩
  · by_cases z : i ∈ vs
    · rw [inn i z] at h1
      have q := s.sl i x o h1 h2
      cases x with
      | un => trivial
      | im d =>
        obtain ⟨v, e, r⟩ := q
        exact ⟨v, e, r.mono g.mono⟩
      | ow b d =>
        obtain ⟨p, ho, e, _⟩ := q
        subst e
        obtain ⟨ho2, a1, a2, a3⟩ := still i b d p z h1 h2
        exact ⟨p, ho2, rfl, a1, a2, a3⟩
    · rw [out i z] at h1
      exact s2.sl i x o h1 (by rw [wipe_out z]; exact h2)
  · by_cases zi : i ∈ vs
    · rw [inn i zi] at h1
      by_cases zj : j ∈ vs
      · rw [inn j zj] at h2
        exact s.ds i j b c x y p h1 h2 h3 h4
      · rw [out j zj] at h2
        exact absurd ⟨j, c, y, h2, by rw [wipe_out zj]; exact h4⟩ (no2 i b x p zi h1 h3)
    · rw [out i zi] at h1
      by_cases zj : j ∈ vs
      · rw [inn j zj] at h2
        exact absurd ⟨i, b, x, h1, by rw [wipe_out zi]; exact h3⟩ (no2 j c y p zj h2 h4)
      · rw [out j zj] at h2
        exact s2.ds i j b c x y p h1 h2 (by rw [wipe_out zi]; exact h3) (by rw [wipe_out zj]; exact h4)
  · by_cases z : i ∈ vs
    · rw [inn i z] at h1
      exact .inl ⟨i, b, d, h1, h2⟩
    · rw [out i z] at h1
      rcases g.own a ⟨i, b, d, h1, by rw [wipe_out z]; exact h2⟩ with q | q
      · exact .inl (own_wipe q)
      · exact .inr q
  · have n : i ∉ vs := fun z => hn i z d h
    obtain ⟨_, d', e⟩ := g.pin i d (by rw [wipeR_out n]; exact h)
    exact ⟨d', by rw [out i n]; exact e⟩
  · have n : i ∉ vs := fun z => by
      rw [inn i z] at h
      exact hn i z d h
    rw [out i n] at h
    obtain ⟨d0, e⟩ := g.pinB i d h
    exact ⟨d0, (wipeR_own e).2⟩
end

theorem wipe_get {σ : St} {i : Nat} : ∀ {vs : List Nat}, i ∈ vs → i < σ.length → (wipe σ vs)[i]? = some none
  | [], h, _ => by cases h
  | v :: vs, h, hl => by
    unfold wipe
    by_cases z : v = i
    · subst z
      exact List.getElem?_set_self (by rw [wipe_length]; exact hl)
    · rw [List.getElem?_set_ne z]
      rcases List.mem_cons.mp h with q | q
      · exact absurd q.symm z
      · exact wipe_get q hl
theorem wipe_wipe (σ : St) (vs : List Nat) : wipe (wipe σ vs) vs = wipe σ vs := by
  refine List.ext_getElem? fun i => ?_
  by_cases z : i ∈ vs
  · by_cases hl : i < σ.length
    · rw [wipe_get z (by rw [wipe_length]; exact hl), wipe_get z hl]
    · rw [List.getElem?_eq_none (by rw [wipe_length, wipe_length]; omega), List.getElem?_eq_none (by rw [wipe_length]; omega)]
  · rw [wipe_out z]
theorem own_restore {ρ ρ2 : Rho} {σ : St} {vs : List Nat} {p : Addr} (hl : ρ.length = ρ2.length) (h : Own (restore ρ ρ2 vs) σ p) : Own ρ σ p ∨ Own ρ2 (wipe σ vs) p := by
  obtain ⟨i, b, d, h1, h2⟩ := h
  by_cases z : i ∈ vs
  · rw [restore_in hl z] at h1
    exact .inl ⟨i, b, d, h1, h2⟩
  · rw [restore_out z] at h1
    exact .inr ⟨i, b, d, h1, by rw [wipe_out z]; exact h2⟩

/-! ### targets within a block -/
def GW (cl : Cl) (vs : List Nat) (g : TG) (gt : D → Rho → Option Rho) : Prop := ∀ (d : D) (v : V) (ρ : Rho) (σ : St) (F H : Hp) (ρ' : Rho) (Q : St → Hp → Prop), St0 cl ρ σ F H → Rep cl F d v → gt d ρ = some ρ' →
  (∀ σ' F' H', wipe σ' vs = wipe σ vs → St0 cl ρ' σ' F' H' → Go ρ σ F H ρ' σ' F' H' → Q σ' H') → g v σ H Q
def GWs (cl : Cl) (vs : List Nat) (g : TGs) (gt : List D → Rho → Option Rho) : Prop := ∀ (d : List D) (v : List V) (ρ : Rho) (σ : St) (F H : Hp) (ρ' : Rho) (Q : St → Hp → Prop), St0 cl ρ σ F H → RepL cl F d v → gt d ρ = some ρ' →
  (∀ σ' F' H', wipe σ' vs = wipe σ vs → St0 cl ρ' σ' F' H' → Go ρ σ F H ρ' σ' F' H' → Q σ' H') → g v σ H Q
section
variable {cl : Cl} {vs : List Nat}
theorem wipe_set {σ : St} {j : Nat} {x : Option V} : ∀ {vs : List Nat}, j ∈ vs → wipe (σ.set j x) vs = wipe σ vs
  | [], h => by cases h
  | v :: vs, h => by
    unfold wipe
    by_cases z : j ∈ vs
    · rw [wipe_set z]
    · have e : j = v := by
        rcases List.mem_cons.mp h with q | q
        · exact q
        · exact absurd q z
      subst e
      have : wipe (σ.set j x) vs = (wipe σ vs).set j x := by
        clear h
        induction vs with
        | nil => rfl
        | cons w ws ih =>
          have nw : j ≠ w := fun q => z (by rw [q]; exact List.mem_cons_self)
          have nz : j ∉ ws := fun q => z (List.mem_cons_of_mem _ q)
          unfold wipe
          rw [ih nz, List.set_comm _ _ nw]
      rw [this, List.set_set]
theorem gw_name {i : Nat} (h : i ∈ vs) : GW cl vs (gName i) (gtName i) := fun d v ρ σ F H ρ' Q s r e k => by
  unfold gtName at e
  split at e
  · rename_i hf
    cases e
    obtain ⟨s', g⟩ := s.store (free_ok hf) r
    exact k _ _ _ (wipe_set h) s' g
  · cases e
theorem gws_nil : GWs cl vs gNil gtNil := fun d v ρ σ F H ρ' Q s r h k => by
  cases r with
  | nil =>
    cases h
    exact ⟨rfl, k _ _ _ rfl s Go.refl⟩
  | cons _ _ => cases h
theorem gws_cons {g : TG} {gs : TGs} {gt : D → Rho → Option Rho} {gts : List D → Rho → Option Rho} (h1 : GW cl vs g gt) (h2 : GWs cl vs gs gts) : GWs cl vs (gCons g gs) (gtCons gt gts) := fun d v ρ σ F H ρ' Q s r h k => by
  cases r with
  | nil => cases h
  | cons q t =>
    obtain ⟨ρ1, e1, e2⟩ := Option.bind_eq_some_iff.mp h
    refine ⟨_, _, rfl, h1 _ _ ρ σ F H ρ1 _ s q e1 fun σ1 F1 H1 w1 s1 g1 => ?_⟩
    exact h2 _ _ ρ1 σ1 F1 H1 ρ' Q s1 (RepL.mono g1.mono t) e2 fun σ2 F2 H2 w2 s2 g2 => k σ2 F2 H2 (w2.trans w1) s2 (g1.trans g2)
theorem gw_tup {K : PySem.W.Frag} {n : Nat} {gs : TGs} {gts : List D → Rho → Option Rho} (h2 : GWs cl vs gs gts) : GW cl vs (gTup K n gs) (gtTup n gts) := fun d v ρ σ F H ρ' Q s r h k => by
  cases r with
  | tup e q =>
    unfold gtTup at h
    dsimp only at h
    split at h
    · rename_i hn
      exact ⟨_, _, rfl, .inl ((s.ext _ _ e).rd), by rw [← Paired.length q]; exact hn, h2 _ _ ρ σ F H ρ' Q s q h k⟩
    · cases h
  | _ => cases h
end

/-! ### objects that are new and one's own -/
/-- what follows a mirror whose value is a new object: at p, not frozen, of no slot -/
def FolF (cl : Cl) (W : WX) (r : Res D) (ρ : Rho) (σ : St) (F H : Hp) (Q : VK) : Prop := match r with
  | .ok d ρ' => ∀ p o F' H', St0 cl ρ' σ F' H' → Go ρ σ F H ρ' σ F' H' → H p = none → H' p = some o → F' p = none → ¬ Own ρ' σ p → RepO cl F' d o → Q (.ref p) H'
  | .exc k d ρ' => ∀ F' H' dx v, St0 cl ρ' σ F' H' → Go ρ σ F H ρ' σ F' H' → F' dx = some (.xd [("value", v)]) → Rep cl F' d v → W (.ref (cl k)) (some dx) σ H'
  | .stuck => False
def SF (cl : Cl) (X : Cx) (W : WX) (e : Expr) (c : M D) : Prop := PE X e (fun σ H Q => ∃ ρ F, St0 cl ρ σ F H ∧ FolF cl W (c ρ) ρ σ F H Q)
section
variable {cl : Cl} {X : Cx} {W : WX} {e : Expr} {c : M D} {ρ : Rho} {σ : St} {F H : Hp}
/-- an object of no slot is frozen -/
theorem St0.freezeNew {p : Addr} {o : HO} (s : St0 cl ρ σ F H) (hp : H p = some o) (hf : F p = none) (no : ¬ Own ρ σ p) : St0 cl ρ σ (upd F p o) H := by
  have mono : Sub F (upd F p o) := fun a u q => by rw [upd_ne (ne_of_none q hf)]; exact q
  refine ⟨fun a u q => ?_, s.len, fun i x y h1 h2 => ?_, s.ds⟩
  · by_cases z : a = p
    · subst z
      rw [upd_same] at q
      cases q
      exact .inl hp
    · rw [upd_ne z] at q
      exact s.ext a u q
  · have q := s.sl i x y h1 h2
    cases x with
    | un => trivial
    | im d =>
      obtain ⟨v, e, r⟩ := q
      exact ⟨v, e, r.mono mono⟩
    | ow b d =>
      obtain ⟨p', ho, e, q1, q2, q3⟩ := q
      subst e
      refine ⟨p', ho, rfl, q1, ?_, q3.mono mono⟩
      rw [upd_ne fun z => no ⟨i, b, d, h1, by rw [h2, z]⟩]
      exact q2
theorem SF.se (h : SF cl X W e c) : SE cl X W e c := PE.imp h fun σ H Q ⟨ρ, F, s, f⟩ => ⟨ρ, F, s, by
  cases q : c ρ with
  | exc k d r => rw [q] at f; exact f
  | stuck => rw [q] at f; exact f
  | ok d r =>
    rw [q] at f
    intro p o F' H' s' g h0 hp hf no ro
    have mono : Sub F' (upd F' p o) := fun a u q => by rw [upd_ne (ne_of_none q hf)]; exact q
    refine f _ (upd F' p o) H' (s'.freezeNew hp hf no) ⟨fun a u z => mono a u (g.mono a u z), fun a u z n => ?_, g.own, g.pin, g.pinB, g.len, g.there⟩ ((ro.mono mono).rep upd_same)
    obtain ⟨z1, z2⟩ := g.fr a u z n
    refine ⟨z1, fun y => ?_⟩
    rw [upd_ne (ne_of_none z h0)]
    exact z2 y⟩
theorem SF.sp (h : SF cl X W e c) : SP cl X W e c := h.se.sp
/-- .. it is stored -/
theorem St0.storeNew {i : Nat} {d : D} {p : Addr} {o : HO} (s : St0 cl ρ σ F H) (hn : ∀ x, ρ[i]? ≠ some (.ow true x)) (hp : H p = some o) (hf : F p = none) (no : ¬ Own ρ σ p) (r : RepO cl F d o) :
    St0 cl (ρ.set i (.ow false d)) (σ.set i (some (.ref p))) F H ∧ (∀ a, Own (ρ.set i (.ow false d)) (σ.set i (some (.ref p))) a → Own ρ σ a ∨ a = p) := by
  have oth : ∀ (j : Nat) (b : Bool) (x : D), (ρ.set i (.ow false d))[j]? = some (.ow b x) → j ≠ i → ρ[j]? = some (.ow b x) := fun j b x h z => by
    rw [List.getElem?_set_ne (Ne.symm z)] at h
    exact h
  have np : ∀ (j : Nat) (b : Bool) (x : D), ρ[j]? = some (.ow b x) → σ[j]? ≠ some (some (.ref p)) := fun j b x h e => no ⟨j, b, x, h, e⟩
  refine ⟨⟨s.ext, by rw [List.length_set, List.length_set]; exact s.len, fun j t u h1 h2 => ?_, fun j k b c x y q h1 h2 h3 h4 => ?_⟩, fun a ha => ?_⟩
  · by_cases z : j = i
    · subst z
      by_cases hi : j < ρ.length
      · rw [List.getElem?_set_self hi] at h1
        rw [List.getElem?_set_self (by rw [← s.len]; exact hi)] at h2
        cases h1
        cases h2
        exact ⟨p, o, rfl, hp, hf, r⟩
      · rw [List.getElem?_eq_none (by rw [List.length_set]; omega)] at h1
        cases h1
    · rw [List.getElem?_set_ne (Ne.symm z)] at h1 h2
      exact s.sl j t u h1 h2
  · by_cases zj : j = i
    · by_cases zk : k = i
      · rw [zj, zk]
      · rw [List.getElem?_set_ne (Ne.symm zk)] at h4
        have hi : i < σ.length := by
          have := (List.getElem?_eq_some_iff.mp h3).1
          rw [List.length_set, zj] at this
          exact this
        rw [zj, List.getElem?_set_self hi] at h3
        cases h3
        exact absurd h4 (np k c y (oth k c y h2 zk))
    · by_cases zk : k = i
      · rw [List.getElem?_set_ne (Ne.symm zj)] at h3
        have hi : i < σ.length := by
          have := (List.getElem?_eq_some_iff.mp h4).1
          rw [List.length_set, zk] at this
          exact this
        rw [zk, List.getElem?_set_self hi] at h4
        cases h4
        exact absurd h3 (np j b x (oth j b x h1 zj))
      · rw [List.getElem?_set_ne (Ne.symm zj)] at h3
        rw [List.getElem?_set_ne (Ne.symm zk)] at h4
        exact s.ds j k b c x y q (oth j b x h1 zj) (oth k c y h2 zk) h3 h4
  · obtain ⟨j, b, x, h1, h2⟩ := ha
    by_cases z : j = i
    · have hi : i < σ.length := by
        have := (List.getElem?_eq_some_iff.mp h2).1
        rw [List.length_set, z] at this
        exact this
      rw [z, List.getElem?_set_self hi] at h2
      cases h2
      exact .inr rfl
    · rw [List.getElem?_set_ne (Ne.symm z)] at h2
      exact .inl ⟨j, b, x, oth j b x h1 z, h2⟩
theorem Go.storeNew {ρ0 : Rho} {σ0 : St} {F0 H0 : Hp} {i : Nat} {d : D} {p : Addr} (g : Go ρ0 σ0 F0 H0 ρ σ F H) (hn : ∀ x, ρ[i]? ≠ some (.ow true x)) (h0 : H0 p = none) (ow : ∀ a, Own (ρ.set i (.ow false d)) (σ.set i (some (.ref p))) a → Own ρ σ a ∨ a = p) :
    Go ρ0 σ0 F0 H0 (ρ.set i (.ow false d)) (σ.set i (some (.ref p))) F H := by
  refine ⟨g.mono, g.fr, fun a ha => ?_, fun j x hj => ?_, fun j x hj => ?_, by rw [List.length_set]; exact g.len, g.there⟩
  · rcases ow a ha with q | q
    · exact g.own a q
    · subst q
      exact .inr h0
  · obtain ⟨e, d', h⟩ := g.pin j x hj
    have nj : j ≠ i := fun z => hn d' (z ▸ h)
    exact ⟨by rw [List.getElem?_set_ne (Ne.symm nj)]; exact e, d', by rw [List.getElem?_set_ne (Ne.symm nj)]; exact h⟩
  · by_cases z : j = i
    · subst z
      by_cases hi : j < ρ.length
      · rw [List.getElem?_set_self hi] at hj
        cases hj
      · rw [List.getElem?_eq_none (by rw [List.length_set]; omega)] at hj
        cases hj
    · rw [List.getElem?_set_ne (Ne.symm z)] at hj
      exact g.pinB j x hj
/-- x = e, a new object of one's own -/
def cSetO (i : Nat) (c : M D) : MS := liftS c fun d r => if free i r = true then .nx (r.set i (.ow false d)) else .stuck
theorem ss_setO {i : Nat} {x : Str} {pos pos' : Pos} (hN : X.N.Nodup) (hi : X.N[i]? = some x) (hx : Loc X.env.scope x) (he : SF cl X W e c) (hs : swapsWith e (some (.Name x pos')) pos.line X.env = pure false := by rfl)
    (hf : X.fn x = true ∨ X.env.scope.names.lookup x = some .local := by first | exact .inl rfl | exact .inr rfl | assumption) : SS cl X W (.Assign [.Name x pos'] e pos) (cSetO i c) :=
  PS.imp (ps_set hN hi hx he hs hf) fun D σ H ⟨ρ, F, s, f⟩ => by
    refine ⟨ρ, F, s, ?_⟩
    unfold cSetO liftS at f
    cases q : c ρ with
    | exc k d r =>
      rw [q] at f
      exact fun F' H' dx v s' g e r => f σ F' H' dx v s' g e r
    | stuck => rw [q] at f; exact f
    | ok d r =>
      rw [q] at f
      dsimp only at f
      intro p o F' H' s' g h0 hp hf no ro
      split at f
      · rename_i hfr
        obtain ⟨s2, ow⟩ := s'.storeNew (free_ok hfr) hp hf no ro
        exact f _ F' H' s2 (g.storeNew (free_ok hfr) h0 ow)
      · exact f.elim
theorem sf_lst {es : List Expr} {pos : Pos} {k : M (List D)} (h : SL cl X W es k) : SF cl X W (.List es pos) (k.bind fun xs => M.opt (lstOf xs)) := PE.imp (pe_lst h) fun σ H Q ⟨ρ, F, s, f⟩ => by
  refine ⟨ρ, F, s, ?_⟩
  unfold M.bind at f
  cases q : k ρ with
  | exc k d r => rw [q] at f; exact f
  | stuck => rw [q] at f; exact f
  | ok xs r =>
    rw [q] at f
    intro vs F1 H1 s1 g1 r1
    cases q2 : lstOf xs with
    | none =>
      have f : FolF cl W (M.opt (lstOf xs) r) ρ σ F H Q := f
      rw [q2] at f
      exact f.elim
    | some d =>
      have f : FolF cl W (M.opt (lstOf xs) r) ρ σ F H Q := f
      rw [q2] at f
      obtain ⟨hz, rfl⟩ := lstOf_some q2
      refine ⟨by rw [← Paired.length r1]; exact hz, fun p hp => ?_⟩
      have n : New F1 H1 F1 (upd H1 p (.lst vs)) := New.own s1.ext hp
      have no : ¬ Own r σ p := fun ⟨i, b, x, h1, h2⟩ => by
        obtain ⟨p', ho, e, z, _⟩ := s1.sl i _ _ h1 h2
        cases e
        rw [hp] at z
        cases z
      have h0 : H p = none := g1.new0 hp
      exact f p _ F1 _ (s1.new n) (g1.trans (Go.new n)) h0 upd_same (s1.ext.none hp) no (.lst r1)
end
end PyD
end
section
set_option linter.all false
set_option maxRecDepth 100000
set_option maxHeartbeats 4000000
namespace PyD
open PySem L2

def STs (cl : Cl) (X : Cx) (W : WX) (ifs : List Expr) (c : M Bool) : Prop := PTs X ifs (tM cl AT W c)
section
variable {cl : Cl} {X : Cx} {W : WX}
theorem PTs.imp {ifs : List Expr} {t t' : TT} (h : PTs X ifs t) (i : ∀ σ H Q, t' σ H Q → t σ H Q) : PTs X ifs t' := ⟨fun pins s σ H Q I z => h.run pins s σ H Q I (i _ _ _ z)⟩
theorem sts_nil : STs cl X W [] (M.ret true) := PTs.imp pts_nil fun σ H Q ⟨ρ, F, s, f⟩ => f true F H s Go.refl rfl
theorem sts_one {e : Expr} {c : M Bool} (h : ST cl X W e c) : STs cl X W [e] c := pts_one h
end
/-- the items that a comprehension lays, from acc on -/
def compL (vs : List Nat) (gt : D → Rho → Option Rho) (ct : M Bool) (ce : M D) : List D → List D → M (List D)
  | [], acc, r => .ok acc r
  | d :: ds, acc, r => match gt d r with
    | none => .stuck
    | some r1 => match ct r1 with
      | .ok true r2 => match ce r2 with
        | .ok y r3 => if acc.length < sizeLine then compL vs gt ct ce ds (acc ++ [y]) (wipeR r3 vs) else .stuck
        | _ => .stuck
      | .ok false r2 => compL vs gt ct ce ds acc (wipeR r2 vs)
      | _ => .stuck
def freeAll (vs : List Nat) (r : Rho) : Bool := vs.all fun v => match r[v]? with
  | some (.ow true _) => false
  | _ => true
def cLc (vs : List Nat) (ci : M (List D)) (gt : D → Rho → Option Rho) (ct : M Bool) (ce : M D) : M D := ci.bind fun ds => fun r1 => if freeAll vs r1 = true then (match compL vs gt ct ce ds [] (wipeR r1 vs) with
  | .ok acc r2 => .ok (.lst acc) (restore r1 r2 vs)
  | _ => .stuck) else .stuck
theorem freeAll_ok {vs : List Nat} {r : Rho} (h : freeAll vs r = true) : ∀ v ∈ vs, ∀ x, r[v]? ≠ some (.ow true x) := fun v hv x e => by
  have q := List.all_eq_true.mp h v hv
  rw [e] at q
  cases q
section
variable {cl : Cl} {ρ : Rho} {σ : St} {F H : Hp}
/-- an object of no slot is written -/
theorem St0.other {p : Addr} {o u : HO} (s : St0 cl ρ σ F H) (hp : H p = some o) (hf : F p = none) (no : ¬ Own ρ σ p) : St0 cl ρ σ F (upd H p u) := by
  refine ⟨fun a x q => ?_, s.len, fun i x y h1 h2 => ?_, s.ds⟩
  · unfold RdX
    rw [upd_ne (ne_of_none q hf)]
    exact s.ext a x q
  · have q := s.sl i x y h1 h2
    cases x with
    | un => trivial
    | im d => exact q
    | ow b d =>
      obtain ⟨p', ho, e, q1, q2, q3⟩ := q
      subst e
      refine ⟨p', ho, rfl, ?_, q2, q3⟩
      rw [upd_ne fun z => no ⟨i, b, d, h1, by rw [h2, z]⟩]
      exact q1
/-- .. seen from ahead of its making -/
theorem Go.other {ρ0 : Rho} {σ0 : St} {F0 H0 : Hp} {p : Addr} {o : HO} (g : Go ρ0 σ0 F0 H0 ρ σ F H) (h0 : H0 p = none) : Go ρ0 σ0 F0 H0 ρ σ F (upd H p o) := by
  refine ⟨g.mono, fun a u h n => ?_, g.own, g.pin, g.pinB, g.len, fun a u h => ?_⟩
  · rw [upd_ne (ne_of_none h h0)]
    exact g.fr a u h n
  · rw [upd_ne (ne_of_none h h0)]
    exact g.there a u h
theorem not_own {p : Addr} (s : St0 cl ρ σ F H) (h : H p = none) : ¬ Own ρ σ p := fun ⟨i, b, x, h1, h2⟩ => by
  obtain ⟨p', ho, e, z, _⟩ := s.sl i _ _ h1 h2
  cases e
  rw [h] at z
  cases z
/-- what is pending stays so: a new object of no slot -/
theorem Go.pend {ρ1 : Rho} {σ1 : St} {F1 H1 : Hp} {p : Addr} {o : HO} (g : Go ρ σ F H ρ1 σ1 F1 H1) (hp : H p = some o) (nt : noTbl o) (hf : F p = none) (no : ¬ Own ρ σ p) : H1 p = some o ∧ F1 p = none ∧ ¬ Own ρ1 σ1 p := by
  obtain ⟨⟨o', e, t⟩, f⟩ := g.fr p o hp no
  have := t nt
  subst this
  refine ⟨e, f hf, fun z => ?_⟩
  rcases g.own p z with q | q
  · exact no q
  · rw [hp] at q
    cases q
end
section
variable {cl : Cl} {X : Cx} {W : WX}
/-- [elt for tg in iter if ..] -/
theorem tLc_ok {vs : List Nat} {ci : M (List D)} {g : TG} {gt : D → Rho → Option Rho} {ct : M Bool} {ce : M D} (hg : GW cl vs g gt) (σ : St) (H : Hp) (Q : VK)
    (h : ∃ ρ F, St0 cl ρ σ F H ∧ FolF cl W (cLc vs ci gt ct ce ρ) ρ σ F H Q) : tLc (tI cl W ci) g (tM cl AT (fun _ _ _ _ => False) ct) (tM cl (AE cl) (fun _ _ _ _ => False) ce) vs σ H Q := by
  obtain ⟨ρ, F, s, f⟩ := h
  refine tM_of s ?_
  unfold cLc M.bind at f
  cases q : ci ρ with
  | exc k d r => rw [q] at f; exact f
  | stuck => rw [q] at f; exact f
  | ok ds ρ1 =>
    rw [q] at f
    dsimp only at f
    intro J F1 H1 s1 g1 it
    split at f
    · rename_i hfr
      have hn := freeAll_ok hfr
      intro Dl hDl
      have sw : St0 cl (wipeR ρ1 vs) (wipe σ vs) F1 H1 := s1.wiped
      -- the invariant
      let R := compL vs gt ct ce ds [] (wipeR ρ1 vs)
      refine ⟨fun i m H' => m = ds.length - i ∧ i ≤ ds.length ∧ ∃ ρb F' acc va, St0 cl ρb (wipe σ vs) F' H' ∧ Go (wipeR ρ1 vs) (wipe σ vs) F1 H1 ρb (wipe σ vs) F' H' ∧ (∀ v ∈ vs, ∀ x, ρb[v]? = some x → x = .un) ∧
          H' Dl = some (.lst va) ∧ F' Dl = none ∧ ¬ Own ρb (wipe σ vs) Dl ∧ RepL cl F' acc va ∧ compL vs gt ct ce (ds.drop i) acc ρb = R, ?_, ?_⟩
      · have n0 : New F1 H1 F1 (upd H1 Dl (.lst [])) := New.own s1.ext hDl
        exact ⟨_, rfl, Nat.zero_le _, wipeR ρ1 vs, F1, [], [], sw.new n0, Go.new n0, fun v hv x e => wipeR_in hv e, upd_same, s1.ext.none hDl, not_own sw hDl, .nil, rfl⟩
      · rintro i m H2 ⟨rfl, hi, ρb, F2, acc, va, s2, g2, hu, hD, hF, no, ra, e2⟩
        by_cases hlt : i < ds.length
        · refine .inr ⟨it.go i F2 H2 g2.mono s2.ext hlt, fun H' => ∃ ρb F' acc va, St0 cl ρb (wipe σ vs) F' H' ∧ Go (wipeR ρ1 vs) (wipe σ vs) F1 H1 ρb (wipe σ vs) F' H' ∧ (∀ v ∈ vs, ∀ x, ρb[v]? = some x → x = .un) ∧
            H' Dl = some (.lst va) ∧ F' Dl = none ∧ ¬ Own ρb (wipe σ vs) Dl ∧ RepL cl F' acc va ∧ compL vs gt ct ce (ds.drop (i + 1)) acc ρb = R, fun H' z => ⟨ds.length - (i + 1), by omega, rfl, hlt, z⟩, fun x H3 hy => ?_⟩
          obtain ⟨d, F3, hd1, n3, r3⟩ := it.yld i F2 H2 x H3 g2.mono s2.ext hlt hy
          have ed : ds[i] = d := by
            rw [List.getElem?_eq_getElem hlt] at hd1
            exact Option.some.inj hd1
          rw [List.drop_eq_getElem_cons hlt, ed] at e2
          unfold compL at e2
          cases q1 : gt d ρb with
          | none =>
            rw [q1] at e2
            have e2 : Res.stuck = R := e2
            rw [show compL vs gt ct ce ds [] (wipeR ρ1 vs) = Res.stuck from e2.symm] at f
            exact f.elim
          | some ρt =>
            rw [q1] at e2
            dsimp only at e2
            have s3 := s2.new n3
            refine hg d x ρb (wipe σ vs) F3 H3 ρt _ s3 r3 q1 fun σ4 F4 H4 w4 s4 g4 => ?_
            have ww : wipe σ4 vs = wipe σ vs := by
              rw [w4]
              exact wipe_wipe σ vs
            refine ⟨ww, tM_of s4 ?_⟩
            have g34 : Go ρb (wipe σ vs) F2 H2 ρt σ4 F4 H4 := (Go.new n3).trans g4
            cases q2 : ct ρt with
            | exc k d r =>
              rw [q2] at e2
              have e2 : Res.stuck = R := e2
              rw [show compL vs gt ct ce ds [] (wipeR ρ1 vs) = Res.stuck from e2.symm] at f
              exact f.elim
            | stuck =>
              rw [q2] at e2
              have e2 : Res.stuck = R := e2
              rw [show compL vs gt ct ce ds [] (wipeR ρ1 vs) = Res.stuck from e2.symm] at f
              exact f.elim
            | ok bb ρu =>
              rw [q2] at e2
              intro b' F5 H5 s5 g5 eb
              cases eb
              -- a slot of the block is never the caller's
              have pinU : ∀ {ρx : Rho} {σx : St} {Fx Hx : Hp}, Go ρb (wipe σ vs) F2 H2 ρx σx Fx Hx → ∀ v ∈ vs, ∀ x, ρx[v]? ≠ some (.ow true x) := fun gx v hv x e => by
                obtain ⟨d0, e0⟩ := gx.pinB v x e
                cases hu v hv _ e0
              cases bb with
              | false =>
                dsimp only at e2 ⊢
                have g25 := g34.trans g5
                obtain ⟨hD5, hF5, no5⟩ := g25.pend hD trivial hF no
                have gw := g25.trans (Go.wiped (F := F5) (H := H5) (σ := σ4) (pinU g25))
                rw [ww] at gw
                have sx : St0 cl (wipeR ρu vs) (wipe σ4 vs) F5 H5 := s5.wiped
                rw [ww] at sx
                refine ⟨wipeR ρu vs, F5, acc, va, sx, g2.trans gw, fun v hv x e => wipeR_in hv e, hD5, hF5, fun z => ?_, RepL.mono g25.mono ra, e2⟩
                rw [← ww] at z
                exact no5 (own_wipe z)
              | true =>
                dsimp only at e2 ⊢
                refine tM_of s5 ?_
                cases q3 : ce ρu with
                | exc k d r =>
                  rw [q3] at e2
                  have e2 : Res.stuck = R := e2
                  rw [show compL vs gt ct ce ds [] (wipeR ρ1 vs) = Res.stuck from e2.symm] at f
                  exact f.elim
                | stuck =>
                  rw [q3] at e2
                  have e2 : Res.stuck = R := e2
                  rw [show compL vs gt ct ce ds [] (wipeR ρ1 vs) = Res.stuck from e2.symm] at f
                  exact f.elim
                | ok y ρv =>
                  rw [q3] at e2
                  dsimp only at e2
                  intro v F6 H6 s6 g6 r6
                  split at e2
                  · rename_i hz
                    have g26 := (g34.trans g5).trans g6
                    obtain ⟨hD6, hF6, no6⟩ := g26.pend hD trivial hF no
                    refine ⟨va, hD6, by rw [← Paired.length ra]; exact hz, ?_⟩
                    have s7 : St0 cl ρv σ4 F6 (upd H6 Dl (.lst (va ++ [v]))) := s6.other hD6 hF6 no6
                    have gw := (g2.trans g26).trans (Go.wiped (F := F6) (H := H6) (σ := σ4) (pinU g26))
                    rw [ww] at gw
                    have sx : St0 cl (wipeR ρv vs) (wipe σ4 vs) F6 (upd H6 Dl (.lst (va ++ [v]))) := s7.wiped
                    rw [ww] at sx
                    refine ⟨wipeR ρv vs, F6, acc ++ [y], va ++ [v], sx, gw.other hDl, fun v hv x e => wipeR_in hv e, upd_same, hF6, fun z => ?_, Paired.snoc (RepL.mono g26.mono ra) r6, e2⟩
                    rw [← ww] at z
                    exact no6 (own_wipe z)
                  · have e2 : Res.stuck = R := e2
                    rw [show compL vs gt ct ce ds [] (wipeR ρ1 vs) = Res.stuck from e2.symm] at f
                    exact f.elim
        · have hge : ds.length ≤ i := Nat.le_of_not_lt hlt
          rw [List.drop_eq_nil_of_le hge] at e2
          have e2 : Res.ok acc ρb = R := e2
          rw [show compL vs gt ct ce ds [] (wipeR ρ1 vs) = Res.ok acc ρb from e2.symm] at f
          dsimp only at f
          refine .inl ⟨it.stop i F2 H2 g2.mono s2.ext hge, ?_⟩
          obtain ⟨s7, g7⟩ := s1.unwiped hn s2 g2 hu
          refine f Dl _ F2 H2 s7 (g1.trans g7) (g1.new0 hDl) hD hF (fun z => ?_) (.lst ra)
          rcases own_restore (by rw [s1.len, s2.len, wipe_length]) z with w | w
          · exact not_own s1 hDl w
          · exact no w
    · exact f.elim
theorem sf_lc {elt tg iter : Expr} {ifs : List Expr} {scope : Scope} {own : List (Str × Nat)} {pos : Pos} {ci : M (List D)} {g : TG} {gt : D → Rho → Option Rho} {ct : M Bool} {ce : M D} (hc : X.calm = true) (hN : X.N.Nodup) (ok : BlkOk X.N X.env.scope scope own)
    (hi : SI cl X W tg iter ci) (hw : GW cl (own.map (·.2)) g gt)
    (hg : ∀ (s : Shared) (H : Hp) (C : Addr) (cl : List (Str × Addr)) (fp : List Addr), PG (X.blk s H scope (compEnvC scope cl C X.env) fp) tg g)
    (ht : ∀ (s : Shared) (H : Hp) (C : Addr) (cl' : List (Str × Addr)) (fp : List Addr), STs cl (X.blk s H scope (compEnvC scope cl' C X.env) fp) (fun _ _ _ _ => False) ifs ct)
    (he : ∀ (s : Shared) (H : Hp) (C : Addr) (cl' : List (Str × Addr)) (fp : List Addr), SE cl (X.blk s H scope (compEnvC scope cl' C X.env) fp) (fun _ _ _ _ => False) elt ce) (hs : ∀ x, foldedSetIterable iter X.env x = pure x := by intro _; rfl) :
    SF cl X W (.ListComp elt [⟨tg, iter, ifs, 0⟩] scope pos) (cLc (own.map (·.2)) ci gt ct ce) :=
  PE.imp (pe_lc hc hN hi ok hg ht he hs) fun σ H Q h => tLc_ok hw σ H Q h
/-- x = [elt for ..], shared; .. one's own -/
theorem ss_setLc {i : Nat} {y : Str} {py : Pos} {elt tg iter : Expr} {ifs : List Expr} {scope : Scope} {own : List (Str × Nat)} {pos spos : Pos} {ci : M (List D)} {g : TG} {gt : D → Rho → Option Rho} {ct : M Bool} {ce : M D} (hc : X.calm = true) (hN : X.N.Nodup) (ok : BlkOk X.N X.env.scope scope own)
    (hy : X.N[i]? = some y) (hyl : X.env.scope.names.lookup y = some .local) (hsw : swapsWith (.ListComp elt [⟨tg, iter, ifs, 0⟩] scope pos) (some (.Name y py)) spos.line X.env = pure true)
    (hi : SI cl X W tg iter ci) (hw : GW cl (own.map (·.2)) g gt)
    (hg : ∀ (s : Shared) (H : Hp) (C : Addr) (cl : List (Str × Addr)) (fp : List Addr), PG (X.blk s H scope (compEnvC scope cl C X.env) fp) tg g)
    (ht : ∀ (s : Shared) (H : Hp) (C : Addr) (cl' : List (Str × Addr)) (fp : List Addr), STs cl (X.blk s H scope (compEnvC scope cl' C X.env) fp) (fun _ _ _ _ => False) ifs ct)
    (he : ∀ (s : Shared) (H : Hp) (C : Addr) (cl' : List (Str × Addr)) (fp : List Addr), SE cl (X.blk s H scope (compEnvC scope cl' C X.env) fp) (fun _ _ _ _ => False) elt ce) (hs : ∀ x, foldedSetIterable iter X.env x = pure x := by intro _; rfl) :
    SS cl X W (.Assign [.Name y py] (.ListComp elt [⟨tg, iter, ifs, 0⟩] scope pos) spos) (cSetO i (cLc (own.map (·.2)) ci gt ct ce)) :=
  PS.imp (ps_setLc hc hN hy hyl hsw hi ok hg ht he hs) fun D σ H ⟨ρ, F, s, f⟩ => tLc_ok hw σ H _ ⟨ρ, F, s, by
    unfold cSetO liftS at f
    cases q : cLc (own.map (·.2)) ci gt ct ce ρ with
    | exc k d r =>
      rw [q] at f
      exact fun F' H' dx v s' g e r => f σ F' H' dx v s' g e r
    | stuck => rw [q] at f; exact f
    | ok d r =>
      rw [q] at f
      dsimp only at f
      intro p o F' H' s' g h0 hp hf no ro
      split at f
      · rename_i hfr
        obtain ⟨s2, ow⟩ := s'.storeNew (free_ok hfr) hp hf no ro
        exact f _ F' H' s2 (g.storeNew (free_ok hfr) h0 ow)
      · exact f.elim⟩
end
end PyD
end
section
set_option linter.all false
set_option maxRecDepth 100000
set_option maxHeartbeats 4000000
namespace PyD
open PySem L2 PySem.Spec PyProof.Rows

/-! ### defs: no repr runs around them -/
structure FnG (P : Program) (w : World) (K : PySem.W.Frag) (mg : Str → Option Value) (base : Heap) (k : Nat) (f : Addr) (fd : FuncData) (ps : List Str) (sp : Sp) : Prop where
  len : ∀ vs H Q E, sp vs H Q E → vs.length = ps.length
  run : ∀ (A : Around) (outer : List Env) (s : Shared) (H : Hp) (args : Args) (us : List Value) (vs : List V) (Q : VK) (E : XK), A.guards = some [] → Room k A → Env0 P w K mg base A outer s H → BindsTo s fd args (ps.zip us) → Vals vs us → sp vs H Q E →
    codeAny (model P w) A (.call (.ref f) args) (CR (L2.CX P w) outer P w H s Q E) s
theorem FnG.mono {P : Program} {w : World} {K : PySem.W.Frag} {mg : Str → Option Value} {base : Heap} {j k : Nat} {f : Addr} {fd : FuncData} {ps : List Str} {sp : Sp} (F : FnG P w K mg base j f fd ps sp) (h : j ≤ k) : FnG P w K mg base k f fd ps sp :=
  ⟨F.len, fun A outer s H args us vs Q E g hr => F.run A outer s H args us vs Q E g (hr.mono h)⟩
theorem FnG.imp {P : Program} {w : World} {K : PySem.W.Frag} {mg : Str → Option Value} {base : Heap} {k : Nat} {f : Addr} {fd : FuncData} {ps : List Str} {sp sp' : Sp} (F : FnG P w K mg base k f fd ps sp) (h : ∀ vs H Q E, sp' vs H Q E → sp vs H Q E) : FnG P w K mg base k f fd ps sp' :=
  ⟨fun vs H Q E q => F.len vs H Q E (h _ _ _ _ q), fun A outer s H args us vs Q E g hr he hb hv hs => F.run A outer s H args us vs Q E g hr he hb hv (h _ _ _ _ hs)⟩
theorem FnG.of {P : Program} {w : World} {K : PySem.W.Frag} {mg : Str → Option Value} {base : Heap} {k : Nat} {f : Addr} {fd : FuncData} {ps : List Str} {sp : Sp} (F : FnOk P w K mg base (L2.CX P w) k f fd ps sp) : FnG P w K mg base k f fd ps sp :=
  ⟨F.len, fun A outer s H args us vs Q E _ hr => F.run A outer s H args us vs Q E hr⟩

/-- a body's context: the guards -/
def Gd (X : Cx) : Prop := X.A.guards = some []

theorem fnG_of {P : Program} {w : World} {K : PySem.W.Frag} {mg : Str → Option Value} {base : Heap} {k : Nat} {f : Addr} {nm qn : Str} {pa : Arguments} {bd : List Stmt} {sc : Scope} {dV kV doc pm cdv ct oc : Value} {an od : Option Addr}
    {sl : Array (Option Value)} {N ps : List Str} {sp : Sp} (lkf : K.lookup f = some ⟨oc, od, .func (PySem.W.fnOf nm qn pa bd sc dV kV doc pm an cdv ct), sl⟩) (hcd : PySem.W.codeIn K cdv qn = true) (S : FnScope N ps sc)
    (hlen : ∀ vs H Q E, sp vs H Q E → vs.length = ps.length)
    (hb : ∀ (A : Around) (outer : List Env) (s : Shared) (H : Hp) (vs : List V) (Q : VK) (E : XK), A.guards = some [] → Room k (A.deeper (envOfC qn sc s.heap.objs.size f cdv)) → sp vs H Q E →
      ∃ t, PSs (cxOf (L2.CX P w) P w K mg base N qn sc f cdv A outer s H E) bd t ∧ t { nx := fun _ H' => Q .non H', rt := Q } (start N vs) H) :
    FnG P w K mg base (k + 1) f (PySem.W.fnOf nm qn pa bd sc dV kV doc pm an cdv ct) ps sp := by
  refine ⟨hlen, fun A outer s H args us vs Q E gd hr e0 hbi r hsp => ?_⟩
  have h1 := hlen _ _ _ _ hsp
  have KX : K.In s.heap := e0.mod.kin.keeps fun b o e => (e0.bs b o e).1
  have lim : s.heap.NoLimit := e0.mod.nolimit.keeps fun b o e => (e0.bs b o e).1
  have hk : ∀ y ∈ ps.zip us, sc.names.lookup y.1 = some .local ∨ (sc.names.lookup y.1 = some .cell ∧ ((cellsFrom (s.heap.objs.size + 1) sc.names []).lookup y.1).isSome = true) := fun ⟨n, v⟩ hy =>
    (S.par n (List.of_mem_zip hy).1).imp id fun q => ⟨q, PySem.W.cellsFrom_some _ _ _ (.inl q)⟩
  refine codeAny_call_function hr.depth (KX _ _ lkf) rfl S.co S.gen rfl (PySem.W.codeRec_of KX hcd) (hbi _ _ _ _ ?_)
  refine wpAny_newFunctionEnv_cells S.kind hk fun env he s1 x => ?_
  subst he
  refine ⟨lim.keeps x.toInCall.keep, codeAny_func ?_⟩
  obtain ⟨t, ht, hq⟩ := hb A outer s H vs Q E gd (hr.deeper _) hsp
  have I : Inv (cxOf (L2.CX P w) P w K mg base N qn sc f cdv A outer s H E) [] (start N vs) H s1 := inv_start S hr.hd e0 h1 r x
  refine wpAny_mono (ht.run [] s1 (start N vs) H _ I hq) (fun fl s' hs => ?_) fun e s' hs => hs
  have fin : ∀ {σ' : L2.St} {H' : Hp} {v : V} {u : Value}, Inv (cxOf (L2.CX P w) P w K mg base N qn sc f cdv A outer s H E) [] σ' H' s' → RelV v u → Q v H' → CE outer P w H s Q u s' :=
    fun {σ' H' v u} J rv q => ⟨v, H', J.os, J.bare, J.base, J.hok, rv, q⟩
  cases fl with
  | ret u => exact let ⟨v, σ', H', J, rv, q⟩ := hs; fin J rv q
  | next => exact let ⟨σ', H', J, q⟩ := hs; fin (v := V.non) (u := Value.none) J rfl q
  | brk => exact let ⟨_, _, _, q⟩ := hs; False.elim q
  | cont => exact let ⟨_, _, _, q⟩ := hs; False.elim q

/-- a def keeps the promise of its mirror -/
theorem fng_ok {cl : Cl} {P : Program} {w : World} {K : PySem.W.Frag} {mg : Str → Option Value} {base : Heap} {x qn : Str} {pa : Arguments} {bd : List Stmt} {sc : Scope} {dvs : List V} {kws : List (Str × V)} {f : Addr} {fd : FuncData} {N ps : List Str} {k : Nat} {c : MS}
    (F : FunD K x qn pa bd sc dvs kws f fd) (S : FnScope N ps sc) (hn : ps.length ≤ N.length)
    (hb : ∀ (cdv : Value) (A : Around) (outer : List Env) (s : Shared) (H : Hp) (E : XK), A.guards = some [] → Room k (A.deeper (envOfC qn sc s.heap.objs.size f cdv)) →
      SSs cl (cxOf (L2.CX P w) P w K mg base N qn sc f cdv A outer s H E) (fun c d _ H => E c d H) bd c) :
    FnG P w K mg base (k + 1) f fd ps (spF cl (runF N.length c) ps.length) := by
  obtain ⟨oc, od, dV, kV, doc, pm, an, cdv, ct, sl, rfl, lk, hcd, _, _⟩ := F.ex
  refine fnG_of lk hcd S (fun vs H Q E h => h.1) fun A outer s H vs Q E gd hr h => ⟨_, hb cdv A outer s H E gd hr, ?_⟩
  obtain ⟨hl, ss, F0, s0, hcl, q⟩ := h
  have hl' : vs.length ≤ N.length := by rw [hl]; exact hn
  refine tS_of (s0.entry (N := N) hl') ?_
  unfold runF at q
  cases e : c (ss ++ List.replicate (N.length - ss.length) .un) with
  | nx r =>
    rw [e] at q
    intro σ' F' H' s' g
    obtain ⟨a, b⟩ := leave s0 hcl hl' s' g
    exact q .non F' H' a b .non
  | rt d r =>
    rw [e] at q
    intro v σ' F' H' s' g rv
    obtain ⟨a, b⟩ := leave s0 hcl hl' s' g
    exact q v F' H' a b rv
  | exc k d r =>
    rw [e] at q
    intro σ' F' H' dx v s' g ex rv
    obtain ⟨a, b⟩ := leave s0 hcl hl' s' g
    exact q F' H' dx v a b ex rv
  | bk r => rw [e] at q; exact q.elim
  | ro d r => rw [e] at q; exact q.elim
  | ct r => rw [e] at q; exact q.elim
  | stuck => rw [e] at q; exact q.elim
end PyD
end
section
set_option linter.all false
set_option maxRecDepth 100000
set_option maxHeartbeats 4000000
namespace PyD
open PySem L2 PySem.Spec PyProof.Rows

/-! ### the root exception's __init__ -/
section
variable (p0 p1 p2 p3 p4 p5 q0 q1 q2 q3 a0 a1 : Pos)
def iniBody : List Stmt := [.Expr (.Call (.Attribute (.Call (.Name "super" p0) [] [] p1) "__init__" p2) [.Name "value" p3] [] p4) p5, .Assign [.Attribute (.Name "self" q0) "value" q1] (.Name "value" q2) q3]
def iniArgs : Arguments := ⟨[], [⟨"self", none, a0⟩, ⟨"value", none, a1⟩], none, [], [], none, []⟩
def iniScope : Scope := { kind := .function, names := [("self", .local), ("value", .local), ("__class__", .free), ("super", .globalImplicit)], isGenerator := false, isCoroutine := false, more := [] }
end
theorem pos_ok {few : Bool} {o : Expr} {env : Env} {a p : Pos} (h : (a.endLine == p.line) = true) : methodCallPos few o env a p = pure p := by
  unfold methodCallPos
  rw [h, Bool.or_true, if_pos rfl]
theorem he_super {o : Expr} {n x : Str} {p2 p3 p4 : Pos} {env : Env} (h : (p2.endLine == p4.line) = true) : eval (.Call (.Attribute o n p2) [.Name x p3] [] p4) env = (do
      let ov ← attributeBase o n env (eval o env)
      standAt p2.atName
      let (f, first) ← holding [ov] (getMethod ov n (do return (← importBound o env).getD true))
      callWith p4 f first (backTo p4 (starEach [.Name x p3] env)) []) := by
  show (do
    let ov ← attributeBase o n env (eval o env)
    standAt p2.atName
    let (f, first) ← holding [ov] (calleeOf true o env ov n)
    let callPos ← methodCallPos true o env p2 p4
    callWith callPos f first (backTo p4 (starEach [.Name x p3] env)) []) = _
  simp only [pos_ok h, pure_bind]
  rfl
/-- the def as the written part has it: a closure over the cell of the class at D -/
structure IniB (P : Program) (K : PySem.W.Frag) (f D : Addr) (fd : FuncData) : Prop where
  ex : ∃ (nm qn : Str) (oc : Value) (od : Option Addr) (kV doc pm ct : Value) (an : Option Addr) (osl : Array (Option Value)) (cda cc : Addr) (p0 p1 p2 p3 p4 p5 q0 q1 q2 q3 a0 a1 : Pos),
    fd = PySem.W.ksFn nm qn (iniArgs a0 a1) (iniBody p0 p1 p2 p3 p4 p5 q0 q1 q2 q3) iniScope .none kV doc pm an (.ref cda) ct cc ∧ K.lookup f = some ⟨oc, od, .func fd, osl⟩ ∧ PySem.W.codeIn K (.ref cda) qn = true ∧
    (∃ (c1 : Value) (c2 : Option Addr) (vs : Array Value) (c3 : Array (Option Value)) (fl : Str) (tf : Tok), K.lookup cda = some ⟨c1, c2, .fields vs, c3⟩ ∧ vs[2]? = some (.str fl tf) ∧ ((P.main.file : Str) == fl) = true) ∧
    (∃ (c1 : Value) (c2 : Option Addr) (c3 : Array (Option Value)), K.lookup cc = some ⟨c1, c2, .cell (some (.ref D)), c3⟩) ∧ (p2.endLine == p4.line) = true
  cls : ∃ cd, PySem.W.clsIn K D = some cd
  top : (P.main.scope.names.lookup ("super" : Str)).isSome = false
  kp : PySem.W.keepIn K (.ref f) = true
  fn : PySem.W.typeIn K (.ref f) = some (.type "function")
  st : PySem.W.nsIn K cStatics "thirdparty.any" = some none
/-- a class at or below it -/
structure ExC (K : PySem.W.Frag) (f D C : Addr) : Prop where
  o : OexC K C
  ini : PySem.W.findIn K (.ref C) "__init__" = some (some (.ref f))
  noval : PySem.W.findIn K (.ref C) "value" = some none
  sup : PySem.W.ks_superIn K C D "__init__" = some (some (.builtin "ValueError.__init__"))
  sub : PySem.W.mroIn K C (.ref D) = some true
  ve : PySem.W.subIn K (.ref C) (.type "ValueError") = some true
  ga : PySem.W.findIn K (.ref C) "__getattribute__" = some (some (.builtin "BaseException.__getattribute__"))
  gt : ∃ x, PySem.W.findIn K (.ref C) "__getattr__" = some x
  be : PySem.W.subIn K (.ref C) (.type "BaseException") = some true
  hd : PySem.W.hasDictIn K C = true
  hcl : (PySem.W.clsIn K C).isSome = true
  ha : PySem.W.findIn K (.ref C) "__class__" = some (some (.builtin "object.__class__"))
  hn : PySem.W.specialIn K (.builtin "object.__class__") "__get__" = some (some (.builtin "getset_descriptor.__get__"))
  htk : PySem.W.takesIn K (.builtin "object.__class__") = some true
  hm : PySem.W.mroIn K C (.type "object") = some true
def spI (K : PySem.W.Frag) (f D : Addr) : Sp := fun vs H Q _ => ∃ (a C : Addr) (v : V), vs = [.ref a, v] ∧ ExC K f D C ∧ H a = some (exo a C none) ∧ ∀ dx, H dx = none → dx ≠ a → Q .non (upd (upd H dx (exd dx [("value", v)])) a (exo a C (some dx)))

section
variable {P : Program} {w : World} {K : PySem.W.Frag} {mg : Str → Option Value} {base : Heap}
/-- the body's context -/
def cxI (P : Program) (w : World) (K : PySem.W.Frag) (mg : Str → Option Value) (base : Heap) (A : Around) (outer : List Env) (s : Shared) (H : Hp) (env : Env) (xe : Value → Shared → Prop) : Cx where
  prog := P
  w := w
  K := K
  mg := mg
  base := base
  A := A.deeper env
  N := ["self", "value"]
  s_0 := s
  H_0 := H
  env := env
  outer := outer
  stack := env :: outer
  ex := []
  fn := fun _ => false
  calm := true
  pn := []
  xe := xe
theorem pin_one {X : Cx} {σ : L2.St} {H : Hp} {s : Shared} {u : Addr} {o : Obj} (I : Inv X [] σ H s) (e : s.heap.get? u = some o) (n : H u = none) (nl : u ≠ X.env.locals) (nf : u ∉ X.fs) (nc : ∀ v, o.data ≠ .cell v) : Inv X [(u, o)] σ H s :=
  ⟨I.ok, I.os, I.bare, I.base, I.loc, I.cell, I.free, I.freeC, fun p hp => by
    rcases List.mem_append.mp hp with h | h
    · exact I.pin p (List.mem_append_left _ h)
    · have e1 : p = (u, o) := by simpa using h
      rw [e1]
      exact ⟨e, n, nl, nf, nc⟩, I.hok, I.len⟩
theorem unpin {X : Cx} {pins : List (Addr × Obj)} {σ : L2.St} {H : Hp} {s : Shared} (I : Inv X pins σ H s) : Inv X [] σ H s :=
  ⟨I.ok, I.os, I.bare, I.base, I.loc, I.cell, I.free, I.freeC, fun p hp => I.pin p (by
    rcases List.mem_append.mp hp with h | h
    · exact List.mem_append_left _ h
    · cases h), I.hok, I.len⟩
theorem ini_start {f cc cda D : Addr} {qn : Str} {A : Around} {outer : List Env} {s : Shared} {H : Hp} {u0 u1 : Value} {v0 v1 : V} {h1 : Heap} {xe : Value → Shared → Prop} {co : Obj} (hd : A.handled = none) (e0 : Env0 P w K mg base A outer s H) (r0 : RelV v0 u0) (r1 : RelV v1 u1)
    (hco : K.lookup cc = some co) (hcd : co.data = .cell (some (.ref D)))
    (hn : h1.Ns s.heap.objs.size (fun x => ([("self", u0), ("value", u1)] : List (Str × Value)).reverse.lookup x)) (k : ∀ b o, s.heap.get? b = some o → h1.get? b = some o) (t : Nat) :
    Inv (cxI P w K mg base A outer s H (PySem.W.ksEnv qn iniScope s.heap.objs.size f (.ref cda) cc) xe) [] [some v0, some v1] H { s with heap := h1, toks := t } := by
  have kb := e0.mod.kin _ _ hco
  obtain ⟨ks, kn⟩ := e0.bs _ _ kb
  have noA : ∀ b : Addr, b ∉ ([] : List Addr) := fun b z => nomatch z
  have one : ∀ {x : Str} {c : Addr}, ([("__class__", cc)] : List (Str × Addr)).lookup x = some c → x = "__class__" ∧ c = cc := fun {x c} h => by
    have q := PySem.mem_of_lookup h
    have q2 : (x, c) = (("__class__" : Str), cc) := by simpa using q
    injection q2 with q3 q4
    exact ⟨q3, q4⟩
  refine ⟨⟨e0.mod, rfl, rfl, rfl, Nat.le_refl _, fun y z c a b => (one a).1.trans (one b).1.symm, fun y hy => ?_, fun y c z _ => (by cases z), fun _ => hd, Around.frames_deeper e0.frames, .inr ⟨rfl, rfl⟩, fun b z => absurd z (noA b), e0.bs, e0.bsz, fun b _ _ => noA b, fun b z => absurd z (noA b), e0.funs, e0.frf⟩,
    rfl, e0.bare, Un.kept k, ⟨_, hn, fun i y v a b _ => ?_⟩, fun y c e => ?_, e0.hok.fresh (Nat.le_refl _), fun y c e => ?_, fun p hp => (nomatch (show p ∈ ([] : List (Addr × Obj)) from hp)), e0.hok.kept k, rfl⟩
  · have hy : iniScope.names.lookup y = some .cell ∨ iniScope.names.lookup y = some .free := hy
    have hm : y = "__class__" := by
      rcases hy with z | z
      · have q := PySem.mem_of_lookup z
        simp [iniScope] at q
      · have q := PySem.mem_of_lookup z
        simpa [iniScope] using q
    subst hm
    exact ⟨cc, rfl⟩
  · match i, a, b with
    | 0, a, b =>
      have e1 : ("self" : Str) = y := Option.some.inj a
      have e2 : v0 = v := Option.some.inj (Option.some.inj b)
      subst e1 e2
      exact ⟨u0, r0, .inl ⟨rfl, rfl⟩⟩
    | 1, a, b =>
      have e1 : ("value" : Str) = y := Option.some.inj a
      have e2 : v1 = v := Option.some.inj (Option.some.inj b)
      subst e1 e2
      exact ⟨u1, r1, .inl ⟨rfl, rfl⟩⟩
    | i + 2, a, b => cases a
  · obtain ⟨_, rfl⟩ := one e
    exact ⟨_, _, k _ _ ks, hcd⟩
  · obtain ⟨_, rfl⟩ := one e
    exact kn

/-- the built-in __init__, bound to the object -/
theorem bound_init {X : Cx} {σ : L2.St} {H : Hp} {s : Shared} {a C u : Addr} {us : List Value} {Q : Value → Shared → Prop} (T : OexC X.K C) (I : Inv X [(u, PySem.W.kxs_mw "ValueError.__init__" a)] σ H s) (e : H a = some (exo a C none)) (hl : us.length ≤ sizeLine)
    (h : ∀ s', Inv X [] σ H s' → Q .none s') : wpAny (model X.prog X.w) X.A (call (.ref u) us) Q X.xe s := by
  obtain ⟨nm, q, N, bs, bm, sn, sub, ab, col, dd, k0, k1, k2, k3, k5, hC, hbm⟩ := T.cls
  obtain ⟨t1, ho⟩ := exo_at I.hok e
  have hu := (I.pin _ (List.mem_append_right _ (List.mem_singleton.mpr rfl))).1
  obtain ⟨hp, g, d, t, os⟩ := s
  refine wpAny_call (codeAny_of_tree ?_)
  show wpAny _ X.A.in1 (callAny (.ref u) ⟨us, []⟩) _ _ _
  simp only [callAny]
  refine wpAny_bind (wpAny_load hu ?_)
  simp only [PySem.W.kxs_mw, show (Value.type "method-wrapper" == Value.type "method" || Value.type "method-wrapper" == Value.type "builtin_function_or_method" || Value.type "method-wrapper" == Value.type "method-wrapper") = true by decide, if_true]
  refine PySem.W.KFB.if_so (by decide) ?_
  refine wpAny_bind (PySem.W.check_bound_init PySem.F.excBase_ValueError.toExcCallFacts (I.kIn _ _ hC) ho rfl ?_)
  refine wpAny_bind (wpAny_pure (wpAny_pure ?_))
  refine ⟨plainId_quiet PySem.F.excBase_ValueError.init.plain _, codeAny_builtin PySem.F.excBase_ValueError.initEntry ?_⟩
  refine PySem.W.exc_init_tree (cls := .ref C) (t0 := t1) (dv := none) (c2 := .none) (c3 := .none) (b4 := .bool false) ho hl fun h' k hx _ => ?_
  have J := (unpin I).write (t' := t) (x := a) (e := a) (o := exo a C none) (by rw [e]; exact True.intro) (.inl rfl) k ⟨_, hx⟩ (exo_ok hx)
  have eu : upd H a (exo a C none) = H := by
    funext b
    by_cases hb : b = a
    · rw [hb, upd_same, e]
    · rw [upd_ne hb]
  rw [eu] at J
  exact h _ J


theorem ini_body {f D cda cc : Addr} {nm qn : Str} {oc kV doc pm ct : Value} {od an : Option Addr} {osl : Array (Option Value)} {p0 p1 p2 p3 p4 p5 q0 q1 q2 q3 a0 a1 : Pos} {A : Around} {outer : List Env} {s s1 : Shared} {H : Hp} {xe : Value → Shared → Prop} {a C : Addr} {v : V} {Qf : Flow → Shared → Prop}
    (B : IniB P K f D (PySem.W.ksFn nm qn (iniArgs a0 a1) (iniBody p0 p1 p2 p3 p4 p5 q0 q1 q2 q3) iniScope .none kV doc pm an (.ref cda) ct cc)) (hsup : mg "super" = none) (hp : (p2.endLine == p4.line) = true)
    (lk : K.lookup f = some ⟨oc, od, .func (PySem.W.ksFn nm qn (iniArgs a0 a1) (iniBody p0 p1 p2 p3 p4 p5 q0 q1 q2 q3) iniScope .none kV doc pm an (.ref cda) ct cc), osl⟩)
    {c1 : Value} {c2 : Option Addr} {vs : Array Value} {c3 : Array (Option Value)} {fl : Str} {tf : Tok} (lcd : K.lookup cda = some ⟨c1, c2, .fields vs, c3⟩) (hvs : vs[2]? = some (.str fl tf)) (hfl : ((P.main.file : Str) == fl) = true)
    {x1 : Value} {x2 : Option Addr} {x3 : Array (Option Value)} (lcc : K.lookup cc = some ⟨x1, x2, .cell (some (.ref D)), x3⟩) (T : ExC K f D C) (ha : H a = some (exo a C none))
    (I : Inv (cxI P w K mg base A outer s H (PySem.W.ksEnv qn iniScope s.heap.objs.size f (.ref cda) cc) xe) [] [some (.ref a), some v] H s1)
    (hQ : ∀ dx s', H dx = none → dx ≠ a → Inv (cxI P w K mg base A outer s H (PySem.W.ksEnv qn iniScope s.heap.objs.size f (.ref cda) cc) xe) [] [some (.ref a), some v] (upd (upd H dx (exd dx [("value", v)])) a (exo a C (some dx))) s' → Qf .next s') :
    _root_.PySem.wpAt (model P w) (A.deeper (PySem.W.ksEnv qn iniScope s.heap.objs.size f (.ref cda) cc)) (.func (iniBody p0 p1 p2 p3 p4 p5 q0 q1 q2 q3) (PySem.W.ksEnv qn iniScope s.heap.objs.size f (.ref cda) cc))
      (execs (iniBody p0 p1 p2 p3 p4 p5 q0 q1 q2 q3) (PySem.W.ksEnv qn iniScope s.heap.objs.size f (.ref cda) cc)) Qf xe s1 := by
  obtain ⟨cdD, hD⟩ := B.cls
  refine ks_wpAt_execs_cons ?_
  refine ks_wpAt_Expr_any ?_
  refine ks_wpAt_MethodCall ?_ (he_super hp)
  have KX := I.kIn
  obtain ⟨t1, ho⟩ := exo_at I.hok ha
  obtain ⟨m, hn, hl⟩ := id I.loc
  obtain ⟨us, rs, ls⟩ := hl 0 "self" (.ref a) rfl rfl (.inl rfl)
  obtain rfl : us = Value.ref a := rs
  have hms : m "self" = some (Value.ref a) := by
    rcases ls with ⟨_, z⟩ | ⟨z, _⟩
    · exact z
    · rcases z with z | z <;> cases z
  obtain ⟨oD, hD1, hD2⟩ : ∃ oD, s1.heap.get? D = some oD ∧ oD.data = .cls cdD := by
    unfold PySem.W.clsIn at hD
    split at hD
    · rename_i c d cd' sl ho
      cases hD
      exact ⟨_, KX _ _ ho, rfl⟩
    · cases hD
  obtain ⟨mb, h1, h2⟩ := I.mod.blt
  refine ks_wpAt_super_base (f := f) (cc := cda) (tf := tf) rfl rfl (by decide) rfl (KX _ _ lk) rfl rfl rfl (KX _ _ lcd) rfl hvs hfl B.top ?_
  refine PySem.W.ks_loadName_global rfl rfl (Calls.loadGlobal_builtin (mg := mg) (I.mod.glob.keeps I.bk) hsup (h1.keeps I.bk) ((h2 "super" (by decide)).trans (by rfl)) ⟨rfl, ?_⟩)
  refine wpAny_loadName_free rfl rfl rfl ⟨_, KX _ _ lcc, rfl⟩ ?_
  refine wpAny_loadName_local rfl rfl hn hms ?_
  refine ks_wpAny_isType_cls hD1 hD2 ⟨rfl, ?_⟩
  obtain ⟨hh, g, d, t, os⟩ := s1
  refine ks_wpAny_call_super hD1 hD2 ho rfl (fun c e => by cases e) (PySem.W.looks_mroIn KX T.sub) (fun h' e k => ?_)
  -- the super object is laid
  have I2 : Inv (cxI P w K mg base A outer s H (PySem.W.ksEnv qn iniScope s.heap.objs.size f (.ref cda) cc) xe) [] [some (.ref a), some v] H ⟨h', g, d, t, os⟩ := I.kept (t' := t) k
  have KX2 : K.In h' := I2.kIn
  have ho2 := k _ _ ho
  have I0 : PySem.W.InstAt h' a { cls := .ref C, dict := none, data := .fields #[.ref t1, .none, .none, .none, .bool false, .none] } C none := ⟨ho2, rfl, rfl, trivial⟩
  cases hc : PySem.W.clsIn K C with
  | none =>
    have z := T.sup
    unfold PySem.W.ks_superIn at z
    rw [hc] at z
    cases z
  | some cd =>
    have hm := T.sup
    unfold PySem.W.ks_superIn at hm
    rw [hc] at hm
    refine PySem.W.kxs_getMethod PySem.W.kxs_ValueError e (PySem.W.looks_opaque KX2 B.st) (l₀ := cd.mro) (fun A Q E s k q => wpAny_bind ((PySem.W.looks_clsIn KX2 hc) A _ E s k (wpAny_pure q))) rfl KX2 hm (I0.type.andThen (PySem.W.looks_subIn KX2 T.ve)) (PySem.W.ks_ne KX2 I0 hc) (by decide) ?_
    have hu : (h'.push (PySem.W.kxs_mw "ValueError.__init__" a)).get? h'.objs.size = some (PySem.W.kxs_mw "ValueError.__init__" a) := Heap.get?_push_size _ rfl
    have I3 : Inv (cxI P w K mg base A outer s H (PySem.W.ksEnv qn iniScope s.heap.objs.size f (.ref cda) cc) xe) [] [some (.ref a), some v] H ⟨h'.push (PySem.W.kxs_mw "ValueError.__init__" a), g, d, t + 1, os⟩ := I2.kept (t' := t + 1) fun b o z => Heap.get?_push_of_some _ z
    obtain ⟨m2, ⟨oL, _, _, hL, _⟩, _⟩ := id I2.loc
    have I4 := pin_one I3 hu (I2.hok.fresh (Nat.le_refl _)) (Nat.ne_of_gt (Heap.lt_size hL)) (I2.nofs (Nat.le_refl _)) (fun v z => by cases z)
    refine PySem.W.kxs_callWith (i := "ValueError.__init__") (x := a) (by rfl) ?_
    have hpa : PA (cxI P w K mg base A outer s H (PySem.W.ksEnv qn iniScope s.heap.objs.size f (.ref cda) cc) xe) [.Name "value" p3] (tCons (tVar 1) tNil) := pa_cons (pe_var (i := 1) rfl (.inl rfl)) pa_nil
    refine Calls.evalArgs_plain (thn (hpa.run p4 _ _ _ H (fun vs H1 => vs = [v] ∧ H1 = H) I4 ⟨v, rfl, rfl, rfl⟩) fun us s2 ⟨vs', H1, I5, r5, ev, eH⟩ => ?_)
    subst ev eH
    cases r5 with
    | @cons _ ub _ ut rb rt =>
      cases rt
      refine ⟨(I5.pin _ (List.mem_append_right _ (List.mem_singleton.mpr rfl))).1, ?_⟩
      refine bound_init T.o I5 ha (by rw [sizeLine_eq]; show 1 ≤ 16777216; decide) fun s3 I6 => ?_
      -- the field
      refine wpAt_of_wpAny ?_
      have hps : PSs (cxI P w K mg base A outer s H1 (PySem.W.ksEnv qn iniScope s.heap.objs.size f (.ref cda) cc) xe) [.Assign [.Attribute (.Name "self" q0) "value" q1] (.Name "value" q2) q3] (tOst K "value" (tVar 0) (tVar 1)) :=
        pss_one (ps_ost (pe_var (i := 0) rfl (.inl rfl)) (pe_var (i := 1) rfl (.inl rfl)))
      refine wpAny_mono (hps.run [] s3 _ H1 { nx := fun σ' H' => σ' = [some (.ref a), some v] ∧ ∃ dx, H1 dx = none ∧ dx ≠ a ∧ H' = upd (upd H1 dx (exd dx [("value", v)])) a (exo a C (some dx)), rt := fun _ _ => False } I6
        ⟨v, rfl, .ref a, rfl, a, C, rfl, T.o, T.noval, .inl ⟨ha, fun dx n1 n2 => ⟨rfl, dx, n1, n2, rfl⟩⟩⟩) (fun fl s' hs => ?_) fun _ _ z => z
      cases fl with
      | next =>
        obtain ⟨σ', H', J, rfl, dx, n1, n2, rfl⟩ := hs
        exact hQ dx s' n1 n2 J
      | ret u =>
        obtain ⟨_, _, _, _, _, q⟩ := hs
        exact q.elim
      | brk =>
        obtain ⟨_, _, _, q⟩ := hs
        exact False.elim q
      | cont =>
        obtain ⟨_, _, _, q⟩ := hs
        exact False.elim q
theorem ini_ok {k : Nat} {f D : Addr} {fd : FuncData} (B : IniB P K f D fd) (hsup : mg "super" = none) : FnOk P w K mg base (L2.CX P w) (k + 1) f fd ["self", "value"] (spI K f D) := by
  obtain ⟨nm, qn, oc, od, kV, doc, pm, ct, an, osl, cda, cc, p0, p1, p2, p3, p4, p5, q0, q1, q2, q3, a0, a1, rfl, lk, hcd, ⟨c1, c2, vs, c3, fl, tf, lcd, hvs, hfl⟩, ⟨x1, x2, x3, lcc⟩, hp⟩ := B.ex
  refine ⟨fun vs H Q E h => by
    obtain ⟨a, C, v, rfl, _⟩ := h
    rfl, fun A outer s H args us vs Q E hr e0 hbi r hsp => ?_⟩
  obtain ⟨a, C, v, rfl, T, ha, hq⟩ := hsp
  cases r with
  | @cons _ ua _ ur ra rr =>
    cases rr with
    | @cons _ uv _ un rv rn =>
      cases rn
      obtain rfl : ua = Value.ref a := ra
      have KX : K.In s.heap := e0.mod.kin.keeps fun b o e => (e0.bs b o e).1
      have lim : s.heap.NoLimit := e0.mod.nolimit.keeps fun b o e => (e0.bs b o e).1
      refine ks_codeAny_call_defAt (fd := PySem.W.ksFn nm qn (iniArgs a0 a1) (iniBody p0 p1 p2 p3 p4 p5 q0 q1 q2 q3) iniScope .none kV doc pm an (.ref cda) ct cc) (body := iniBody p0 p1 p2 p3 p4 p5 q0 q1 q2 q3) (binds := (["self", "value"] : List Str).zip [Value.ref a, uv])
        hr.depth (KX _ _ lk) rfl lim (PySem.W.codeRec_of KX hcd) rfl hbi (show ∀ y ∈ iniScope.names, y.2 ≠ NameKind.cell by decide) (fun y hy => ?_) (fun h1 hn hk => ?_)
      · have hy2 : y = (("self" : Str), Value.ref a) ∨ y = (("value" : Str), uv) := by
          have z : y ∈ [(("self" : Str), Value.ref a), (("value" : Str), uv)] := hy
          simpa using z
        rcases hy2 with rfl | rfl <;> rfl
      · refine ini_body (H := H) B hsup hp lk lcd hvs hfl lcc T ha (ini_start (D := D) (co := ⟨x1, x2, .cell (some (.ref D)), x3⟩) (v0 := .ref a) (v1 := v) (u0 := .ref a) (u1 := uv) hr.hd e0 rfl rv lcc rfl hn hk (s.toks + 2)) fun dx s' n1 n2 J => ?_
        exact ⟨.non, _, J.os, J.bare, J.base, J.hok, rfl, hq dx n1 n2⟩
end
end PyD
end
section
set_option linter.all false
set_option maxRecDepth 100000
set_option maxHeartbeats 4000000
namespace PyD
open PySem L2

/-! ### a def runs -/
section
variable {X : Cx} {W : WX} {k : Nat} {f : Addr} {fd : FuncData} {ps : List Str} {sp : Sp}
theorem run_G {pins : List (Addr × Obj)} {σ : St} {H : Hp} {s : Shared} {Q : VK} {us : List Value} {vs : List V} (tk : Takes X W) (gd : Gd X) (G : FnG X.prog X.w X.K X.mg X.base k f fd ps sp) (hr : Room k X.A) (hb : Binds X.K fd ps [])
    (I : Inv X pins σ H s) (r : Vals vs us) (h : sp vs H Q (WE W σ)) : wpAny (model X.prog X.w) X.A (call (.ref f) us) (EP X pins σ Q) X.xe s := by
  have hl : us.length = ps.length := by rw [← r.length]; exact G.len _ _ _ _ h
  have b := hb s us I.kIn (by rw [List.append_nil]; exact hl)
  rw [List.append_nil] at b
  refine wpAny_call (codeAny_mono (G.run X.A X.stack s H ⟨us, []⟩ us vs Q (WE W σ) gd hr I.env0 b r h) fun r s' hq => ?_)
  cases r with
  | error e => exact passAt tk σ pins H s e s' I hq
  | ok fl =>
    cases fl with
    | ret u => exact I.after hq
    | next => exact False.elim hq
    | brk => exact False.elim hq
    | cont => exact False.elim hq
theorem pe_callG {x : Str} {q pos : Pos} {e : Expr} {es : List Expr} {t : TA} (tk : Takes X W) (gd : Gd X) (G : FnG X.prog X.w X.K X.mg X.base k f fd ps sp) (hr : Room k X.A) (hg : Gl X x) (hm : X.mg x = some (.ref f)) (hk : PySem.W.keepIn X.K (.ref f) = true) (hb : Binds X.K fd ps [])
    (ha : PA X (e :: es) t) (hdb : (x == ("__debug__" : Str)) = false := by decide) (he : starEach (e :: es) X.env = (false, eval e X.env) :: starEach es X.env := by rfl) (hpl : (backTo pos (starEach es X.env)).any (·.1) = false := by rfl) :
    PE X (.Call (.Name x q) (e :: es) [] pos) (tCallS sp (WE W) t) := by
  refine ⟨fun pins s σ H Q I h => ?_⟩
  refine wpAny_Call_Name_kw (ld_glob I hg hm ?_ hdb)
  refine PySem.W.callWith_K (h₀ := X.base) I.ok.mod.kin hk (thn (ha.run pos pins s σ H _ I h) fun us s1 ⟨vs, H1, I1, r, z⟩ => ⟨I1.kIn, ?_⟩) he hpl
  exact run_G tk gd G hr hb I1 r z
theorem pe_callG0 {x : Str} {q pos : Pos} (tk : Takes X W) (gd : Gd X) (G : FnG X.prog X.w X.K X.mg X.base k f fd ps sp) (hr : Room k X.A) (hg : Gl X x) (hm : X.mg x = some (.ref f)) (hk : PySem.W.keepIn X.K (.ref f) = true) (hb : Binds X.K fd ps [])
    (hdb : (x == ("__debug__" : Str)) = false := by decide) : PE X (.Call (.Name x q) [] [] pos) (tCallS sp (WE W) tNil) := by
  refine ⟨fun pins s σ H Q I h => ?_⟩
  refine wpAny_Call_Name_kw (ld_glob I hg hm ?_ hdb)
  exact PySem.W.callWith_K0 I.kIn hk (run_G (us := []) tk gd G hr hb I .nil h)
end

/-! ### f(e, ..) -/
section
variable {cl : Cl} {X : Cx} {W : WX} {k : Nat} {f : Addr} {fd : FuncData} {ps : List Str} {x : Str} {p pos : Pos} {e : Expr} {es : List Expr} {fn : Fn} {n : Nat}
theorem tM_callF {ka : M (List Av)} (σ : St) (H : Hp) (Q : VK) (z : tM cl (AE cl) W (cCallF fn n ka) σ H Q) : tCallS (spF cl fn n) (WE W) (tM cl (AA cl) W ka) σ H Q := by
  obtain ⟨ρ, F, s, h⟩ := z
  unfold cCallF at h
  refine tM_of s ?_
  cases q : ka ρ with
  | exc k d r1 => rw [q] at h; exact h
  | stuck => rw [q] at h; exact h
  | ok as r1 =>
    rw [q] at h
    dsimp only at h
    intro vs F1 H1 s1 g1 r
    cases q2 : allSl r1 as with
    | none => rw [q2] at h; exact h.elim
    | some ss =>
      rw [q2] at h
      dsimp only at h
      split at h
      · rename_i hc
        obtain ⟨hd, hlen⟩ := hc
        have s2 := s1.args q2 hd r
        refine ⟨by rw [← Paired.length r]; exact hlen, ss, F1, s2, clean_of q2, ?_⟩
        cases q3 : fn ss with
        | ok d outs =>
          rw [q3] at h
          intro v F' H' s3 g3 rv
          obtain ⟨s4, g4⟩ := s1.back q2 hd r s3 g3
          exact h v F' H' s4 (g1.trans g4) rv
        | exc k d outs =>
          rw [q3] at h
          intro F' H' dx v s3 g3 ex rv
          obtain ⟨s4, g4⟩ := s1.back q2 hd r s3 g3
          exact h F' H' dx v s4 (g1.trans g4) ex rv
        | stuck => rw [q3] at h; exact h
      · exact h.elim
theorem se_callG {ka : M (List Av)} (tk : Takes X W) (gd : Gd X) (G : FnG X.prog X.w X.K X.mg X.base k f fd ps (spF cl fn n)) (hr : Room k X.A) (hg : Gl X x) (hm : X.mg x = some (.ref f)) (hk : PySem.W.keepIn X.K (.ref f) = true) (hb : Binds X.K fd ps [])
    (ha : SA cl X W (e :: es) ka) (hdb : (x == ("__debug__" : Str)) = false := by decide) (he : starEach (e :: es) X.env = (false, eval e X.env) :: starEach es X.env := by rfl) (hpl : (backTo pos (starEach es X.env)).any (·.1) = false := by rfl) :
    SE cl X W (.Call (.Name x p) (e :: es) [] pos) (cCallF fn n ka) := PE.imp (pe_callG tk gd G hr hg hm hk hb ha hdb he hpl) fun σ H Q h => tM_callF σ H Q h
theorem se_callG0 (tk : Takes X W) (gd : Gd X) (G : FnG X.prog X.w X.K X.mg X.base k f fd ps (spF cl fn n)) (hr : Room k X.A) (hg : Gl X x) (hm : X.mg x = some (.ref f)) (hk : PySem.W.keepIn X.K (.ref f) = true) (hb : Binds X.K fd ps [])
    (hdb : (x == ("__debug__" : Str)) = false := by decide) : SE cl X W (.Call (.Name x p) [] [] pos) (cCallF fn n (M.ret [])) := PE.imp (pe_callG0 tk gd G hr hg hm hk hb hdb) fun σ H Q h => by
  obtain ⟨vs, hs⟩ : ∃ vs : List V, vs = [] ∧ tM cl (AA cl) W (M.ret []) σ H (fun vs H1 => spF cl fn n vs H1 Q (WE W σ)) := ⟨[], rfl, tM_callF σ H Q h⟩
  obtain ⟨_, ρ, F, s, f⟩ := hs
  exact f [] F H s Go.refl .nil

/-! .. the first argument a new object, handed on as one's own -/
theorem St0.more {ρ : Rho} {σ : St} {F H : Hp} {q : Addr} {o : HO} {d : D} (s : St0 cl ρ σ F H) (hq : H q = some o) (hf : F q = none) (no : ¬ Own ρ σ q) (ro : RepO cl F d o) : St0 cl (ρ ++ [.ow false d]) (σ ++ [some (.ref q)]) F H := by
  have len := s.len
  have atR : ∀ (i : Nat) (x : Sl), (ρ ++ [Sl.ow false d])[i]? = some x → ρ[i]? = some x ∨ (i = ρ.length ∧ x = .ow false d) := fun i x h => by
    by_cases hi : i < ρ.length
    · rw [List.getElem?_append_left hi] at h
      exact .inl h
    · rw [List.getElem?_append_right (Nat.le_of_not_lt hi)] at h
      by_cases z : i - ρ.length = 0
      · rw [z] at h
        exact .inr ⟨by omega, (Option.some.inj h).symm⟩
      · rw [List.getElem?_eq_none (by simp; omega)] at h
        cases h
  have atS : ∀ (i : Nat), i < ρ.length → (σ ++ [some (V.ref q)])[i]? = σ[i]? := fun i hi => List.getElem?_append_left (by rw [← len]; exact hi)
  have atE : (σ ++ [some (V.ref q)])[ρ.length]? = some (some (.ref q)) := by rw [len, List.getElem?_append_right (Nat.le_refl _), Nat.sub_self]; rfl
  have lt : ∀ (i : Nat) (x : Sl), ρ[i]? = some x → i < ρ.length := fun i x h => (List.getElem?_eq_some_iff.mp h).1
  refine ⟨s.ext, by simp [len], fun i x y h1 h2 => ?_, fun i j b c x y a h1 h2 h3 h4 => ?_⟩
  · rcases atR i x h1 with z | ⟨rfl, rfl⟩
    · rw [atS i (lt i x z)] at h2
      exact s.sl i x y z h2
    · rw [atE] at h2
      cases h2
      exact ⟨q, o, rfl, hq, hf, ro⟩
  · rcases atR i _ h1 with z | ⟨rfl, e1⟩
    · rw [atS i (lt i _ z)] at h3
      rcases atR j _ h2 with z2 | ⟨rfl, e2⟩
      · rw [atS j (lt j _ z2)] at h4
        exact s.ds i j b c x y a z z2 h3 h4
      · rw [atE] at h4
        cases h4
        exact absurd ⟨i, b, x, z, h3⟩ no
    · rw [atE] at h3
      cases h3
      rcases atR j _ h2 with z2 | ⟨rfl, e2⟩
      · rw [atS j (lt j _ z2)] at h4
        exact absurd ⟨j, c, y, z2, h4⟩ no
      · rfl
theorem St0.less {ρ : Rho} {σ : St} {u : Option V} {F H : Hp} (s : St0 cl ρ (σ ++ [u]) F H) : St0 cl (ρ.take σ.length) σ F H := by
  have len : ρ.length = σ.length + 1 := by rw [s.len]; simp
  have at_ : ∀ (i : Nat) (x : Sl), (ρ.take σ.length)[i]? = some x → ρ[i]? = some x ∧ i < σ.length := fun i x h => by
    rw [List.getElem?_take] at h
    split at h
    · rename_i hi
      exact ⟨h, hi⟩
    · cases h
  have up : ∀ (i : Nat) (o : Option V), i < σ.length → σ[i]? = some o → (σ ++ [u])[i]? = some o := fun i o hi h => by rw [List.getElem?_append_left hi]; exact h
  refine ⟨s.ext, by rw [List.length_take]; omega, fun i x y h1 h2 => ?_, fun i j b c x y a h1 h2 h3 h4 => ?_⟩
  · obtain ⟨z, hi⟩ := at_ i x h1
    exact s.sl i x y z (up i y hi h2)
  · obtain ⟨z, hi⟩ := at_ i _ h1
    obtain ⟨z2, hj⟩ := at_ j _ h2
    exact s.ds i j b c x y a z z2 (up i _ hi h3) (up j _ hj h4)
theorem Go.less {ρ0 ρ ρ' : Rho} {σ : St} {F0 H0 F H F' H' : Hp} {q : Addr} {d : D} (a : Go ρ0 σ F0 H0 ρ σ F H) (h0 : H0 q = none) (ln : ρ.length = σ.length) (b : Go (ρ ++ [.ow false d]) (σ ++ [some (.ref q)]) F H ρ' (σ ++ [some (.ref q)]) F' H') :
    Go ρ0 σ F0 H0 (ρ'.take σ.length) σ F' H' := by
  have at_ : ∀ (i : Nat) (x : Sl), (ρ'.take σ.length)[i]? = some x → ρ'[i]? = some x ∧ i < σ.length := fun i x h => by
    rw [List.getElem?_take] at h
    split at h
    · rename_i hi
      exact ⟨h, hi⟩
    · cases h
  have ownB : ∀ x, Own (ρ ++ [.ow false d]) (σ ++ [some (.ref q)]) x → Own ρ σ x ∨ x = q := fun x ⟨i, c, y, h1, h2⟩ => by
    by_cases hi : i < ρ.length
    · rw [List.getElem?_append_left hi] at h1
      rw [List.getElem?_append_left (by rw [← ln]; exact hi)] at h2
      exact .inl ⟨i, c, y, h1, h2⟩
    · have hl := (List.getElem?_eq_some_iff.mp h1).1
      simp at hl
      have e : i = σ.length := by omega
      rw [e, List.getElem?_append_right (Nat.le_refl _), Nat.sub_self] at h2
      cases h2
      exact .inr rfl
  refine ⟨fun x o h => b.mono x o (a.mono x o h), fun x o h n => ?_, fun x hx => ?_, fun i y h => ?_, fun i y h => ?_, rfl, fun x o h => ?_⟩
  · obtain ⟨⟨o1, e1, t1⟩, f1⟩ := a.fr x o h n
    have n1 : ¬ Own (ρ ++ [.ow false d]) (σ ++ [some (.ref q)]) x := fun z => by
      rcases ownB x z with z | rfl
      · rcases a.own x z with y | y
        · exact n y
        · rw [h] at y
          cases y
      · rw [h0] at h
        cases h
    obtain ⟨⟨o2, e2, t2⟩, f2⟩ := b.fr x o1 e1 n1
    refine ⟨⟨o2, e2, fun t => ?_⟩, fun z => f2 (f1 z)⟩
    have e := t1 t
    subst e
    exact t2 t
  · obtain ⟨i, c, y, h1, h2⟩ := hx
    obtain ⟨z, hi⟩ := at_ i _ h1
    have up : (σ ++ [some (V.ref q)])[i]? = some (some (.ref x)) := by rw [List.getElem?_append_left hi]; exact h2
    rcases b.own x ⟨i, c, y, z, up⟩ with z | z
    · rcases ownB x z with z | rfl
      · exact a.own x z
      · exact .inr h0
    · cases e : H0 x with
      | none => exact .inr rfl
      | some o =>
        obtain ⟨o', e'⟩ := a.there x o e
        rw [z] at e'
        cases e'
  · obtain ⟨_, y1, h1⟩ := a.pin i y h
    have hi := (List.getElem?_eq_some_iff.mp h1).1
    obtain ⟨_, y2, h2⟩ := b.pin i y1 (by rw [List.getElem?_append_left hi]; exact h1)
    exact ⟨rfl, y2, by rw [List.getElem?_take, if_pos (by rw [← ln]; exact hi)]; exact h2⟩
  · obtain ⟨z, hi⟩ := at_ i _ h
    obtain ⟨y1, h1⟩ := b.pinB i y z
    rw [List.getElem?_append_left (by rw [ln]; exact hi)] at h1
    exact a.pinB i y1 h1
  · obtain ⟨o1, e1⟩ := a.there x o h
    exact b.there x o1 e1
def cCallN (f : Fn) (n : Nat) (c : M D) (k : M (List Av)) : M D := c.bind fun d => k.bind fun as => fun r => match allSl (r ++ [.ow false d]) (.io r.length :: as) with
  | some ss => if noDup (r.length :: iosOf as) = true ∧ as.length + 1 = n then (match f ss with
    | .ok z outs => .ok z ((putBack (r ++ [.ow false d]) (.io r.length :: as) outs).take r.length)
    | .exc k z outs => .exc k z ((putBack (r ++ [.ow false d]) (.io r.length :: as) outs).take r.length)
    | .stuck => .stuck) else .stuck
  | none => .stuck
theorem se_callN {c : M D} {ka : M (List Av)} (tk : Takes X W) (gd : Gd X) (G : FnG X.prog X.w X.K X.mg X.base k f fd ps (spF cl fn n)) (hr : Room k X.A) (hg : Gl X x) (hm : X.mg x = some (.ref f)) (hk : PySem.W.keepIn X.K (.ref f) = true) (hb : Binds X.K fd ps [])
    (h0 : SF cl X W e c) (ha : SA cl X W es ka) (hdb : (x == ("__debug__" : Str)) = false := by decide) (he : starEach (e :: es) X.env = (false, eval e X.env) :: starEach es X.env := by rfl) (hpl : (backTo pos (starEach es X.env)).any (·.1) = false := by rfl) :
    SE cl X W (.Call (.Name x p) (e :: es) [] pos) (cCallN fn n c ka) := PE.imp (pe_callG tk gd G hr hg hm hk hb (pa_cons h0 ha he) hdb he hpl) fun σ H Q ⟨ρ, F, s, h⟩ => by
  unfold cCallN M.bind at h
  refine ⟨ρ, F, s, ?_⟩
  cases q : c ρ with
  | exc k d r1 => rw [q] at h; exact h
  | stuck => rw [q] at h; exact h
  | ok d r1 =>
    rw [q] at h
    dsimp only at h
    intro p0 o F1 H1 s1 g1 hn hp hf no ro
    refine ⟨r1, F1, s1, ?_⟩
    cases q2 : ka r1 with
    | exc k d r2 =>
      rw [q2] at h
      exact fun F' H' dx v s' g' ex rv => h F' H' dx v s' (g1.trans g') ex rv
    | stuck => rw [q2] at h; exact h
    | ok as r2 =>
      rw [q2] at h
      dsimp only at h
      intro vs F2 H2 s2 g2 r
      obtain ⟨⟨o2, hp2, t2⟩, hf2⟩ := g2.fr p0 o hp no
      have eo := t2 ro.noTbl
      subst eo
      have no2 : ¬ Own r2 σ p0 := fun z => by
        rcases g2.own p0 z with y | y
        · exact no y
        · rw [hp] at y
          cases y
      have s3 := s2.more hp2 (hf2 hf) no2 (ro.mono g2.mono)
      have rr : Paired (RepAv cl (σ ++ [some (.ref p0)]) F2) (.io r2.length :: as) (.ref p0 :: vs) := by
        refine .cons ?_ ?_
        · show (σ ++ [some (V.ref p0)])[r2.length]? = some (some (.ref p0))
          rw [s2.len, List.getElem?_append_right (Nat.le_refl _), Nat.sub_self]
          rfl
        · refine Paired.impMem r fun a _ v z => ?_
          cases a with
          | v d => exact z
          | io i =>
            have z : σ[i]? = some (some v) := z
            show (σ ++ [some (V.ref p0)])[i]? = some (some v)
            rw [List.getElem?_append_left (List.getElem?_eq_some_iff.mp z).1]
            exact z
      cases q3 : allSl (r2 ++ [.ow false d]) (.io r2.length :: as) with
      | none => rw [q3] at h; exact h.elim
      | some ss =>
        rw [q3] at h
        dsimp only at h
        split at h
        · rename_i hc
          obtain ⟨hd, hlen⟩ := hc
          have s4 := s3.args q3 hd rr
          refine ⟨by rw [List.length_cons, ← Paired.length r]; exact hlen, ss, F2, s4, clean_of q3, ?_⟩
          cases q4 : fn ss with
          | ok z outs =>
            rw [q4] at h
            intro v F' H' s5 g5 rv
            obtain ⟨s6, g6⟩ := s3.back q3 hd rr s5 g5
            have s7 := s6.less
            have g7 := Go.less (g1.trans g2) hn s2.len g6
            rw [← s2.len] at s7 g7
            exact h v F' H' s7 g7 rv
          | exc k z outs =>
            rw [q4] at h
            intro F' H' dx v s5 g5 ex rv
            obtain ⟨s6, g6⟩ := s3.back q3 hd rr s5 g5
            have s7 := s6.less
            have g7 := Go.less (g1.trans g2) hn s2.len g6
            rw [← s2.len] at s7 g7
            exact h F' H' dx v s7 g7 ex rv
          | stuck => rw [q4] at h; exact h
        · exact h.elim
end
end PyD
end
section
set_option linter.all false
set_option maxRecDepth 100000
set_option maxHeartbeats 4000000
namespace PyD
open PySem L2

/-! ### an exception is made, raised, looked at -/
section
variable {X : Cx} {pins : List (Addr × Obj)} {σ : St} {H : Hp} {s : Shared} {a d C : Addr} {v : V}
theorem exv_ok {P : Program} {w : World} {H : Hp} {h : Heap} {o : Obj} {vs : Array Value} (e1 : h.get? a = some o) (e2 : o.cls = .ref C) (e3 : o.dict = some d) (e4 : o.data = .fields vs) : ObjOk P w H h a (exv a C d) :=
  ⟨⟨o, vs, e1, e2, e3, e4⟩, ⟨_, e1⟩, fun h1 h2 z k => by
    obtain ⟨o, vs, q, q2⟩ := z
    exact ⟨o, vs, k _ q, q2⟩⟩
theorem exv_at {P : Program} {w : World} {H : Hp} {h : Heap} (ok : HOk P w H h) (e : H a = some (exv a C d)) : ∃ (o : Obj) (vs : Array Value), h.get? a = some o ∧ o.cls = .ref C ∧ o.dict = some d ∧ o.data = .fields vs := by
  have x : ObjOk P w H h a (.ext fun h => ∃ (o : Obj) (vs : Array Value), h.get? a = some o ∧ o.cls = .ref C ∧ o.dict = some d ∧ o.data = .fields vs) := ok a _ e
  exact x.1
/-- an exception that was made stands as any exception -/
theorem made_exv {fs : List (Str × V)} (I : Inv X pins σ H s) (ea : H a = some (exo a C (some d))) (ed : H d = some (exd d fs)) (ne : d ≠ a) : Inv X pins σ (upd (upd H d (.xd fs)) a (exv a C d)) s := by
  obtain ⟨mA, hns, rel⟩ := exd_at I.hok ed
  obtain ⟨t1, ho⟩ := exo_at I.hok ea
  obtain ⟨hh, g, dr, t, os⟩ := s
  have J1 : Inv X pins σ (upd H d (.xd fs)) ⟨hh, g, dr, t, os⟩ := I.write (t' := t) (x := d) (e := d) (o := .xd fs) (by rw [ed]; exact True.intro) (.inl rfl) (fun b u _ z => z) (by obtain ⟨o, _, _, z, _⟩ := hns; exact ⟨o, z⟩) ⟨mA, hns, rel⟩
  exact J1.write (t' := t) (x := a) (e := a) (o := exv a C d) (by rw [upd_ne (Ne.symm ne), ea]; exact True.intro) (.inl rfl) (fun b u _ z => z) ⟨_, ho⟩ (exv_ok ho rfl rfl rfl)
end
theorem ini_binds {P : Program} {K : PySem.W.Frag} {f D : Addr} {fd : FuncData} (B : IniB P K f D fd) : Binds K fd ["self", "value"] [] := by
  obtain ⟨nm, qn, oc, od, kV, doc, pm, ct, an, osl, cda, cc, p0, p1, p2, p3, p4, p5, q0, q1, q2, q3, a0, a1, rfl, _⟩ := B.ex
  exact .all fun us hl => match us, hl with | [_, _], _ => rfl

section
end
/-- C(e): a new exception -/
def tMkx (C : Addr) (ta : TA) : TE := fun σ H Q => ta σ H fun vs H1 => ∃ v, vs = [v] ∧ ∀ a d, H1 a = none → H1 d = none → d ≠ a → Q (.ref a) (upd (upd H1 d (.xd [("value", v)])) a (exv a C d))
theorem pe_mkx {X : Cx} {f D C : Addr} {fd : FuncData} {k : Nat} {x : Str} {p pos : Pos} {e : Expr} {es : List Expr} {ta : TA} (B : IniB X.prog X.K f D fd) (hsup : X.mg "super" = none) (T : ExC X.K f D C) (hr : Room (k + 2) X.A) (hg : Gl X x) (hm : X.mg x = some (.ref C)) (ha : PA X (e :: es) ta)
    (hdb : (x == ("__debug__" : Str)) = false := by decide) (he : starEach (e :: es) X.env = (false, eval e X.env) :: starEach es X.env := by rfl) (hpl : (backTo pos (starEach es X.env)).any (·.1) = false := by rfl) :
    PE X (.Call (.Name x p) (e :: es) [] pos) (tMkx C ta) := by
  have G : FnOk X.prog X.w X.K X.mg X.base (L2.CX X.prog X.w) (k + 1) f fd ["self", "value"] (spI X.K f D) := ini_ok B hsup
  refine ⟨fun pins s σ H Q I h => ?_⟩
  obtain ⟨nm, qn, N, bs, bm, sn, sub, ab, col, dd, k0, k1, k2, k3, k5, hC, hbm⟩ := T.o.cls
  refine wpAny_Call_Name_kw (ld_glob I hg hm ?_ hdb)
  refine PySem.W.callWith_K (h₀ := X.base) I.ok.mod.kin T.o.kC (thn (ha.run pos pins s σ H _ I h) fun us s1 hh => ?_) he hpl
  obtain ⟨vs, H1, I1, r1, v, ev, q1⟩ := hh
  subst ev
  refine ⟨I1.kIn, ?_⟩
  show wpAny _ _ (call (.ref C) us) _ _ _
  cases r1 with
  | @cons _ u _ un ru rn =>
    cases rn
    obtain ⟨hp, g, dr, tk, os⟩ := s1
    have hsz : hp.objs.size ≤ hp.objs.size + 1 := Nat.le_succ _
    have hn : H1 (hp.objs.size + 1) = none := I1.hok.fresh hsz
    have up2 : ∀ b o, hp.get? b = some o → ((hp.push (PySem.W.kdv_tup [u])).push (PySem.HandSPX.excO C hp.objs.size)).get? b = some o := fun b o z => Heap.get?_push_of_some _ (Heap.get?_push_of_some _ z)
    have own : ((hp.push (PySem.W.kdv_tup [u])).push (PySem.HandSPX.excO C hp.objs.size)).get? (hp.objs.size + 1) = some (PySem.HandSPX.excO C hp.objs.size) := by heap_get
    have I2 : Inv X pins σ (upd H1 (hp.objs.size + 1) (exo (hp.objs.size + 1) C none)) ⟨(hp.push (PySem.W.kdv_tup [u])).push (PySem.HandSPX.excO C hp.objs.size), g, dr, tk, os⟩ :=
      I1.laid (t' := tk) (a := hp.objs.size + 1) (o := exo (hp.objs.size + 1) C none) (h' := (hp.push (PySem.W.kdv_tup [u])).push (PySem.HandSPX.excO C hp.objs.size)) up2 hsz (exo_ok own)
    generalize ha0 : hp.objs.size + 1 = a0 at I2 hn own
    have rel : Vals [V.ref a0, v] [Value.ref a0, u] := .cons rfl (.cons ru .nil)
    have hb := ini_binds B ⟨(hp.push (PySem.W.kdv_tup [u])).push (PySem.HandSPX.excO C hp.objs.size), g, dr, tk, os⟩ [Value.ref a0, u] I2.kIn rfl
    have hI : spI X.K f D [V.ref a0, v] (upd H1 a0 (exo a0 C none)) (fun w H2 => w = .non ∧ ∃ dx, H1 dx = none ∧ dx ≠ a0 ∧ H2 = upd (upd (upd H1 a0 (exo a0 C none)) dx (exd dx [("value", v)])) a0 (exo a0 C (some dx))) (fun _ _ _ => False) :=
      ⟨a0, C, v, rfl, T, upd_same, fun dx n1 n2 => ⟨rfl, dx, by rw [upd_ne n2] at n1; exact n1, n2, rfl⟩⟩
    refine wpAny_call (PySem.HandSPX.call_own PySem.F.excBase_ValueError (fun Y => PySem.HandSPX.refsVE_contains Y bm hbm) (I1.kIn _ _ hC) (PySem.W.looks_findIn I1.kIn T.ini) (fun self => PySem.W.bind_fn I1.kIn self B.fn) (by rw [sizeLine_eq]; show 1 ≤ 16777216; decide)
      (codeAny_mono (G.run _ X.stack _ _ ⟨[Value.ref (hp.objs.size + 1), u], []⟩ [Value.ref (hp.objs.size + 1), u] _ _ (fun _ _ _ => False) (hr.make C [u] []) (I2.env0.make C [u] []) (by rw [ha0]; exact hb) (by rw [ha0]; exact rel) hI) fun r s' hq => ?_))
    cases r with
    | error er => exact passL pins σ _ _ er s' I2 hq
    | ok fl =>
      cases fl with
      | next => exact False.elim hq
      | brk => exact False.elim hq
      | cont => exact False.elim hq
      | ret w =>
        obtain ⟨w2, H2, I3, rw2, ew, dx, n1, n2, eH⟩ := I2.after hq
        subst ew eH
        refine ⟨rw2, .ref a0, _, made_exv (C := C) (a := a0) (d := dx) (fs := [("value", v)]) I3 upd_same (by rw [upd_ne n2, upd_same]) n2, by rw [ha0]; rfl, ?_⟩
        have e3 : upd (upd (upd (upd (upd H1 a0 (exo a0 C none)) dx (exd dx [("value", v)])) a0 (exo a0 C (some dx))) dx (.xd [("value", v)])) a0 (exv a0 C dx) = upd (upd H1 dx (.xd [("value", v)])) a0 (exv a0 C dx) := by
          funext b
          by_cases hb1 : b = a0
          · rw [hb1, upd_same, upd_same]
          · rw [upd_ne hb1, upd_ne hb1]
            by_cases hb2 : b = dx
            · rw [hb2, upd_same, upd_same]
            · rw [upd_ne hb2, upd_ne hb2, upd_ne hb1, upd_ne hb2, upd_ne hb1]
        rw [e3]
        exact q1 a0 dx hn n1 n2

/-! ### by trees -/
section
variable {cl : Cl} {X : Cx} {W : WX} {f D0 : Addr} {fd : FuncData} {j : Nat} {x k : Str} {p pos pos' : Pos} {e : Expr} {es : List Expr} {ka : M (List D)} {c : M D}
def mkX (k : Str) : List D → Option D
  | [d] => some (.exc k d)
  | _ => none
def cMkx (k : Str) (ka : M (List D)) : M D := ka.bind fun xs => M.opt (mkX k xs)
theorem mkX_some {k : Str} {xs : List D} {z : D} (h : mkX k xs = some z) : ∃ d, xs = [d] ∧ z = .exc k d := by
  match xs, h with
  | [d], h => exact ⟨d, rfl, (Option.some.inj h).symm⟩
theorem se_mkx (B : IniB X.prog X.K f D0 fd) (hsup : X.mg "super" = none) (T : ExC X.K f D0 (cl k)) (hr : Room (j + 2) X.A) (hg : Gl X x) (hm : X.mg x = some (.ref (cl k))) (ha : SL cl X W (e :: es) ka)
    (hdb : (x == ("__debug__" : Str)) = false := by decide) (he : starEach (e :: es) X.env = (false, eval e X.env) :: starEach es X.env := by rfl) (hpl : (backTo pos (starEach es X.env)).any (·.1) = false := by rfl) :
    SE cl X W (.Call (.Name x p) (e :: es) [] pos) (cMkx k ka) := PE.imp (pe_mkx B hsup T hr hg hm ha hdb he hpl) fun σ H Q ⟨ρ, F, s, h⟩ =>
  tM_of s (Fol.bind h fun xs vs ρ1 F1 H1 s1 m1 r1 h1 => by
    obtain ⟨z, e, h3⟩ := Fol.opt h1
    obtain ⟨d, rfl, rfl⟩ := mkX_some e
    cases r1 with
    | @cons _ w _ wt r t =>
      cases t
      refine ⟨w, rfl, fun a dx na nd ne => ?_⟩
      have n1 : New F1 H1 (upd F1 dx (.xd [("value", w)])) (upd H1 dx (.xd [("value", w)])) := New.at_ s1.ext nd
      have n2 : New (upd F1 dx (.xd [("value", w)])) (upd H1 dx (.xd [("value", w)])) (upd (upd F1 dx (.xd [("value", w)])) a (exv a (cl k) dx)) (upd (upd H1 dx (.xd [("value", w)])) a (exv a (cl k) dx)) := New.at_ n1.ext (by rw [upd_ne (Ne.symm ne)]; exact na)
      have n := n1.trans n2
      exact h3 _ _ _ (s1.new n) (Go.new n) (.exc upd_same (by rw [upd_ne ne, upd_same]) (Rep.mono n.mono _ _ r)))
/-- raise X(e) -/
def cRaise (k : Str) (ka : M (List D)) : MS := liftS ka fun xs r => match xs with
  | [d] => .exc k d r
  | _ => .stuck
theorem ss_raise (tk : Takes X W) (hc : X.calm = true) (B : IniB X.prog X.K f D0 fd) (hsup : X.mg "super" = none) (T : ExC X.K f D0 (cl k)) (hr : Room (j + 2) X.A) (hg : Gl X x) (hm : X.mg x = some (.ref (cl k))) (ha : SL cl X W (e :: es) ka)
    (hdb : (x == ("__debug__" : Str)) = false := by decide) (he : starEach (e :: es) X.env = (false, eval e X.env) :: starEach es X.env := by rfl) (hpl : (backTo pos (starEach es X.env)).any (·.1) = false := by rfl) :
    SS cl X W (.Raise (some (.Call (.Name x p) (e :: es) [] pos)) none pos') (cRaise k ka) :=
  PS.imp (ps_raise hc tk (pmk_oex (CX := L2.CX X.prog X.w) (dvs := []) (ds := []) T.o T.ini B.fn (ini_ok (k := j) B hsup) hr (ini_binds B) .nil passL hg hm ha hdb he hpl)) fun D σ H ⟨ρ, F, s, h⟩ =>
  tM_of s (FolS.lift h fun xs vs ρ1 F1 H1 s1 m1 r1 h1 => by
    cases xs with
    | nil => exact h1.elim
    | cons d t =>
      cases t with
      | cons _ _ => exact h1.elim
      | nil =>
        cases r1 with
        | @cons _ w _ wt r t =>
          cases t
          refine ⟨by simp, fun a na => ⟨a, cl k, w, rfl, T, upd_same, fun dx nd ne => ⟨rfl, dx, [("value", w)], upd_same, by rw [upd_ne ne, upd_same], by rw [upd_ne ne] at nd; exact nd, ?_⟩⟩⟩
          rw [upd_ne ne] at nd
          have n1 : New F1 H1 (upd F1 dx (.xd [("value", w)])) (upd H1 dx (.xd [("value", w)])) := New.at_ s1.ext nd
          refine (?_ : ∀ {H2 : Hp}, H2 = upd H1 dx (.xd [("value", w)]) → W (.ref (cl k)) (some dx) σ H2) ?_
          · intro H2 e
            rw [e]
            exact h1 σ _ _ dx _ (s1.new n1) (Go.new n1) upd_same (Rep.mono n1.mono _ _ r)
          · funext b
            by_cases hb : b = dx
            · rw [hb, upd_same, upd_same]
            · rw [upd_ne hb, upd_ne hb]
              by_cases hb2 : b = a
              · rw [hb2, del_same, na]
              · rw [del_ne hb2, upd_ne hb2, upd_ne hb, upd_ne hb2])
/-- e.value -/
def valOf (ks : List Str) : D → Option D
  | .exc k d => if ks.contains k = true then some d else none
  | _ => none
theorem se_value {ks : List Str} (T : ∀ k, k ∈ ks → ExC X.K f D0 (cl k)) (h : SE cl X W e c) (hb : attributeBase e "value" X.env (eval e X.env) = eval e X.env := by rfl) : SE cl X W (.Attribute e "value" pos) (c.bind fun d => M.opt (valOf ks d)) := by
  refine ⟨fun pins s σ H Q I ⟨ρ, F, s0, z⟩ => ?_⟩
  have z2 : tM cl (AE cl) W c σ H fun v H1 => ∃ (a C dx : Addr) (w : V), v = .ref a ∧ ExC X.K f D0 C ∧ H1 a = some (exv a C dx) ∧ H1 dx = some (.xd [("value", w)]) ∧ Q w H1 := tM_of s0 (Fol.bind z fun d v ρ1 F1 H1 s1 m1 r1 h1 => by
    obtain ⟨z, e, h3⟩ := Fol.opt h1
    cases r1 with
    | @exc a dx k y w q1 q2 q3 =>
      unfold valOf at e
      dsimp only at e
      split at e
      · rename_i hk
        cases e
        exact ⟨a, _, dx, w, rfl, T k (List.contains_iff_mem.mp hk), (s1.ext _ _ q1).one (fun z => z), (s1.ext _ _ q2).one (fun z => z), h3 w F1 H1 s1 Go.refl q3⟩
      · cases e
    | _ => cases e)
  refine attr_of hb (thn (h.run pins s σ H _ I z2) fun u s1 hh => ?_)
  obtain ⟨v, H1, I1, rx, a, C, dx, w, ev, T, ea, ed, q⟩ := hh
  subst ev
  obtain rfl : u = Value.ref a := rx
  obtain ⟨o, vs, e1, e2, e3, e4⟩ := exv_at I1.hok ea
  have hx : ObjOk X.prog X.w H1 s1.heap dx (.xd [("value", w)]) := I1.hok dx _ ed
  obtain ⟨mA, hns, hr⟩ := hx
  obtain ⟨od, ho, hl⟩ := lookIn_ns hns
  obtain ⟨u, hu, ru⟩ := RelO.some_of (v := w) (o := mA "value") (by have z := hr "value"; simpa using z)
  have J : PySem.W.InstAt s1.heap a o C (some od) := ⟨e1, e2, by unfold PySem.W.notCls; rw [e4] <;> rfl, by rw [e3]; exact ho⟩
  obtain ⟨gx, hgx⟩ := T.gt
  exact HandSPX.exc_get I1.kIn J T.ga hgx T.be (PySem.W.findObj_own T.hd T.noval rfl (by rw [hl, hu])) (handed_of ru) ⟨w, H1, I1.tok _, ru, q⟩
end
end PyD
end
section
set_option linter.all false
set_option maxRecDepth 100000
set_option maxHeartbeats 4000000
namespace PyD
open PySem L2 PySem.Spec PyProof.Rows

/-! ### try: .. except X as n: y = n -/
section
variable {X : Cx} {pins : List (Addr × Obj)} {σ : L2.St} {H : Hp} {s : Shared}
/-- an exception that was caught is tracked -/
theorem track {a C d : Addr} {oe : Obj} {vs : Array Value} (I : Inv X ((a, oe) :: pins) σ H s) (na : H a = none) (n0 : X.s_0.heap.get? a = none) (np : ∀ p ∈ X.pn ++ pins, p.1 ≠ a) (e2 : oe.cls = .ref C) (e3 : oe.dict = some d) (e4 : oe.data = .fields vs) :
    Inv X pins σ (upd H a (exv a C d)) s := by
  obtain ⟨ga, _, nl, _, _⟩ := I.pin (a, oe) (List.mem_append_right _ List.mem_cons_self)
  have ne : ∀ {b : Addr} {o : HO}, H b = some o → b ≠ a := fun {b o} q z => by
    rw [z, na] at q
    cases q
  refine ⟨I.ok, I.os, I.bare, ⟨I.base.keep, I.base.slot, fun b o q n hx => ?_, I.base.there, fun b xs q => ?_, fun b o u q => ?_, fun b ps q => ?_⟩, I.loc, I.cell, ?_, fun y c q => ?_, fun p hp => ?_, fun b o q => ?_, I.len⟩
  · rw [upd_ne fun z => by rw [z, n0] at q; cases q]
    exact I.base.free b o q n hx
  · have z := I.base.tups b xs q
    rw [upd_ne (ne z)]
    exact z
  · have z := I.base.frzs b o u q
    rw [upd_ne (ne z)]
    exact z
  · obtain ⟨m, z⟩ := I.base.tbls b ps q
    exact ⟨m, by rw [upd_ne (ne z)]; exact z⟩
  · rw [upd_ne fun z => nl z.symm]
    exact I.free
  · obtain ⟨v, o, ho, hd⟩ := I.cell y c q
    rw [upd_ne fun z => by
      rw [z, ga] at ho
      cases ho
      have e4' : oe.data = .fields vs := e4
      rw [e4'] at hd
      cases hd]
    exact I.freeC y c q
  · obtain ⟨q1, q2, q3⟩ := I.pin p (by
      rcases List.mem_append.mp hp with h | h
      · exact List.mem_append_left _ h
      · exact List.mem_append_right _ (List.mem_cons_of_mem _ h))
    exact ⟨q1, by rw [upd_ne (np p hp)]; exact q2, q3⟩
  · by_cases hb : b = a
    · subst hb
      rw [upd_same] at q
      cases q
      exact exv_ok ga e2 e3 e4
    · rw [upd_ne hb] at q
      exact (I.hok b o q).stay (fun _ _ _ z => z) (fun c z => by rw [upd_ne (ne z)]; exact z) fun c xs z => by rw [upd_ne (ne z)]; exact z
/-- behind the suite, its exception's object still known -/
theorem unsuite1 {a : Addr} {oe : Obj} {pn' : List (Addr × Obj)} (ok : X.Ok) (I : Inv (X.suite a ((a, oe) :: (X.pn ++ pins))) pn' σ H s) : Inv X ((a, oe) :: pins) σ H s :=
  ⟨ok, I.os, I.bare, I.base, I.loc, I.cell, I.free, I.freeC, fun p hp => I.pin p (by
    refine List.mem_append_left _ ?_
    rcases List.mem_append.mp hp with h | h
    · exact List.mem_cons_of_mem _ (List.mem_append_left _ h)
    · rcases List.mem_cons.mp h with e | h
      · rw [e]
        exact List.mem_cons_self
      · exact List.mem_cons_of_mem _ (List.mem_append_right _ h)), I.hok, I.len⟩
end

/-- what the clause wishes: the slots i of n, j of y -/
def wTr (K : PySem.W.Frag) (cv : Value) (i j : Nat) (Wo : WX) (D : Ends) : WX := fun cls d σ H =>
  ∃ b, PySem.W.exmOne K cls cv = some b ∧ (b = true → ∃ C dx, cls = .ref C ∧ d = some dx ∧ ∀ a, H a = none → D.nx (((σ.set i (some (.ref a))).set j (some (.ref a))).set i none) (upd H a (exv a C dx))) ∧ (b = false → Wo cls d σ H)
section
variable {X : Cx} {x n y : Str} {cv : Value} {i j : Nat} {body : List Stmt} {p1 p2 p3 p4 pos pos' : Pos} {tb : WX → TS} {Wo : WX}
theorem ps_tryKeep (hs : X.stack = X.env :: X.outer) (hf : X.env.frame = some X.env.locals) (hex : X.ex = []) (hN : X.N.Nodup) (hi : X.N[i]? = some n) (hln : X.env.kindOf n = some .local) (hj : X.N[j]? = some y) (hly : X.env.kindOf y = some .local) (hc : Names X x cv) (tk : Takes X Wo)
    (hb : ∀ (W : WX) (pn : List (Addr × Obj)) (xe : Value → Shared → Prop), Takes (X.tr pn xe) W → PassesOwn (model X.prog X.w) X.A X.env xe → PSs (X.tr pn xe) body (tb W)) (hd1 : (n == ("__debug__" : Str)) = false := by decide) (hd2 : (n == ("__classdict__" : Str)) = false := by decide) :
    PS X (.Try body [.ExceptHandler (some (.Name x p1)) (some n) [.Assign [.Name y p2] (.Name n p3) p4] pos'] [] [] pos) (fun D σ H => tb (wTr X.K cv i j Wo D) D σ H) := by
  refine ⟨fun pins s σ H D I h => ?_⟩
  have ok := I.ok
  have frames : X.A.frames = some (X.env :: X.outer) := by rw [ok.frames, hs]
  refine wpAny_Try_except ?_
  refine wpAny_mono ((hb (wTr X.K cv i j Wo D) (X.pn ++ pins) (fun e s₁ => wpAny (model X.prog X.w) X.A (noteFrame e X.env) (fun _ s₂ => wpAny (model X.prog X.w) X.A (setFlight e none) (fun _ s₃ =>
    wpAny (model X.prog X.w) X.A (handleBy e X.env [.ExceptHandler (some (.Name x p1)) (some n) [.Assign [.Name y p2] (.Name n p3) p4] pos']) (L2.SP X pins D) X.xe s₃) X.xe s₂) X.xe s₁) (fun u s' xx => ?_) PassesOwn.looking).run [] s σ H D (I.toTry _) h) (fun fl s1 q => ?_) (fun e s1 he => he)
  · obtain ⟨a, B, sI, pins', σ', H', cls, d, rfl, J', nb, up, sky, na, os, ag, b, hb1, hyes, hno⟩ := xx
    have J : Inv X pins σ' H' sI := J'.ofTry ok
    show wpAny (model X.prog X.w) X.A (noteFrame (.ref a) X.env) _ _ _
    refine Sky.land Zc.steady frames hf (show Sky B (X.env :: X.outer) a (Zc cls d) X.env.locals s'.heap by rw [← hs]; exact sky) fun h3 fl3 up3 => ?_
    have J3 : Inv X pins σ' H' { s' with heap := h3 } := J.landed nb fl3.1 (up.trans up3) os ag
    obtain ⟨oe3, vs3, he3, hz3, hd3⟩ := fl3.there
    have nfr : a ∉ frs (X.env :: X.outer) := fun hm => by
      obtain ⟨_, o', e', z⟩ := fl3.2.2.1.mem hm
      rw [he3] at e'
      cases e'
      exact z _ hd3
    have nL : a ≠ X.env.locals := fun z => nfr (List.mem_filterMap.mpr ⟨X.env, List.mem_cons_self, by rw [hf, z]⟩)
    have nF : a ∉ X.fs := fun hm => by
      obtain ⟨e, he, z⟩ := List.mem_filterMap.mp hm
      exact nfr (List.mem_filterMap.mpr ⟨e, List.mem_cons_of_mem _ he, z⟩)
    -- the object is new
    have nI : sI.heap.get? a = none := by
      cases z : sI.heap.get? a with
      | none => rfl
      | some o =>
        have y := nb a o z (by rw [hs]; exact nfr)
        rw [fl3.2.1] at y
        cases y
    have n0 : X.s_0.heap.get? a = none := by
      cases z : X.s_0.heap.get? a with
      | none => rfl
      | some o =>
        obtain ⟨o', y⟩ := J.base.there a o z (by rw [hex]; simp)
        rw [nI] at y
        cases y
    have np : ∀ p ∈ X.pn ++ pins, p.1 ≠ a := fun p hp z => by
      have y := (J.pin p hp).1
      rw [z, nI] at y
      cases y
    have S3 := J3.suite he3 hd3 na nL nF
    refine wpAny_handleBy_cons (codeAny_handlers_test ?_) (by intro q; cases q)
    have LT : PySem.W.Looks (model X.prog X.w) h3 (typeOf (.ref a)) cls := fun A Q E s k q => wpAny_typeOf_ref (k _ _ he3) (by rw [hz3.1]; exact q)
    have LM := PySem.W.exm_one (M := model X.prog X.w) (J3.kIn) LT hb1
    have test : ∀ {Q : Value → Shared → Prop} {E : Value → Shared → Prop}, Q cv { s' with heap := h3 } → wpAny (model X.prog X.w) (X.A.mark (some (.ref a))) (eval (.Name x p1) X.env) Q E { s' with heap := h3 } := fun {Q E} q => by
      obtain ⟨hg, hdbg, hm | ⟨hm, hv, hnn⟩⟩ := hc
      · exact ld_glob (X := X.suite a ((a, oe3) :: (X.pn ++ pins))) S3 hg hm q hdbg
      · exact ld_blt (X := X.suite a ((a, oe3) :: (X.pn ++ pins))) S3 hg hm hv q hnn hdbg
    refine test (LM.here ?_)
    cases b with
    | true =>
      obtain ⟨C, dx, rfl, rfl, hq⟩ := hyes rfl
      refine codeAny_handlers_suite_as ?_
      refine HandSPX.lands_againZ fl3 fun h4 fl4 up4 => ?_
      have J4 : Inv X pins σ' H' { s' with heap := h4 } := J.landed nb fl4.1 ((up.trans up3).trans up4) os ag
      obtain ⟨oe4, vs4, he4, hz4, hd4⟩ := fl4.there
      have S4 := J4.suite he4 hd4 na nL nF
      refine store_ok (X := X.suite a ((a, oe4) :: (X.pn ++ pins))) (v := .ref a) S4 hN hi (.inl hln) rfl (fun s5 S5 => ?_) (.inr hln)
      have hps : PSs (X.suite a ((a, oe4) :: (X.pn ++ pins))) [.Assign [.Name y p2] (.Name n p3) p4] (tAsg (tVar i) (gName j)) :=
        pss_one (ps_set (X := X.suite a ((a, oe4) :: (X.pn ++ pins))) hN hj (.inl hly) (pe_var (X := X.suite a ((a, oe4) :: (X.pn ++ pins))) hi (.inl hln) hd1 hd2) rfl (.inr hly))
      have hi' : (σ'.set i (some (V.ref a)))[i]? = some (some (V.ref a)) := by
        refine List.getElem?_set_self ?_
        rw [J.len]
        exact (List.getElem?_eq_some_iff.mp hi).1
      refine wpAny_mono (hps.run [] s5 _ H' { nx := fun σ6 H6 => σ6 = (σ'.set i (some (.ref a))).set j (some (.ref a)) ∧ H6 = H', rt := fun _ _ => False } S5 ⟨.ref a, hi', rfl, rfl⟩) (fun fl s6 hsp => ?_) (fun _ _ z => False.elim z)
      cases fl with
      | next =>
        obtain ⟨σ6, H6, S6, e1, e2⟩ := hsp
        subst e1 e2
        refine gone_ok (unsuite1 ok S6) hN hi hln fun s7 J7 => ?_
        refine ⟨_, _, track (C := C) (d := dx) J7 na n0 np hz4.1 hz4.2 hd4, hq a na⟩
      | ret u =>
        obtain ⟨_, _, _, _, _, q⟩ := hsp
        exact q.elim
      | brk =>
        obtain ⟨_, _, _, q⟩ := hsp
        exact False.elim q
      | cont =>
        obtain ⟨_, _, _, q⟩ := hsp
        exact False.elim q
    | false =>
      show wpAny _ X.A (handleBy (.ref a) X.env []) _ _ _
      refine wpAny_handleBy_nil ?_
      obtain ⟨k1, k2, k3, oe, vs, T, oT, ts', he, hz, hd, h1, hr⟩ := id fl3
      unfold PySem.passOn
      refine wpAny_bind (wpAny_field he hd h1 ?_)
      rw [if_neg (show ¬ ((Value.ref T == Value.none) = true) from by simp)]
      have fin : wpAny (model X.prog X.w) X.A (setFlight (.ref a) X.env.frame) (fun _ s4 => wpAny (model X.prog X.w) X.A (throw (.ref a) : Sem Flow) (L2.SP X pins D) X.xe s4) X.xe { s' with heap := h3 } := by
        rw [hf]
        refine HandSPX.setFlight_upZ fl3 fun h4 hh4 up4 => wpAny_throw (tk _ _ ?_)
        exact ⟨a, B, sI, pins, σ', H', cls, d, rfl, J, nb, (up.trans up3).trans up4, .inr (.inr (by rw [hs]; exact hh4)), na, os, ag, hno rfl⟩
      first
        | exact wpAny_bind (wpAny_pure (wpAny_bind fin))
        | exact wpAny_bind fin
  · cases fl with
    | next => exact let ⟨σ', H', J', z⟩ := q; wpAny_execs_nil ⟨σ', H', J'.ofTry ok, z⟩
    | brk => exact let ⟨σ', H', J', z⟩ := q; ⟨σ', H', J'.ofTry ok, z⟩
    | cont => exact let ⟨σ', H', J', z⟩ := q; ⟨σ', H', J'.ofTry ok, z⟩
    | ret u => exact let ⟨v, σ', H', J', r, z⟩ := q; ⟨v, σ', H', J'.ofTry ok, r, z⟩
end

/-- a slot is given up -/
theorem St0.unset {cl : Cl} {ρ : Rho} {σ : L2.St} {F H : Hp} {i : Nat} (s : St0 cl ρ σ F H) (hn : ∀ x, ρ[i]? ≠ some (.ow true x)) :
    St0 cl (ρ.set i .un) (σ.set i none) F H ∧ Go ρ σ F H (ρ.set i .un) (σ.set i none) F H := by
  have oth : ∀ (j : Nat) (b : Bool) (x : D), (ρ.set i .un)[j]? = some (.ow b x) → j ≠ i ∧ ρ[j]? = some (.ow b x) := fun j b x h => by
    by_cases z : j = i
    · subst z
      by_cases hi : j < ρ.length
      · rw [List.getElem?_set_self hi] at h
        cases h
      · rw [List.getElem?_eq_none (by rw [List.length_set]; omega)] at h
        cases h
    · rw [List.getElem?_set_ne (Ne.symm z)] at h
      exact ⟨z, h⟩
  refine ⟨⟨s.ext, by rw [List.length_set, List.length_set]; exact s.len, fun j t u h1 h2 => ?_, fun j k b c x y q h1 h2 h3 h4 => ?_⟩, ⟨fun _ _ q => q, fun a u q n => ⟨⟨u, q, fun _ => rfl⟩, fun f => f⟩, fun a ha => ?_, fun j x hj => ?_, fun j x hj => ⟨x, (oth j true x hj).2⟩, by rw [List.length_set], fun _ o h => ⟨o, h⟩⟩⟩
  · by_cases z : j = i
    · subst z
      by_cases hi : j < ρ.length
      · rw [List.getElem?_set_self hi] at h1
        cases h1
        trivial
      · rw [List.getElem?_eq_none (by rw [List.length_set]; omega)] at h1
        cases h1
    · rw [List.getElem?_set_ne (Ne.symm z)] at h1 h2
      exact s.sl j t u h1 h2
  · obtain ⟨nj, g1⟩ := oth j b x h1
    obtain ⟨nk, g2⟩ := oth k c y h2
    rw [List.getElem?_set_ne (Ne.symm nj)] at h3
    rw [List.getElem?_set_ne (Ne.symm nk)] at h4
    exact s.ds j k b c x y q g1 g2 h3 h4
  · obtain ⟨j, b, x, h1, h2⟩ := ha
    obtain ⟨nj, g1⟩ := oth j b x h1
    rw [List.getElem?_set_ne (Ne.symm nj)] at h2
    exact .inl ⟨j, b, x, g1, h2⟩
  · have nj : j ≠ i := fun z => hn x (z ▸ hj)
    exact ⟨List.getElem?_set_ne (Ne.symm nj), x, by rw [List.getElem?_set_ne (Ne.symm nj)]; exact hj⟩
def cTry (tab : Str → Option Bool) (i j : Nat) (c : MS) : MS := fun r => match c r with
  | .exc k d r' => (match tab k with
    | some true => if free i r' = true ∧ free j r' = true ∧ j ≠ i then .nx (((r'.set i (.im (.exc k d))).set j (.im (.exc k d))).set i .un) else .stuck
    | some false => .exc k d r'
    | none => .stuck)
  | x => x
theorem free_set {i j : Nat} {r : Rho} {d : D} (h : free j r = true) : free j (r.set i (.im d)) = true := by
  unfold free at h ⊢
  by_cases z : j = i
  · subst z
    by_cases hi : j < r.length
    · rw [List.getElem?_set_self hi]
    · rw [List.getElem?_eq_none (by omega)] at h
      cases h
  · rw [List.getElem?_set_ne (Ne.symm z)]
    exact h
section
variable {cl : Cl} {X : Cx} {x n y : Str} {cv : Value} {i j : Nat} {body : List Stmt} {p1 p2 p3 p4 pos pos' : Pos} {Wo : WX} {c : MS} {tab : Str → Option Bool}
theorem ss_tryKeep (ht : ∀ k b, tab k = some b → PySem.W.exmOne X.K (.ref (cl k)) cv = some b) (hs : X.stack = X.env :: X.outer) (hf : X.env.frame = some X.env.locals) (hex : X.ex = []) (hN : X.N.Nodup) (hi : X.N[i]? = some n) (hln : X.env.kindOf n = some .local) (hj : X.N[j]? = some y) (hly : X.env.kindOf y = some .local) (hc : Names X x cv) (tk : Takes X Wo)
    (hb : ∀ (W : WX) (pn : List (Addr × Obj)) (xe : Value → Shared → Prop), Takes (X.tr pn xe) W → PassesOwn (model X.prog X.w) X.A X.env xe → SSs cl (X.tr pn xe) W body c) (hd1 : (n == ("__debug__" : Str)) = false := by decide) (hd2 : (n == ("__classdict__" : Str)) = false := by decide) :
    SS cl X Wo (.Try body [.ExceptHandler (some (.Name x p1)) (some n) [.Assign [.Name y p2] (.Name n p3) p4] pos'] [] [] pos) (cTry tab i j c) := PS.imp (ps_tryKeep (tb := fun W => tS cl W c) hs hf hex hN hi hln hj hly hc tk hb hd1 hd2) fun D σ H ⟨ρ, F, s, f⟩ => by
  refine tS_of s ?_
  unfold cTry at f
  cases q : c ρ with
  | nx r => rw [q] at f; exact f
  | rt d r => rw [q] at f; exact f
  | bk r => rw [q] at f; exact f
  | ro d r => rw [q] at f; exact f
  | ct r => rw [q] at f; exact f
  | stuck => rw [q] at f; exact f
  | exc k d r =>
    rw [q] at f
    dsimp only at f
    intro σ' F' H' dx v s' g ex rv
    cases q2 : tab k with
    | none => rw [q2] at f; exact f.elim
    | some b =>
      refine ⟨b, ht k b q2, fun hb => ?_, fun hb => ?_⟩
      · subst hb
        rw [q2] at f
        dsimp only at f
        split at f
        · rename_i hfr
          obtain ⟨fi, fj, ne⟩ := hfr
          refine ⟨cl k, dx, rfl, rfl, fun a na => ?_⟩
          have n1 : New F' H' (upd F' a (exv a (cl k) dx)) (upd H' a (exv a (cl k) dx)) := New.at_ s'.ext na
          have s1 := s'.new n1
          have re : Rep cl (upd F' a (exv a (cl k) dx)) (.exc k d) (.ref a) := .exc upd_same (n1.mono _ _ ex) (Rep.mono n1.mono _ _ rv)
          obtain ⟨s2, g2⟩ := s1.store (free_ok fi) re
          obtain ⟨s3, g3⟩ := s2.store (free_ok (free_set (d := .exc k d) fj)) re
          have fi3 : free i ((r.set i (.im (.exc k d))).set j (.im (.exc k d))) = true := free_set (free_set fi)
          obtain ⟨s4, g4⟩ := s3.unset (free_ok fi3)
          exact f _ _ _ s4 ((((g.trans (Go.new n1)).trans g2).trans g3).trans g4)
        · exact f.elim
      · subst hb
        rw [q2] at f
        exact f σ' F' H' dx v s' g ex rv
end
end PyD
end
section
set_option linter.all false
set_option maxRecDepth 100000
set_option maxHeartbeats 4000000
namespace PyD
open PySem L2 PySem.Spec PyProof.Rows

/-! ### isinstance -/
/-- kinds of values -/
inductive Kd where
  | non | bl | int | str | tup | lst | dic | ins (c : Str) | exc (c : Str)
  deriving DecidableEq
def kd : D → Kd
  | .non => .non
  | .bl _ => .bl
  | .int _ => .int
  | .str _ => .str
  | .tup _ => .tup
  | .lst _ => .lst
  | .scr _ => .lst
  | .dk _ => .dic
  | .dt _ => .dic
  | .ins c _ => .ins c
  | .exc c _ => .exc c
def kdV (cl : Cl) : Kd → Value
  | .non => .type "NoneType"
  | .bl => .type "bool"
  | .int => .type "int"
  | .str => .type "str"
  | .tup => .type "tuple"
  | .lst => .type "list"
  | .dic => .type "dict"
  | .ins c => .ref (cl c)
  | .exc c => .ref (cl c)
/-- what isinstance asks of an own class -/
structure InsI (K : PySem.W.Frag) (C : Addr) : Prop where
  cls : Cls K C
  ha : PySem.W.findIn K (.ref C) "__class__" = some (some (.builtin "object.__class__"))
  hn : PySem.W.specialIn K (.builtin "object.__class__") "__get__" = some (some (.builtin "getset_descriptor.__get__"))
  htk : PySem.W.takesIn K (.builtin "object.__class__") = some true
  hm : PySem.W.mroIn K C (.type "object") = some true
structure ExcI (K : PySem.W.Frag) (C : Addr) : Prop where
  hcl : (PySem.W.clsIn K C).isSome = true
  ga : PySem.W.findIn K (.ref C) "__getattribute__" = some (some (.builtin "BaseException.__getattribute__"))
  gt : ∃ x, PySem.W.findIn K (.ref C) "__getattr__" = some x
  be : PySem.W.subIn K (.ref C) (.type "BaseException") = some true
  ha : PySem.W.findIn K (.ref C) "__class__" = some (some (.builtin "object.__class__"))
  hn : PySem.W.specialIn K (.builtin "object.__class__") "__get__" = some (some (.builtin "getset_descriptor.__get__"))
  htk : PySem.W.takesIn K (.builtin "object.__class__") = some true
  hm : PySem.W.mroIn K C (.type "object") = some true
theorem ExC.isi {K : PySem.W.Frag} {f D C : Addr} (T : ExC K f D C) : ExcI K C := ⟨T.hcl, T.ga, T.gt, T.be, T.ha, T.hn, T.htk, T.hm⟩
def KdOk (K : PySem.W.Frag) (cl : Cl) : Kd → Prop
  | .ins c => InsI K (cl c)
  | .exc c => ExcI K (cl c)
  | _ => True
inductive TyD (K : PySem.W.Frag) (H : Hp) : V → Value → Prop where
  | base {x : V} {t : Value} (h : TyX K H x t) : TyD K H x t
  | fT {a : Addr} {o : Obj} {kvs : List (List Key × V)} (h : H a = some (.frz o (.dT kvs))) : TyD K H (.ref a) (.type "dict")
  | exc {a C d : Addr} {fs : List (Str × V)} (h : H a = some (exv a C d)) (h2 : H d = some (.xd fs)) (e : ExcI K C) : TyD K H (.ref a) (.ref C)
def rIsD (K : PySem.W.Frag) : List V → Hp → VK → Prop := fun xs H Q => ∃ (x c : V) (t u : Value) (b : Bool), xs = [x, c] ∧ ClsV c u ∧ TyD K H x t ∧ PySem.W.kitOne K t u = some b ∧ Q (.bl b) H
theorem call_isD {X : Cx} : CallR X (.builtin "isinstance") (rIsD X.K) := by
  intro pins s σ H xs us Q I r h
  obtain ⟨x, c, t, u, b, rfl, k, ty, e, q⟩ := h
  obtain ⟨u1, u2, rfl, r1, r2⟩ := vals2 r
  have e2 := k.eq r2
  subst e2
  cases ty with
  | base ty =>
    obtain ⟨P, Z, p, hx⟩ := kit_of I r1 ty
    exact PySem.W.kia_one Z I.kIn p e hx fun tk => ⟨.bl b, H, I.tok tk, rfl, q⟩
  | @fT a ob kvs h1 =>
    cases (show u1 = Value.ref a from r1)
    obtain ⟨_, _, _, xs, _, o, es, ep, h3, h4, _⟩ := (show ObjOk X.prog X.w H s.heap a (.frz ob (.dT kvs)) from I.hok a _ h1)
    exact PySem.W.kia_one PySem.W.kitx_dict I.kIn ⟨o, h3, h4.1⟩ e (fun z => nomatch z) fun tk => ⟨.bl b, H, I.tok tk, rfl, q⟩
  | @exc a C d fs h1 h2 E =>
    cases (show u1 = Value.ref a from r1)
    obtain ⟨o, vs, e1, e2, e3, e4⟩ := exv_at I.hok h1
    obtain ⟨mA, ⟨od, _, _, ho, _⟩, _⟩ := (show ObjOk X.prog X.w H s.heap d (.xd fs) from I.hok d _ h2)
    obtain ⟨gx, hgx⟩ := E.gt
    have J : PySem.W.InstAt s.heap a o C (some od) := ⟨e1, e2, by unfold PySem.W.notCls; rw [e4] <;> rfl, by rw [e3]; exact ho⟩
    exact PySem.W.kia_one (PySem.W.kitx_exc E.hcl E.ga hgx E.be E.ha E.hn E.htk E.hm) I.kIn J e (fun z => nomatch z) fun tk => ⟨.bl b, H, I.tok tk, rfl, q⟩
theorem tyd_of {cl : Cl} {K : PySem.W.Frag} {F H : Hp} {d : D} {v : V} (e : Ext F H) (r : Rep cl F d v) (k : KdOk K cl (kd d)) : TyD K H v (kdV cl (kd d)) := by
  cases r with
  | non => exact .base (.base .non)
  | bl => exact .base (.base (.bl _))
  | int => exact .base (.base (.int _))
  | str => exact .base (.base (.str _))
  | tup h _ => exact .base (.base (.tup ((e _ _ h).one fun z => z)))
  | lst h _ => exact .base (.base (.lst ((e _ _ h).one fun z => z)))
  | scr h _ => exact .base (.base (.frz ((e _ _ h).one fun z => z)))
  | dk h _ _ =>
    rcases e _ _ h with z | ⟨_, ob, z⟩
    · exact .base (.base (.dK z))
    · exact .base (.fDict z)
  | ins h _ _ =>
    have k : InsI K _ := k
    exact .base (.base (.ins ((e _ _ h).one fun z => z) k.cls k.ha k.hn k.htk k.hm))
  | exc h h2 _ => exact .exc ((e _ _ h).one fun z => z) ((e _ _ h2).one fun z => z) k
  | dt h _ _ =>
    rcases e _ _ h with z | ⟨_, ob, z⟩
    · exact .base (.base (.dT z))
    · exact .fT z
/-- the answers at some kinds -/
def IsiOk (K : PySem.W.Frag) (cl : Cl) (tab : Kd → Option Bool) (u : Value) : Prop := ∀ k b, tab k = some b → PySem.W.kitOne K (kdV cl k) u = some b ∧ KdOk K cl k
def isiD (tab : Kd → Option Bool) (d : D) : Option D := (tab (kd d)).map .bl
section
variable {cl : Cl} {X : Cx} {W : WX} {e ce : Expr} {p pos : Pos} {c : M D} {cv : V} {u : Value} {tab : Kd → Option Bool}
theorem se_isi (ht : IsiOk X.K cl tab u) (hu : ClsV cv u) (hg : Gl X "isinstance") (hm : X.mg "isinstance" = none) (h : SE cl X W e c) (hc : PE X ce (tC cv))
    (he : starEach [e, ce] X.env = [(false, eval e X.env), (false, eval ce X.env)] := by rfl) (he2 : starEach [ce] X.env = [(false, eval ce X.env)] := by rfl) (hpl : (backTo pos (starEach [ce] X.env)).any (·.1) = false := by rfl) :
    SE cl X W (.Call (.Name "isinstance" p) [e, ce] [] pos) (c.bind fun d => M.opt (isiD tab d)) :=
  PE.imp (pe_callB call_isD hg hm (by rfl) (pa_cons h (pa_cons hc pa_nil he2) (by rw [he, he2])) (by decide) (by decide) (by rw [he, he2]) hpl) fun σ H Q ⟨ρ, F, s, f⟩ => tM_of s (Fol.bind f fun d v ρ1 F1 H1 s1 m1 r1 h1 => by
    obtain ⟨z, e, h3⟩ := Fol.opt h1
    obtain ⟨b, e1, rfl⟩ := Option.map_eq_some_iff.mp e
    obtain ⟨k1, k2⟩ := ht _ _ e1
    exact ⟨v, cv, _, u, b, rfl, hu, tyd_of s1.ext r1 k2, k1, h3 _ F1 H1 s1 Go.refl .bl⟩)
end
end PyD
end
section
set_option linter.all false
set_option maxRecDepth 100000
set_option maxHeartbeats 4000000
namespace PyD
open PySem L2 PySem.Spec PyProof.Rows

/-! ### trees as data -/
def keyP : Key → PyData
  | .inl i => .int i
  | .inr x => .str x
mutual
def toPy : D → Option PyData
  | .non => some .none
  | .bl b => some (.bool b)
  | .int i => some (.int i)
  | .str x => some (.str x)
  | .tup xs => (toPyL xs).map .tuple
  | .lst xs => (toPyL xs).map .list
  | .scr xs => (toPyL xs).map .list
  | .dk kvs => (toPyK kvs).map .dict
  | .dt _ => none
  | .ins _ _ => none
  | .exc _ _ => none
def toPyL : List D → Option (List PyData)
  | [] => some []
  | x :: xs => (toPy x).bind fun p => (toPyL xs).bind fun ps => some (p :: ps)
def toPyK : List (Key × D) → Option (List (PyData × PyData))
  | [] => some []
  | (k, x) :: xs => (toPy x).bind fun p => (toPyK xs).bind fun ps => some ((keyP k, p) :: ps)
end
section
variable {cl : Cl} {P : Program} {w : World} {F H : Hp} {h : Heap}
theorem objOf (e : Ext F H) (ok : HOk P w H h) {a : Addr} {o : HO} (q : F a = some o) : ObjOk P w H h a o ∧ H a ≠ none := by
  rcases e a o q with z | ⟨_, ob, z⟩
  · exact ⟨ok a o z, by rw [z]; simp⟩
  · exact ⟨(show h.get? a = some ob ∧ ObjOk P w H h a o from ok a _ z).2, by rw [z]; simp⟩
mutual
theorem reads_of (e : Ext F H) (ok : HOk P w H h) : ∀ (d : D) (v : V) (u : Value) (p : PyData), Rep cl F d v → RelV v u → toPy d = some p → ∃ as, Reads h u p as ∧ ∀ b ∈ as, H b ≠ none
  | .non, v, u, p, r, ru, hp => by
    cases r
    cases (show u = Value.none from ru)
    rw [toPy] at hp
    cases hp
    exact ⟨_, .none, by simp⟩
  | .bl b, v, u, p, r, ru, hp => by
    cases r
    cases (show u = Value.bool b from ru)
    rw [toPy] at hp
    cases hp
    exact ⟨_, .bool b, by simp⟩
  | .int i, v, u, p, r, ru, hp => by
    cases r
    obtain ⟨t, rfl⟩ := (show ∃ t, u = Value.int i t from ru)
    rw [toPy] at hp
    cases hp
    exact ⟨_, .int i t, by simp⟩
  | .str x, v, u, p, r, ru, hp => by
    cases r
    obtain ⟨t, rfl⟩ := (show ∃ t, u = Value.str x t from ru)
    rw [toPy] at hp
    cases hp
    exact ⟨_, .str x t, by simp⟩
  | .tup xs, v, u, p, r, ru, hp => by
    cases r with
    | @tup a _ vs q r =>
      cases (show u = Value.ref a from ru)
      rw [toPy] at hp
      obtain ⟨ps, h1, rfl⟩ := Option.map_eq_some_iff.mp hp
      obtain ⟨⟨_, its, rv, o, g1, g2, n, g3⟩, _⟩ := objOf e ok q
      obtain ⟨as, h2, h3⟩ := reads_all e ok xs vs its ps r rv h1
      exact ⟨as, .tuple g1 g2 g3 (by simpa using h2), h3⟩
  | .lst xs, v, u, p, r, ru, hp => by
    cases r with
    | @lst a _ vs q r =>
      cases (show u = Value.ref a from ru)
      rw [toPy] at hp
      obtain ⟨ps, h1, rfl⟩ := Option.map_eq_some_iff.mp hp
      obtain ⟨⟨_, its, n, rv, g1⟩, hn⟩ := objOf e ok q
      obtain ⟨as, h2, h3⟩ := reads_all e ok xs vs its ps r rv h1
      exact ⟨a :: as, .list g1 rfl rfl (by simpa using h2), fun b hb => by
        rcases List.mem_cons.mp hb with rfl | hb
        · exact hn
        · exact h3 b hb⟩
  | .scr xs, v, u, p, r, ru, hp => by
    cases r with
    | @scr a ob _ vs q r =>
      cases (show u = Value.ref a from ru)
      rw [toPy] at hp
      obtain ⟨ps, h1, rfl⟩ := Option.map_eq_some_iff.mp hp
      obtain ⟨⟨_, _, its, n, rv, g1⟩, hn⟩ := objOf e ok q
      obtain ⟨as, h2, h3⟩ := reads_all e ok xs vs its ps r rv h1
      exact ⟨a :: as, .list g1 rfl rfl (by simpa using h2), fun b hb => by
        rcases List.mem_cons.mp hb with rfl | hb
        · exact hn
        · exact h3 b hb⟩
  | .dk kvs, v, u, p, r, ru, hp => by
    cases r with
    | @dk a _ ks q ek r =>
      cases (show u = Value.ref a from ru)
      rw [toPy] at hp
      obtain ⟨ps, h1, rfl⟩ := Option.map_eq_some_iff.mp hp
      obtain ⟨⟨_, _, vs, kv, dd⟩, hn⟩ := objOf e ok q
      obtain ⟨as, h2, h3⟩ := reads_pairs e ok kvs ks vs ps ek r kv h1
      refine ⟨a :: as, PyProof.V.reads_dictOf (fun k key hk => ?_) dd h2, fun b hb => by
        rcases List.mem_cons.mp hb with rfl | hb
        · exact hn
        · exact h3 b hb⟩
      rcases keyIs_shape hk with ⟨i, t, rfl, rfl⟩ | ⟨x, t, rfl, rfl⟩
      · exact .int i t
      · exact .str x t
  | .dt _, v, u, p, r, ru, hp => by rw [toPy] at hp; cases hp
  | .ins _ _, v, u, p, r, ru, hp => by rw [toPy] at hp; cases hp
  | .exc _ _, v, u, p, r, ru, hp => by rw [toPy] at hp; cases hp
theorem reads_all (e : Ext F H) (ok : HOk P w H h) : ∀ (ds : List D) (vs : List V) (us : List Value) (ps : List PyData), RepL cl F ds vs → Vals vs us → toPyL ds = some ps → ∃ as, ReadsAll h us ps as ∧ ∀ b ∈ as, H b ≠ none
  | [], vs, us, ps, r, ru, hp => by
    cases r
    cases ru
    rw [toPyL] at hp
    cases hp
    exact ⟨_, .nil, by simp⟩
  | d :: ds, vs, us, ps, r, ru, hp => by
    cases r with
    | cons r1 r2 =>
      cases ru with
      | cons u1 u2 =>
        rw [toPyL] at hp
        obtain ⟨p, h1, hp⟩ := Option.bind_eq_some_iff.mp hp
        obtain ⟨qs, h2, hp⟩ := Option.bind_eq_some_iff.mp hp
        cases hp
        obtain ⟨a1, x1, y1⟩ := reads_of e ok d _ _ p r1 u1 h1
        obtain ⟨a2, x2, y2⟩ := reads_all e ok ds _ _ qs r2 u2 h2
        exact ⟨_, .cons x1 x2, fun b hb => (List.mem_append.mp hb).elim (y1 b) (y2 b)⟩
theorem reads_pairs (e : Ext F H) (ok : HOk P w H h) : ∀ (kvs : List (Key × D)) (ks : List (Key × V)) (us : List (Key × Value)) (ps : List (PyData × PyData)), kvs.map (·.1) = ks.map (·.1) → RepL cl F (kvs.map (·.2)) (ks.map (·.2)) → KV ks us → toPyK kvs = some ps → ∃ as, PyProof.V.PairsRead h keyP us ps as ∧ ∀ b ∈ as, H b ≠ none
  | [], ks, us, ps, ek, r, ru, hp => by
    cases ks with
    | cons _ _ => cases ek
    | nil =>
      cases ru
      rw [toPyK] at hp
      cases hp
      exact ⟨_, .nil, by simp⟩
  | (k, d) :: kvs, ks, us, ps, ek, r, ru, hp => by
    cases ks with
    | nil => cases ek
    | cons kv ks =>
      obtain ⟨k', v⟩ := kv
      have ek1 : k = k' := by
        have z := List.cons.inj ek
        exact z.1
      have ek2 : kvs.map (·.1) = ks.map (·.1) := (List.cons.inj ek).2
      subst ek1
      cases r with
      | cons r1 r2 =>
        cases ru with
        | @cons _ q _ qs u1 u2 =>
          obtain ⟨k2, u⟩ := q
          obtain ⟨e2, u1⟩ := u1
          have e2 : k = k2 := e2
          subst e2
          rw [toPyK] at hp
          obtain ⟨p, h1, hp⟩ := Option.bind_eq_some_iff.mp hp
          obtain ⟨qs, h2, hp⟩ := Option.bind_eq_some_iff.mp hp
          cases hp
          obtain ⟨a1, x1, y1⟩ := reads_of e ok d _ _ p r1 u1 h1
          obtain ⟨a2, x2, y2⟩ := reads_pairs e ok kvs ks _ qs ek2 r2 u2 h2
          exact ⟨_, .cons x1 x2, fun b hb => (List.mem_append.mp hb).elim (y1 b) (y2 b)⟩
end
end
/-- repr(e) -/
def reprD (d : D) : Option D := (toPy d).bind fun p => if p.showable = true ∧ p.depth ≤ 60 ∧ p.shown.length ≤ sizeLine then some (.str p.shown) else none
section
variable {cl : Cl} {X : Cx} {W : WX} {e : Expr} {p pos : Pos} {c : M D}
theorem se_repr (gd : Gd X) (hu : X.A.units + 64 < cLine) (hsm : ∃ o, X.K.lookup sysModules = some o) (hg : Gl X "repr") (hm : X.mg "repr" = none) (h : SE cl X W e c) (he : starEach [e] X.env = [(false, eval e X.env)] := by rfl) (hpl : (backTo pos (starEach [] X.env)).any (·.1) = false := by rfl) :
    SE cl X W (.Call (.Name "repr" p) [e] [] pos) (c.bind fun d => M.opt (reprD d)) := by
  refine ⟨fun pins s σ H Q I ⟨ρ, F, s0, z⟩ => ?_⟩
  have z2 : tM cl (AE cl) W c σ H fun v H1 => ∃ (d : D) (F1 : Hp) (q : PyData), Ext F1 H1 ∧ Rep cl F1 d v ∧ toPy d = some q ∧ q.showable = true ∧ q.depth ≤ 60 ∧ q.shown.length ≤ sizeLine ∧ Q (.str q.shown) H1 := tM_of s0 (Fol.bind z fun d v ρ1 F1 H1 s1 m1 r1 h1 => by
    obtain ⟨z, e, h3⟩ := Fol.opt h1
    obtain ⟨q, e1, e2⟩ := Option.bind_eq_some_iff.mp e
    split at e2
    · rename_i hc
      cases e2
      exact ⟨d, F1, q, s1.ext, r1, e1, hc.1, hc.2.1, hc.2.2, h3 _ F1 H1 s1 Go.refl .str⟩
    · cases e2)
  refine wpAny_Call_Name_kw (ld_blt I hg hm (u := .builtin "repr") (by rfl) ?_ (by decide) (by decide))
  refine PyProof.Rows.callWith_builtin1 (thn ((pa_cons h pa_nil he).run pos pins s σ H (fun vs H1 => ∃ v, vs = [v] ∧ ∃ (d : D) (F1 : Hp) (q : PyData), Ext F1 H1 ∧ Rep cl F1 d v ∧ toPy d = some q ∧ q.showable = true ∧ q.depth ≤ 60 ∧ q.shown.length ≤ sizeLine ∧ Q (.str q.shown) H1) I ?_) fun us s1 hh => ?_) he hpl
  · obtain ⟨ρ1, F1, a1, a2⟩ := z2
    refine ⟨ρ1, F1, a1, ?_⟩
    cases qq : c ρ1 with
    | ok d r => 
      rw [qq] at a2
      exact fun v F' H' s' g a => ⟨v, rfl, a2 v F' H' s' g a⟩
    | exc k d r => rw [qq] at a2; exact a2
    | stuck => rw [qq] at a2; exact a2
  · obtain ⟨vs, H1, I1, rv, v, ev, d, F1, q, ex, r1, e1, hs, hd, hz, hq⟩ := hh
    subst ev
    cases rv with
    | @cons _ u _ un ru rn =>
      cases rn
      obtain ⟨as, rd, hn⟩ := reads_of ex I1.hok d v u q r1 ru e1
      have hsys : q.hasDict = true → sysModules ∉ as := fun _ hm => by
        obtain ⟨o, ho⟩ := hsm
        exact hn _ hm (I1.bs _ o (I1.mod.kin _ _ ho)).2
      show wpAny _ _ (call (.builtin "repr") [u]) _ _ _
      cases rd with
      | none => exact PySem.P.repr_of_none ⟨.str "None", H1, I1.tok _, ⟨_, rfl⟩, hq⟩
      | bool b => exact PySem.P.repr_of_bool ⟨.str (if b then "True" else "False"), H1, I1.tok _, ⟨_, rfl⟩, hq⟩
      | int i t => exact PySem.P.repr_of_int (of_decide_eq_true hs) ⟨.str (toString i), H1, I1.tok _, ⟨_, rfl⟩, hq⟩
      | str x t => exact PySem.P.repr_of_str ⟨.str (reprText x), H1, I1.tok _, ⟨_, rfl⟩, hq⟩ hz
      | list a b c dd => exact repr_of_reads' (.list a b c dd) hs hsys gd (by omega) (fun _ _ z => z) (fun h' uu tk k => ⟨.str _, H1, I1.kept k, ⟨_, rfl⟩, hq⟩) hz
      | tuple a b c dd => exact repr_of_reads' (.tuple a b c dd) hs hsys gd (by omega) (fun _ _ z => z) (fun h' uu tk k => ⟨.str _, H1, I1.kept k, ⟨_, rfl⟩, hq⟩) hz
      | dict a b c dd ee => exact repr_of_reads' (.dict a b c dd ee) hs hsys gd (by omega) (fun _ _ z => z) (fun h' uu tk k => ⟨.str _, H1, I1.kept k, ⟨_, rfl⟩, hq⟩) hz
end
end PyD
end
section
set_option linter.all false
set_option maxRecDepth 100000
set_option maxHeartbeats 4000000
namespace PyD
open PySem L2

/-! ### readings joined -/
def rOr (a b : R2) : R2 := fun x y H Q => a x y H Q ∨ b x y H Q
theorem or_op {X : Cx} {f : Value → Value → Sem Value} {a b : R2} (h : OpR X f a) (k : OpR X f b) : OpR X f (rOr a b) := fun pins s σ H x y v u Q I rx ry q => by
  rcases q with q | q
  · exact h pins s σ H x y v u Q I rx ry q
  · exact k pins s σ H x y v u Q I rx ry q

section
variable {cl : Cl} {X : Cx}
/-! ### + -/
def dAdd : D → D → Option D
  | .int i, .int j => some (.int (i + j))
  | .str x, .str y => if x.length + y.length ≤ sizeLine then some (.str (x ++ y)) else none
  | .lst xs, .lst ys => if xs.length + ys.length ≤ sizeLine then some (.lst (xs ++ ys)) else none
  | .tup xs, .tup ys => if xs.length + ys.length ≤ sizeLine then some (.tup (xs ++ ys)) else none
  | _, _ => none
def rAddD (K : PySem.W.Frag) : R2 := rOr (rI0 fun i j => .int (i + j)) (rOr (fun x y H Q => ∃ i j, x = .str i ∧ y = .str j ∧ i.length + j.length ≤ sizeLine ∧ Q (.str (i ++ j)) H) (rOr rCat (rCatA K)))
theorem op_addD : OpR X (binaryOp .Add) (rAddD X.K) := or_op op_add (or_op op_add_str (or_op op_cat op_catA))
theorem RepL.append {F : Hp} {xs ys : List D} {vs ws : List V} (h : RepL cl F xs vs) (k : RepL cl F ys ws) : RepL cl F (xs ++ ys) (vs ++ ws) := by
  induction h with
  | nil => exact k
  | cons r _ ih => exact .cons r ih
theorem RepL.nil_iff {F : Hp} {xs : List D} {vs : List V} (h : RepL cl F xs vs) : xs = [] ↔ vs = [] := by
  cases h <;> simp
theorem od_add {K : PySem.W.Frag} : OpD cl (rAddD K) dAdd := fun F H x y u v z Q e rx ry h q => by
  unfold dAdd at h
  split at h
  · cases rx; cases ry
    cases h
    exact .inl ⟨_, _, rfl, rfl, q _ F H (New.refl e) .int⟩
  · split at h
    · rename_i hz
      cases rx; cases ry
      cases h
      exact .inr (.inl ⟨_, _, rfl, rfl, hz, q _ F H (New.refl e) .str⟩)
    · cases h
  · split at h
    · rename_i hz
      cases rx with
      | @lst a xs vs e1 r1 =>
        obtain ⟨p, ws, rfl, e2, r2⟩ := ry
        cases h
        refine .inr (.inr (.inl ⟨a, p, vs, ws, rfl, rfl, (e _ _ e1).one fun z => z, e2, by rw [← Paired.length r1, ← Paired.length r2]; exact hz, fun l hl => ?_⟩))
        have n : New F H (upd F l (.lst (vs ++ ws))) (upd H l (.lst (vs ++ ws))) := New.at_ e hl
        exact q _ _ _ n (.lst upd_same (RepL.mono n.mono (RepL.append r1 r2)))
    · cases h
  · split at h
    · rename_i hz
      cases rx with
      | @tup a xs vs e1 r1 =>
        have ry : Rep cl F _ v := ry
        cases ry with
        | @tup b ys ws e2 r2 =>
          cases h
          refine .inr (.inr (.inr ⟨a, b, vs, ws, rfl, rfl, sqT_of e e1, sqT_of e e2, by rw [← Paired.length r1, ← Paired.length r2]; exact hz, fun hn => ?_, fun hn hm => ?_, fun hn hm l hl => ?_⟩))
          · have hx := (RepL.nil_iff r1).mpr hn
            rw [hx, List.nil_append] at q
            exact q _ F H (New.refl e) (.tup e2 r2)
          · have hx := (RepL.nil_iff r2).mpr hm
            rw [hx, List.append_nil] at q
            exact q _ F H (New.refl e) (.tup e1 r1)
          · have n : New F H (upd F l (.tup (vs ++ ws))) (upd H l (.tup (vs ++ ws))) := New.at_ e hl
            exact q _ _ _ n (.tup upd_same (RepL.mono n.mono (RepL.append r1 r2)))
    · cases h
  · cases h

/-! ### ints -/
def dSub : D → D → Option D
  | .int i, .int j => some (.int (i - j))
  | _, _ => none
theorem od_sub : OpD cl (rI0 fun i j => .int (i - j)) dSub := fun F H x y u v z Q e rx ry h q => by
  unfold dSub at h
  split at h
  · cases rx; cases ry; cases h
    exact ⟨_, _, rfl, rfl, q _ F H (New.refl e) .int⟩
  · cases h
instance {i j : Int} : Decidable (CMulW i j) := by unfold CMulW; infer_instance
instance {i j : Int} : Decidable (CDivW i j) := by unfold CDivW; infer_instance
def dMul : D → D → Option D
  | .int i, .int j => if CMulW i j then some (.int (i * j)) else none
  | .lst xs, .int k => if -(2 ^ 63) ≤ k ∧ k < 2 ^ 63 ∧ xs.length * k.toNat ≤ sizeLine then some (.lst (List.replicate k.toNat xs).flatten) else none
  | _, _ => none
def rMulD : R2 := rOr (rI CMulW fun i j => .int (i * j)) rRep
theorem op_mulD : OpR X (binaryOp .Mult) rMulD := or_op op_mulW op_rep
theorem RepL.rep {F : Hp} {xs : List D} {vs : List V} (h : RepL cl F xs vs) : ∀ n : Nat, RepL cl F (List.replicate n xs).flatten (List.replicate n vs).flatten
  | 0 => .nil
  | n + 1 => by
    rw [List.replicate_succ, List.replicate_succ, List.flatten_cons, List.flatten_cons]
    exact RepL.append h (RepL.rep h n)
theorem od_mul : OpD cl rMulD dMul := fun F H x y u v z Q e rx ry h q => by
  unfold dMul at h
  split at h
  · split at h
    · rename_i hc
      cases rx; cases ry; cases h
      exact .inl ⟨_, _, rfl, rfl, hc, q _ F H (New.refl e) .int⟩
    · cases h
  · rename_i xs k
    split at h
    · rename_i hc
      cases rx with
      | @lst a _ vs e1 r1 =>
        cases ry
        cases h
        refine .inr ⟨a, k, vs, rfl, rfl, (e _ _ e1).one fun z => z, hc.1, hc.2.1, by rw [← Paired.length r1]; exact hc.2.2, fun l hl => ?_⟩
        have n : New F H (upd F l (.lst (List.replicate k.toNat vs).flatten)) (upd H l (.lst (List.replicate k.toNat vs).flatten)) := New.at_ e hl
        exact q _ _ _ n (.lst upd_same (RepL.mono n.mono (RepL.rep r1 _)))
    · cases h
  · cases h
def dMod : D → D → Option D
  | .int i, .int j => if 0 < j then some (.int (i % j)) else none
  | _, _ => none
theorem od_mod : OpD cl (rI (fun _ j => 0 < j) fun i j => .int (i % j)) dMod := fun F H x y u v z Q e rx ry h q => by
  unfold dMod at h
  split at h
  · split at h
    · rename_i hc
      cases rx; cases ry; cases h
      exact ⟨_, _, rfl, rfl, hc, q _ F H (New.refl e) .int⟩
    · cases h
  · cases h
def dFdv : D → D → Option D
  | .int i, .int j => if CDivW i j then some (.int (i / j)) else none
  | _, _ => none
theorem od_fdv : OpD cl (rI CDivW fun i j => .int (i / j)) dFdv := fun F H x y u v z Q e rx ry h q => by
  unfold dFdv at h
  split at h
  · split at h
    · rename_i hc
      cases rx; cases ry; cases h
      exact ⟨_, _, rfl, rfl, hc, q _ F H (New.refl e) .int⟩
    · cases h
  · cases h
/-- a base of two or more, of at most 60000 bits, a small exponent -/
def CPowW (i j : Int) : Prop := 0 < j ∧ j ≤ 100 ∧ i.natAbs.log2 < 60000 ∧ 2 ≤ i
instance {i j : Int} : Decidable (CPowW i j) := by unfold CPowW; infer_instance
instance {i j : Int} : Decidable (CPow i j) := by unfold CPow; infer_instance
theorem op_powW : OpR X (binaryOp .Pow) (rI CPowW fun i j => .int (i ^ j.toNat)) := opI fun i j t u s Q E hc q => by
  obtain ⟨h1, h2, h3, h4⟩ := hc
  have a1 : ¬(j == 0) = true := by simp; omega
  have a2 : ¬(i == 0 || i == 1) = true := by simp; omega
  have a3 : ¬(i == -1) = true := by simp; omega
  have a4 : ¬Builtin.Int.intTooBig (((Builtin.Int.intBits i : Nat) : Int) * j) = true := by
    have b : Builtin.Int.intBits i ≤ i.natAbs.log2 + 1 := by
      unfold Builtin.Int.intBits
      split <;> omega
    have e : bitsLine = 134217728 := by decide
    unfold Builtin.Int.intTooBig
    rw [e]
    have b2 : ((Builtin.Int.intBits i : Nat) : Int) ≤ 60000 := by omega
    have b3 : ((Builtin.Int.intBits i : Nat) : Int) * j ≤ 60000 * 100 := Int.mul_le_mul b2 h2 (by omega) (by omega)
    simp
    omega
  exact PySem.AutoIntOps.pow_4 (by omega) a1 a2 a3 a4 q
def dPow : D → D → Option D
  | .int i, .int j => if CPow i j ∨ CPowW i j then some (.int (i ^ j.toNat)) else none
  | _, _ => none
def rPowD : R2 := rOr (rI CPow fun i j => .int (i ^ j.toNat)) (rI CPowW fun i j => .int (i ^ j.toNat))
theorem op_powD : OpR X (binaryOp .Pow) rPowD := or_op op_pow op_powW
theorem od_pow : OpD cl rPowD dPow := fun F H x y u v z Q e rx ry h q => by
  unfold dPow at h
  split at h
  · split at h
    · rename_i hc
      cases rx; cases ry; cases h
      rcases hc with hc | hc
      · exact .inl ⟨_, _, rfl, rfl, hc, q _ F H (New.refl e) .int⟩
      · exact .inr ⟨_, _, rfl, rfl, hc, q _ F H (New.refl e) .int⟩
    · cases h
  · cases h

/-! ### comparisons -/
theorem dCmp_od {g : Int → Int → Bool} {f : D → D → Option D} (hf : ∀ x y z, f x y = some z → ∃ i j, x = .int i ∧ y = .int j ∧ z = .bl (g i j)) : OpD cl (rI0 fun i j => .bl (g i j)) f := fun F H x y u v z Q e rx ry h q => by
  obtain ⟨i, j, rfl, rfl, rfl⟩ := hf _ _ _ h
  cases rx; cases ry
  exact ⟨_, _, rfl, rfl, q _ F H (New.refl e) .bl⟩
def dIcmp (g : Int → Int → Bool) : D → D → Option D
  | .int i, .int j => some (.bl (g i j))
  | _, _ => none
theorem dIcmp_some {g : Int → Int → Bool} {x y z : D} (h : dIcmp g x y = some z) : ∃ i j, x = .int i ∧ y = .int j ∧ z = .bl (g i j) := by
  unfold dIcmp at h
  split at h
  · exact ⟨_, _, rfl, rfl, (Option.some.inj h).symm⟩
  · cases h
def dGt := dIcmp fun i j => decide (j < i)
def dGe := dIcmp fun i j => decide (j ≤ i)
def dLe := dIcmp fun i j => decide (i ≤ j)
/-- < of ints, of texts -/
def dLt : D → D → Option D
  | .int i, .int j => some (.bl (decide (i < j)))
  | .str x, .str y => some (.bl (decide (x.cps.toList < y.cps.toList)))
  | _, _ => none
theorem od_gt : OpD cl (rI0 fun i j => .bl (decide (j < i))) dGt := dCmp_od fun _ _ _ h => dIcmp_some h
theorem od_ge : OpD cl (rI0 fun i j => .bl (decide (j ≤ i))) dGe := dCmp_od fun _ _ _ h => dIcmp_some h
theorem od_le : OpD cl (rI0 fun i j => .bl (decide (i ≤ j))) dLe := dCmp_od fun _ _ _ h => dIcmp_some h
def rLtD : R2 := rOr (rI0 fun i j => .bl (decide (i < j))) (fun x y H Q => ∃ i j, x = .str i ∧ y = .str j ∧ Q (.bl (decide (i.cps.toList < j.cps.toList))) H)
theorem op_ltD : OpR X (compareOp .Lt) rLtD := or_op op_lt op_lt_str
theorem od_lt : OpD cl rLtD dLt := fun F H x y u v z Q e rx ry h q => by
  unfold dLt at h
  split at h
  · cases rx; cases ry; cases h
    exact .inl ⟨_, _, rfl, rfl, q _ F H (New.refl e) .bl⟩
  · cases rx; cases ry; cases h
    exact .inr ⟨_, _, rfl, rfl, q _ F H (New.refl e) .bl⟩
  · cases h
theorem reads_at {P : Program} {w : World} {F H : Hp} {h : Heap} (e : Ext F H) (ok : HOk P w H h) {d : D} {v : V} {u : Value} {p : PyData} (a : At cl F H d v) (ru : RelV v u) (hp : toPy d = some p) : ∃ as, Reads h u p as := by
  cases d with
  | lst xs =>
    obtain ⟨q, vs, rfl, hq, r⟩ := a
    cases (show u = Value.ref q from ru)
    rw [toPy] at hp
    obtain ⟨ps, h1, rfl⟩ := Option.map_eq_some_iff.mp hp
    obtain ⟨_, its, n, rv, g1⟩ := (show ObjOk P w H h q (.lst vs) from ok q _ hq)
    obtain ⟨as, h2, _⟩ := reads_all e ok xs vs its ps r rv h1
    exact ⟨_, .list g1 rfl rfl (by simpa using h2)⟩
  | dk kvs =>
    obtain ⟨q, ks, rfl, hq, ek, r⟩ := a
    cases (show u = Value.ref q from ru)
    rw [toPy] at hp
    obtain ⟨ps, h1, rfl⟩ := Option.map_eq_some_iff.mp hp
    have hob : ObjOk P w H h q (.dK ks) := by
      rcases hq with z | ⟨ob, z⟩
      · exact ok q _ z
      · exact (show h.get? q = some ob ∧ ObjOk P w H h q (.dK ks) from ok q _ z).2
    obtain ⟨_, _, vs, kv, dd⟩ := hob
    obtain ⟨as, h2, _⟩ := reads_pairs e ok kvs ks vs ps ek r kv h1
    refine ⟨_, PyProof.V.reads_dictOf (fun k key hk => ?_) dd h2⟩
    rcases keyIs_shape hk with ⟨i, t, rfl, rfl⟩ | ⟨x, t, rfl, rfl⟩
    · exact .int i t
    · exact .str x t
  | dt kvs => rw [toPy] at hp; cases hp
  | ins c fs => rw [toPy] at hp; cases hp
  | non => exact (reads_of e ok _ v u p a ru hp).imp fun _ z => z.1
  | bl b => exact (reads_of e ok _ v u p a ru hp).imp fun _ z => z.1
  | int i => exact (reads_of e ok _ v u p a ru hp).imp fun _ z => z.1
  | str x => exact (reads_of e ok _ v u p a ru hp).imp fun _ z => z.1
  | tup xs => exact (reads_of e ok _ v u p a ru hp).imp fun _ z => z.1
  | exc c x => exact (reads_of e ok _ v u p a ru hp).imp fun _ z => z.1
  | scr xs => exact (reads_of e ok _ v u p a ru hp).imp fun _ z => z.1
/-- == of scalars of one kind, of data -/
def eqD : D → D → Option Bool
  | .int i, .int j => some (decide (i = j))
  | .str x, .str y => some (decide (x = y))
  | .bl x, .bl y => some (decide (x = y))
  | .non, .non => some true
  | x, y => (toPy x).bind fun p => (toPy y).bind fun q => if SeqAt.shaped p = true ∧ SeqAt.shaped q = true then some (PyData.eqv p q) else none
def dEq (x y : D) : Option D := (eqD x y).map .bl
def dNe (x y : D) : Option D := (eqD x y).map fun b => .bl (!b)
def rEqP (cl : Cl) (neg : Bool) : R2 := fun x y H Q => ∃ F d e p q, Ext F H ∧ Rep cl F d x ∧ At cl F H e y ∧ toPy d = some p ∧ toPy e = some q ∧ SeqAt.shaped p = true ∧ SeqAt.shaped q = true ∧ Q (.bl (if neg then !PyData.eqv p q else PyData.eqv p q)) H
theorem op_eqP (hu : X.A.units + 64 < cLine) : OpR X (compareOp .Eq) (rEqP cl false) := by
  intro pins s σ H x y v u Q I rx ry h
  obtain ⟨F, d, e, p, q, ex, r1, r2, e1, e2, s1, s2, hq⟩ := h
  obtain ⟨as, k1, _⟩ := reads_of ex I.hok d x v p r1 rx e1
  obtain ⟨bs, k2⟩ := reads_at ex I.hok r2 ry e2
  exact SeqAt.compareEq_shaped k1 k2 s1 s2 hu ⟨.bl _, H, I, rfl, hq⟩
theorem op_neP (hu : X.A.units + 64 < cLine) : OpR X (compareOp .NotEq) (rEqP cl true) := by
  intro pins s σ H x y v u Q I rx ry h
  obtain ⟨F, d, e, p, q, ex, r1, r2, e1, e2, s1, s2, hq⟩ := h
  obtain ⟨as, k1, _⟩ := reads_of ex I.hok d x v p r1 rx e1
  obtain ⟨bs, k2⟩ := reads_at ex I.hok r2 ry e2
  exact SeqAt.compareNe_shaped k1 k2 s1 s2 hu ⟨.bl _, H, I, rfl, hq⟩
theorem eqD_cases {x y : D} {b : Bool} (h : eqD x y = some b) : ((∃ i j, x = .int i ∧ y = .int j ∧ b = decide (i = j)) ∨ (∃ i j, x = .str i ∧ y = .str j ∧ b = decide (i = j)) ∨ (∃ i j, x = .bl i ∧ y = .bl j ∧ b = decide (i = j)) ∨ (x = .non ∧ y = .non ∧ b = true)) ∨
    ∃ p q, toPy x = some p ∧ toPy y = some q ∧ SeqAt.shaped p = true ∧ SeqAt.shaped q = true ∧ b = PyData.eqv p q := by
  unfold eqD at h
  split at h
  · exact .inl (.inl ⟨_, _, rfl, rfl, (Option.some.inj h).symm⟩)
  · exact .inl (.inr (.inl ⟨_, _, rfl, rfl, (Option.some.inj h).symm⟩))
  · exact .inl (.inr (.inr (.inl ⟨_, _, rfl, rfl, (Option.some.inj h).symm⟩)))
  · exact .inl (.inr (.inr (.inr ⟨rfl, rfl, (Option.some.inj h).symm⟩)))
  · obtain ⟨p, h1, h⟩ := Option.bind_eq_some_iff.mp h
    obtain ⟨q, h2, h⟩ := Option.bind_eq_some_iff.mp h
    split at h
    · rename_i hc
      exact .inr ⟨p, q, h1, h2, hc.1, hc.2, (Option.some.inj h).symm⟩
    · cases h
theorem od_eq : OpD cl (rOr rEq (rEqP cl false)) dEq := fun F H x y u v z Q e rx ry h q => by
  have ex0 := e
  obtain ⟨b, h1, rfl⟩ := Option.map_eq_some_iff.mp h
  rcases eqD_cases h1 with (⟨i, j, rfl, rfl, rfl⟩ | ⟨i, j, rfl, rfl, rfl⟩ | ⟨i, j, rfl, rfl, rfl⟩ | ⟨rfl, rfl, rfl⟩) | ⟨p, q', e1, e2, s1, s2, rfl⟩
  · cases rx; cases ry
    exact .inl ⟨rfl, by have e : decide (V.int i = V.int j) = decide (i = j) := by simp
                        rw [e]; exact q _ F H (New.refl ex0) .bl⟩
  · cases rx; cases ry
    exact .inl ⟨rfl, by have e : decide (V.str i = V.str j) = decide (i = j) := by simp
                        rw [e]; exact q _ F H (New.refl ex0) .bl⟩
  · cases rx; cases ry
    exact .inl ⟨rfl, by have e : decide (V.bl i = V.bl j) = decide (i = j) := by simp
                        rw [e]; exact q _ F H (New.refl ex0) .bl⟩
  · cases rx; cases ry
    exact .inl ⟨rfl, q _ F H (New.refl e) .bl⟩
  · exact .inr ⟨F, x, y, p, q', e, rx, ry, e1, e2, s1, s2, q _ F H (New.refl e) .bl⟩
theorem od_ne : OpD cl (rOr rNe (rEqP cl true)) dNe := fun F H x y u v z Q e rx ry h q => by
  have ex0 := e
  obtain ⟨b, h1, rfl⟩ := Option.map_eq_some_iff.mp h
  rcases eqD_cases h1 with (⟨i, j, rfl, rfl, rfl⟩ | ⟨i, j, rfl, rfl, rfl⟩ | ⟨i, j, rfl, rfl, rfl⟩ | ⟨rfl, rfl, rfl⟩) | ⟨p, q', e1, e2, s1, s2, rfl⟩
  · cases rx; cases ry
    exact .inl ⟨rfl, by have e : decide (V.int i = V.int j) = decide (i = j) := by simp
                        rw [e]; exact q _ F H (New.refl ex0) .bl⟩
  · cases rx; cases ry
    exact .inl ⟨rfl, by have e : decide (V.str i = V.str j) = decide (i = j) := by simp
                        rw [e]; exact q _ F H (New.refl ex0) .bl⟩
  · cases rx; cases ry
    exact .inl ⟨rfl, by have e : decide (V.bl i = V.bl j) = decide (i = j) := by simp
                        rw [e]; exact q _ F H (New.refl ex0) .bl⟩
  · cases rx; cases ry
    exact .inl ⟨rfl, q _ F H (New.refl e) .bl⟩
  · exact .inr ⟨F, x, y, p, q', e, rx, ry, e1, e2, s1, s2, q _ F H (New.refl e) .bl⟩
theorem op_eqA (hu : X.A.units + 64 < cLine) : OpR X (compareOp .Eq) (rOr rEq (rEqP cl false)) := or_op op_eq (op_eqP hu)
theorem op_neA (hu : X.A.units + 64 < cLine) : OpR X (compareOp .NotEq) (rOr rNe (rEqP cl true)) := or_op op_ne (op_neP hu)
/-- is None, is not None -/
def dIsN : D → D → Option D
  | x, .non => some (.bl (match x with | .non => true | _ => false))
  | _, _ => none
def dNotN : D → D → Option D
  | x, .non => some (.bl (match x with | .non => false | _ => true))
  | _, _ => none
theorem od_isN : OpD cl (fun x y H Q => y = .non ∧ Q (.bl (decide (x = .non))) H) dIsN := fun F H x y u v z Q e rx ry h q => by
  unfold dIsN at h
  split at h
  · cases ry
    cases h
    refine ⟨rfl, ?_⟩
    cases rx <;> exact q _ F H (New.refl e) .bl
  · cases h
theorem od_notN : OpD cl (fun x y H Q => y = .non ∧ Q (.bl (!decide (x = .non))) H) dNotN := fun F H x y u v z Q e rx ry h q => by
  unfold dNotN at h
  split at h
  · cases ry
    cases h
    refine ⟨rfl, ?_⟩
    cases rx <;> exact q _ F H (New.refl e) .bl
  · cases h
end
end PyD
end
section
set_option linter.all false
set_option maxRecDepth 100000
set_option maxHeartbeats 4000000
namespace PyD
open PySem L2

section
variable {cl : Cl} {X : Cx} {W : WX} {a b e : Expr} {es : List Expr} {pos : Pos} {ca cb c : M D}
/-! ### subscripts -/
theorem atI_rep {F : Hp} {xs : List D} {vs : List V} (r : RepL cl F xs vs) {i : Int} {d : D} (h : atI xs i = some d) : ∃ v, atI vs i = some v ∧ Rep cl F d v := by
  unfold atI at h ⊢
  obtain ⟨j, h1, h2⟩ := Option.bind_eq_some_iff.mp h
  obtain ⟨v, h3, h4⟩ := repL_get r h2
  exact ⟨v, by rw [← Paired.length r, h1]; exact h3, h4⟩
def dIx : D → D → Option D
  | .lst xs, .int i => atI xs i
  | .scr xs, .int i => atI xs i
  | .tup xs, .int i => atI xs i
  | .str z, .int i => if z.length ≤ sizeLine then (atI z.cps.toList i).map fun c => .str ⟨#[c]⟩ else none
  | _, _ => none
def OpL (cl : Cl) (r : R2) (f : D → D → Option D) : Prop := ∀ (F H : Hp) (x y : D) (u v : V) (z : D) (Q : VK), Ext F H → At cl F H x u → Rep cl F y v → f x y = some z → (∀ w F' H', New F H F' H' → Rep cl F' z w → Q w H') → r u v H Q
theorem ol_ix {K : PySem.W.Frag} : OpL cl (rIx K) dIx := fun F H x y u v z Q e rx ry h q => by
  unfold dIx at h
  split at h
  · obtain ⟨p, vs, rfl, hp, r⟩ := rx
    cases ry
    obtain ⟨w, h1, h2⟩ := atI_rep r h
    exact .inl ⟨p, vs, _, w, rfl, rfl, .inl (.inl hp), h1, q w F H (New.refl e) h2⟩
  · have rx : Rep cl F _ u := rx
    cases rx with
    | scr hp r =>
      cases ry
      obtain ⟨w, h1, h2⟩ := atI_rep r h
      exact .inl ⟨_, _, _, w, rfl, rfl, sqL_scr e hp, h1, q w F H (New.refl e) h2⟩
  · have rx : Rep cl F _ u := rx
    cases rx with
    | tup hp r =>
      cases ry
      obtain ⟨w, h1, h2⟩ := atI_rep r h
      exact .inr (.inl ⟨_, _, _, w, rfl, rfl, sqT_of e hp, h1, q w F H (New.refl e) h2⟩)
  · have rx : Rep cl F _ u := rx
    split at h
    · rename_i hz
      obtain ⟨c, h1, rfl⟩ := Option.map_eq_some_iff.mp h
      cases rx
      cases ry
      exact .inr (.inr ⟨_, _, c, rfl, rfl, hz, h1, q _ F H (New.refl e) .str⟩)
    · cases h
  · cases h
def live (i : Nat) (r : Rho) : Bool := match r[i]? with
  | some (.im _) => true
  | some (.ow _ _) => true
  | _ => false
def slotD (i : Nat) (r : Rho) : Option D := match r[i]? with
  | some (.im d) => some d
  | some (.ow _ d) => some d
  | _ => none
theorem St0.slotAt {ρ : Rho} {σ : St} {F H : Hp} {i : Nat} {d : D} {v : V} (s : St0 cl ρ σ F H) (h : slotD i ρ = some d) (hv : σ[i]? = some (some v)) : At cl F H d v := by
  unfold slotD at h
  split at h
  · rename_i x q
    cases h
    obtain ⟨v', e, r⟩ := s.sl i _ _ q hv
    cases e
    exact r.at_ s.ext
  · rename_i x q
    cases h
    obtain ⟨p, ho, e, hp, _, r⟩ := s.sl i _ _ q hv
    cases e
    exact r.at_ hp
  · cases h
theorem St0.live {ρ : Rho} {σ : St} {F H : Hp} {i : Nat} (s : St0 cl ρ σ F H) (h : live i ρ = true) : ∃ v, σ[i]? = some (some v) := by
  unfold PyD.live at h
  split at h
  · rename_i q
    obtain ⟨o, ho, v, rfl, _⟩ := s.slot q
    exact ⟨v, ho⟩
  · rename_i q
    obtain ⟨o, ho, p, u, rfl, _⟩ := s.slot q
    exact ⟨_, ho⟩
  · cases h
/-- a name subscripted: looked at behind the index -/
def cIxv (i : Nat) (f : D → D → Option D) (cb : M D) : M D := fun r => if live i r = true then cb.bind (fun y => fun r => match (slotD i r).bind fun d => f d y with
  | some z => .ok z r
  | none => .stuck) r else .stuck
theorem se_ixv {i : Nat} (h : PE X a (tVar i)) (hb : SE cl X W b cb) (hs : PlainIx b := by intro _ _; rfl) : SE cl X W (.Subscript a b pos) (cIxv i dIx cb) := PE.imp (pe_ix ix_seq h hb hs) fun σ H Q ⟨ρ, F, s, f⟩ => by
  unfold cIxv at f
  split at f
  · rename_i hl
    obtain ⟨v, hv⟩ := s.live hl
    refine ⟨v, hv, tM_of s (Fol.bind f fun y w ρ1 F1 H1 s1 m1 r1 h1 => ?_)⟩
    split at h1
    · rename_i z hz
      obtain ⟨d, e1, e2⟩ := Option.bind_eq_some_iff.mp hz
      exact ol_ix F1 H1 d y v w z Q s1.ext (s1.slotAt e1 hv) r1 e2 fun w F' H' n r => h1 w F' H' (s1.new n) (Go.new n) r
    · exact h1.elim
  · exact f.elim
/-- a value subscripted -/
theorem se_ix (ha : SE cl X W a ca) (hb : SE cl X W b cb) (hs : PlainIx b := by intro _ _; rfl) : SE cl X W (.Subscript a b pos) (ca.bind fun x => cb.bind fun y => M.opt (dIx x y)) := PE.imp (pe_ix ix_seq ha hb hs) fun σ H Q ⟨ρ, F, s, f⟩ =>
  tM_of s (Fol.bind f fun x u ρ1 F1 H1 s1 m1 r1 h1 => tM_of s1 (Fol.bind h1 fun y v ρ2 F2 H2 s2 m2 r2 h2 => by
    obtain ⟨z, e, h3⟩ := Fol.opt h2
    exact ol_ix F2 H2 x y u v z Q s2.ext ((r1.mono m2).at_ s2.ext) r2 e fun w F' H' n r => h3 w F' H' (s2.new n) (Go.new n) r))

/-! ### x[i] = e on a list of one's own -/
def putL (i : Nat) (d k : D) (r : Rho) : Option Rho := match r[i]?, k with
  | some (.ow b (.lst xs)), .int z => (ixN xs.length z).map fun j => r.set i (.ow b (.lst (xs.set j d)))
  | _, _ => none
def cSetI (i : Nat) (ci ce : M D) : MS := liftS ce fun d => fun r => if live i r = true then liftS ci (fun k => fun r => match putL i d k r with
  | some r' => .nx r'
  | none => .stuck) r else .stuck
theorem RepL.set {F : Hp} {xs : List D} {vs : List V} (r : RepL cl F xs vs) {d : D} {v : V} (q : Rep cl F d v) : ∀ j : Nat, RepL cl F (xs.set j d) (vs.set j v) := by
  induction r with
  | nil => intro j; simp; exact .nil
  | cons a t ih =>
    intro j
    cases j with
    | zero => exact .cons q t
    | succ j => exact .cons a (ih j)
theorem ss_setI {i : Nat} {pos' : Pos} {o ie : Expr} {ci ce : M D} (ho : PE X o (tVar i)) (hi : SE cl X W ie ci) (he : SE cl X W e ce) (ha : ∀ v, assign (.Subscript o ie pos') X.env v = (do
      let ov ← holding [v] (eval o X.env)
      let iv ← holding [v, ov] (eval ie X.env)
      standAt pos'
      holding [v, ov, iv] (setItem ov iv v)
      release [v, ov, iv] []) := by intro _; rfl) (hs : swapsWithSole [.Subscript o ie pos'] e pos.line X.env = pure false := by rfl) (hw : swappedStores [.Subscript o ie pos'] e X.env = pure none := by rfl)
    (h1 : (assignEach [.Subscript o ie pos'] X.env).map (·.2) = [assign (.Subscript o ie pos') X.env] := by rfl) : SS cl X W (.Assign [.Subscript o ie pos'] e pos) (cSetI i ci ce) :=
  PS.imp (ps_asg he (pg_sub ho hi set_list ha) hs hw h1) fun D σ H ⟨ρ, F, s, f⟩ => tM_of s (FolS.lift f fun d v ρ1 F1 H1 s1 m1 r1 f1 => by
    split at f1
    · rename_i hl
      obtain ⟨u, hu⟩ := s1.live hl
      refine ⟨u, hu, tM_of s1 (FolS.lift f1 fun k w ρ2 F2 H2 s2 m2 r2 f2 => ?_)⟩
      unfold putL at f2
      split at f2
      · rename_i r' hr
        split at hr
        · rename_i b xs z q
          obtain ⟨j, hj, rfl⟩ := Option.map_eq_some_iff.mp hr
          obtain ⟨p, ho, e, hp, hf, ro⟩ := s2.sl i _ _ q hu
          cases e
          cases ro with
          | @lst _ vs rl =>
            cases r2
            obtain ⟨s3, g3⟩ := s2.write (d' := .lst (xs.set j d)) q hu (.lst (RepL.set rl (Rep.mono m2 _ _ r1) j))
            exact ⟨p, vs, z, j, rfl, rfl, hp, by rw [← Paired.length rl]; exact hj, f2 σ F2 _ s3 g3⟩
        · cases hr
      · exact f2.elim
    · exact f1.elim)

/-! ### append, extend -/
def appL (i : Nat) (d : D) (r : Rho) : Option Rho := match r[i]? with
  | some (.ow b (.lst xs)) => if xs.length < sizeLine then some (r.set i (.ow b (.lst (xs ++ [d])))) else none
  | _ => none
def extL (i : Nat) (d : D) (r : Rho) : Option Rho := match r[i]?, d with
  | some (.ow b (.lst xs)), .lst ys => if xs.length + ys.length ≤ sizeLine then some (r.set i (.ow b (.lst (xs ++ ys)))) else none
  | _, _ => none
def isL (i : Nat) (r : Rho) : Bool := match r[i]? with
  | some (.ow _ (.lst _)) => true
  | _ => false
def cMut (i : Nat) (f : Nat → D → Rho → Option Rho) (c : M D) : M D := fun r => if isL i r = true then c.bind (fun d => fun r => match f i d r with
  | some r' => .ok .non r'
  | none => .stuck) r else .stuck
theorem isL_at {K : PySem.W.Frag} {ρ : Rho} {σ : St} {F H : Hp} {i : Nat} (s : St0 cl ρ σ F H) (h : isL i ρ = true) : ∃ p, σ[i]? = some (some (.ref p)) ∧ tyV K "list" (.ref p) H := by
  unfold isL at h
  split at h
  · rename_i b xs q
    obtain ⟨o, ho, p, u, rfl, hp, _, r⟩ := s.slot q
    cases r with
    | @lst _ vs r => exact ⟨p, ho, .inl ⟨rfl, vs, .inl (.inl hp)⟩⟩
  · cases h
theorem se_append {i : Nat} {o : Expr} {ap : Pos} (ho : PE X o (tVar i)) (h : SE cl X W e c) (hbase : attributeBase o "append" X.env (eval o X.env) = eval o X.env := by rfl)
    (hfew : ((backTo pos (starEach [e] X.env)).all (fun x => !x.1) && (backToKw pos (keywordEach [] X.env)).all (fun x => x.1.isSome) && decide ([e].length + ([] : List Keyword).length + (if ([] : List Keyword).isEmpty then 0 else 1) < 30)) = true := by rfl)
    (hline : (ap.endLine == pos.line) = true := by rfl) (hs : starEach [e] X.env = (false, eval e X.env) :: starEach [] X.env := by rfl) (hpl : (backTo pos (starEach [] X.env)).any (·.1) = false := by rfl) :
    SE cl X W (.Call (.Attribute o "append" ap) [e] [] pos) (cMut i appL c) := PE.imp (pe_bm PySem.F.plainAttrs_list PySem.F.slot_list_append (by rfl) mt_append ho (pa_cons h pa_nil hs) hbase hfew hline hs hpl) fun σ H Q ⟨ρ, F, s, f⟩ => by
  unfold cMut at f
  split at f
  · rename_i hl
    obtain ⟨p, hp, ty⟩ := isL_at (K := X.K) s hl
    refine ⟨.ref p, hp, ty, tM_of s (Fol.bind f fun d v ρ1 F1 H1 s1 m1 r1 h1 => ?_)⟩
    unfold appL at h1
    split at h1
    · rename_i r' hr
      split at hr
      · rename_i b xs q
        split at hr
        · rename_i hz
          cases hr
          obtain ⟨p', ho, e, hp', hf, ro⟩ := s1.sl i _ _ q hp
          cases e
          cases ro with
          | @lst _ vs rl =>
            obtain ⟨s3, g3⟩ := s1.write (d' := .lst (xs ++ [d])) q hp (.lst (RepL.append rl (.cons r1 .nil)))
            exact ⟨p, vs, v, rfl, rfl, hp', by rw [← Paired.length rl]; exact hz, h1 .non F1 _ s3 g3 .non⟩
        · cases hr
      · cases hr
    · exact h1.elim
  · exact f.elim
theorem se_extend {i : Nat} {o : Expr} {ap : Pos} (ho : PE X o (tVar i)) (h : SE cl X W e c) (hbase : attributeBase o "extend" X.env (eval o X.env) = eval o X.env := by rfl)
    (hfew : ((backTo pos (starEach [e] X.env)).all (fun x => !x.1) && (backToKw pos (keywordEach [] X.env)).all (fun x => x.1.isSome) && decide ([e].length + ([] : List Keyword).length + (if ([] : List Keyword).isEmpty then 0 else 1) < 30)) = true := by rfl)
    (hline : (ap.endLine == pos.line) = true := by rfl) (hs : starEach [e] X.env = (false, eval e X.env) :: starEach [] X.env := by rfl) (hpl : (backTo pos (starEach [] X.env)).any (·.1) = false := by rfl) :
    SE cl X W (.Call (.Attribute o "extend" ap) [e] [] pos) (cMut i extL c) := PE.imp (pe_bm PySem.F.plainAttrs_list PySem.F.slot_list_extend (by rfl) mt_extend ho (pa_cons h pa_nil hs) hbase hfew hline hs hpl) fun σ H Q ⟨ρ, F, s, f⟩ => by
  unfold cMut at f
  split at f
  · rename_i hl
    obtain ⟨p, hp, ty⟩ := isL_at (K := X.K) s hl
    refine ⟨.ref p, hp, ty, tM_of s (Fol.bind f fun d v ρ1 F1 H1 s1 m1 r1 h1 => ?_)⟩
    unfold extL at h1
    split at h1
    · rename_i r' hr
      split at hr
      · rename_i b xs ys q
        split at hr
        · rename_i hz
          cases hr
          obtain ⟨p', ho, e, hp', hf, ro⟩ := s1.sl i _ _ q hp
          cases e
          cases ro with
          | @lst _ vs rl =>
            cases r1 with
            | @lst q' _ ws e1 rw1 =>
              obtain ⟨s3, g3⟩ := s1.write (d' := .lst (xs ++ ys)) q hp (.lst (RepL.append rl rw1))
              exact ⟨p, q', vs, ws, rfl, rfl, hp', (s1.ext _ _ e1).one fun z => z, by rw [← Paired.length rl, ← Paired.length rw1]; exact hz, h1 .non F1 _ s3 g3 .non⟩
        · cases hr
      · cases hr
    · exact h1.elim
  · exact f.elim

/-! ### unary minus -/
def dNeg : D → Option D
  | .int i => some (.int (-i))
  | _ => none
theorem se_neg (h : SE cl X W a ca) : SE cl X W (.UnaryOp .USub a pos) (ca.bind fun d => M.opt (dNeg d)) := PE.imp (pe_un un_neg h) fun σ H Q ⟨ρ, F, s, f⟩ =>
  tM_of s (Fol.bind f fun x u ρ1 F1 H1 s1 m1 r1 h1 => by
    obtain ⟨z, e, h3⟩ := Fol.opt h1
    unfold dNeg at e
    split at e
    · cases e
      cases r1
      exact ⟨_, rfl, h3 _ F1 H1 s1 Go.refl .int⟩
    · cases e)
end
end PyD
end
section
set_option linter.all false
set_option maxRecDepth 100000
set_option maxHeartbeats 4000000
namespace PyD
open PySem L2

section
variable {cl : Cl} {X : Cx} {W : WX} {a b e : Expr} {es : List Expr} {p pos : Pos} {ca cb c : M D} {x : Str}
/-! ### calls of built-ins by name -/
theorem se_cb {id : String} {r : List V → Hp → VK → Prop} {f : List D → Option D} {ka : M (List D)} (hc : CallR X (.builtin id) r) (hf : CallD cl r f) (hg : Gl X x) (hm : X.mg x = none) (hv : bootBuiltins x = some (.builtin id)) (ha : SL cl X W (e :: es) ka) (hn : x ≠ "__name__" := by decide) (hdb : (x == ("__debug__" : Str)) = false := by decide)
    (he : starEach (e :: es) X.env = (false, eval e X.env) :: starEach es X.env := by rfl) (hpl : (backTo pos (starEach es X.env)).any (·.1) = false := by rfl) : SE cl X W (.Call (.Name x p) (e :: es) [] pos) (cCall f ka) :=
  PE.imp (pe_callB hc hg hm hv ha hn hdb he hpl) fun σ H Q h => tM_call hf σ H Q h
theorem se_ct {T : String} {r : List V → Hp → VK → Prop} {f : List D → Option D} {ka : M (List D)} (hc : CallR X (.type T) r) (hf : CallD cl r f) (hg : Gl X x) (hm : X.mg x = none) (hv : bootBuiltins x = some (.type T)) (ha : SL cl X W (e :: es) ka) (hn : x ≠ "__name__" := by decide) (hdb : (x == ("__debug__" : Str)) = false := by decide)
    (he : starEach (e :: es) X.env = (false, eval e X.env) :: starEach es X.env := by rfl) (hpl : (backTo pos (starEach es X.env)).any (·.1) = false := by rfl) : SE cl X W (.Call (.Name x p) (e :: es) [] pos) (cCall f ka) :=
  PE.imp (pe_callTy hc hg hm hv ha hn hdb he hpl) fun σ H Q h => tM_call hf σ H Q h
theorem se_cb1 {id : String} {r : List V → Hp → VK → Prop} {f : D → Option D} (hc : CallR X (.builtin id) r) (hf : Call1D cl r f) (hg : Gl X x) (hm : X.mg x = none) (hv : bootBuiltins x = some (.builtin id)) (ha : SP cl X W e ca) (hn : x ≠ "__name__" := by decide) (hdb : (x == ("__debug__" : Str)) = false := by decide)
    (he : starEach [e] X.env = (false, eval e X.env) :: starEach [] X.env := by rfl) (hpl : (backTo pos (starEach [] X.env)).any (·.1) = false := by rfl) : SE cl X W (.Call (.Name x p) [e] [] pos) (cCall1 f ca) :=
  PE.imp (pe_callB hc hg hm hv (pa_cons ha pa_nil he) hn hdb he hpl) fun σ H Q h => tM_call1 hf σ H Q h
def lOr (r r' : List V → Hp → VK → Prop) : List V → Hp → VK → Prop := fun xs H Q => r xs H Q ∨ r' xs H Q
theorem or_call {f : Value} {r r' : List V → Hp → VK → Prop} (h : CallR X f r) (k : CallR X f r') : CallR X f (lOr r r') := fun pins s σ H xs us Q I rx q => by
  rcases q with q | q
  · exact h pins s σ H xs us Q I rx q
  · exact k pins s σ H xs us Q I rx q
/-! len -/
def dLen : D → Option D
  | .str z => if z.length ≤ sizeLine then some (.int z.length) else none
  | .lst xs => some (.int xs.length)
  | .scr xs => some (.int xs.length)
  | .tup xs => some (.int xs.length)
  | _ => none
theorem cd_len {K : PySem.W.Frag} : Call1D cl (fun xs H Q => ∃ x n, xs = [x] ∧ LenV K x H n ∧ Q (.int n) H) dLen := fun F H x v z Q e rx h q => by
  cases x with
  | str y =>
    unfold dLen at h
    dsimp only at h
    split at h
    · rename_i hz
      have rx : Rep cl F (.str y) v := rx
      cases rx
      cases h
      exact ⟨_, _, rfl, ⟨hz, rfl⟩, q _ F H (New.refl e) .int⟩
    · cases h
  | lst xs =>
    obtain ⟨p, vs, rfl, hp, r⟩ := rx
    cases h
    exact ⟨_, _, rfl, .inl ⟨vs, .inl (.inl hp), rfl⟩, by rw [← Paired.length r]; exact q _ F H (New.refl e) .int⟩
  | scr xs =>
    have rx : Rep cl F (.scr xs) v := rx
    cases rx with
    | scr hp r =>
      cases h
      exact ⟨_, _, rfl, .inl ⟨_, sqL_scr e hp, rfl⟩, by rw [← Paired.length r]; exact q _ F H (New.refl e) .int⟩
  | tup xs =>
    have rx : Rep cl F (.tup xs) v := rx
    cases rx with
    | tup hp r =>
      cases h
      exact ⟨_, _, rfl, .inr ⟨_, sqT_of e hp, rfl⟩, by rw [← Paired.length r]; exact q _ F H (New.refl e) .int⟩
  | _ => cases h
/-! int, abs, max, min -/
def dInt1 : List D → Option D
  | [.int i] => some (.int i)
  | [.bl b] => some (.int (if b then 1 else 0))
  | _ => none
theorem cd_int1 : CallD cl (fun xs H Q => (∃ i, xs = [.int i] ∧ Q (.int i) H) ∨ ∃ k, xs = [.bl k] ∧ Q (.int (if k then 1 else 0)) H) dInt1 := fun F H xs vs z Q e r h q => by
  unfold dInt1 at h
  split at h
  · cases h
    cases r with
    | cons r t =>
      cases r
      cases t
      exact .inl ⟨_, rfl, q _ F H (New.refl e) .int⟩
  · cases h
    cases r with
    | cons r t =>
      cases r
      cases t
      exact .inr ⟨_, rfl, q _ F H (New.refl e) .int⟩
  · cases h
def dAbs : List D → Option D
  | [.int i] => some (.int (if i < 0 then -i else i))
  | _ => none
theorem cd_abs : CallD cl (fun xs H Q => ∃ i, xs = [.int i] ∧ Q (.int (if i < 0 then -i else i)) H) dAbs := fun F H xs vs z Q e r h q => by
  unfold dAbs at h
  split at h
  · cases h
    cases r with
    | cons r t =>
      cases r
      cases t
      exact ⟨_, rfl, q _ F H (New.refl e) .int⟩
  · cases h
def dI2 (g : Int → Int → Int) : List D → Option D
  | [.int i, .int j] => some (.int (g i j))
  | _ => none
theorem cd_i2 {g : Int → Int → Int} : CallD cl (fun xs H Q => ∃ i j, xs = [.int i, .int j] ∧ Q (.int (g i j)) H) (dI2 g) := fun F H xs vs z Q e r h q => by
  unfold dI2 at h
  split at h
  · cases h
    cases r with
    | cons r t =>
      cases t with
      | cons r2 t2 =>
        cases r
        cases r2
        cases t2
        exact ⟨_, _, rfl, q _ F H (New.refl e) .int⟩
  · cases h
def dMax2 := dI2 fun i j => if j > i then j else i
def dMin2 := dI2 fun i j => if j < i then j else i
theorem cd_max2 : CallD cl (fun xs H Q => ∃ i j, xs = [.int i, .int j] ∧ Q (.int (if j > i then j else i)) H) dMax2 := cd_i2
theorem cd_min2 : CallD cl (fun xs H Q => ∃ i j, xs = [.int i, .int j] ∧ Q (.int (if j < i then j else i)) H) dMin2 := cd_i2
/-! all, any of a list of truth values -/
def boolsOf : List D → Option (List Bool)
  | [] => some []
  | .bl b :: r => (boolsOf r).map (b :: ·)
  | _ => none
theorem boolsOf_rep {F : Hp} : ∀ {xs : List D} {vs : List V} {bs : List Bool}, RepL cl F xs vs → boolsOf xs = some bs → vs = bs.map V.bl
  | [], _, bs, r, h => by
    cases r
    cases h
    rfl
  | d :: xs, _, bs, r, h => by
    cases r with
    | cons r t =>
      cases d with
      | bl b =>
        obtain ⟨cs, h1, rfl⟩ := Option.map_eq_some_iff.mp (show (boolsOf xs).map (b :: ·) = some bs from h)
        cases r
        rw [boolsOf_rep t h1]
        rfl
      | _ => cases h
def dAll : List D → Option D
  | [.lst xs] => (boolsOf xs).map fun bs => .bl (bs.all id)
  | _ => none
def dAny : List D → Option D
  | [.lst xs] => (boolsOf xs).map fun bs => .bl (bs.any id)
  | _ => none
theorem cd_all {K : PySem.W.Frag} : CallD cl (rAll K) dAll := fun F H xs vs z Q e r h q => by
  unfold dAll at h
  split at h
  · obtain ⟨bs, h1, rfl⟩ := Option.map_eq_some_iff.mp h
    cases r with
    | cons r t =>
      cases t
      cases r with
      | lst hp rl =>
        have := boolsOf_rep rl h1
        subst this
        exact ⟨_, bs, rfl, sqL_of e hp, q _ F H (New.refl e) .bl⟩
  · cases h
theorem cd_any {K : PySem.W.Frag} : CallD cl (rAny K) dAny := fun F H xs vs z Q e r h q => by
  unfold dAny at h
  split at h
  · obtain ⟨bs, h1, rfl⟩ := Option.map_eq_some_iff.mp h
    cases r with
    | cons r t =>
      cases t
      cases r with
      | lst hp rl =>
        have := boolsOf_rep rl h1
        subst this
        exact ⟨_, bs, rfl, sqL_of e hp, q _ F H (New.refl e) .bl⟩
  · cases h
/-! list(range(..)) -/
instance {a b : Int} : Decidable (RgOk a b) := by unfold RgOk; infer_instance
theorem rgV_rep {F : Hp} (a b : Int) : RepL cl F (rangeL a (b - a).toNat) (rgV a b) := by
  unfold rangeL rgV
  generalize List.range (b - a).toNat = l
  induction l with
  | nil => exact .nil
  | cons x l ih => exact .cons .int ih
def lRg2 : D → D → Option D
  | .int a, .int b => if RgOk a b then some (.lst (rangeL a (b - a).toNat)) else none
  | _, _ => none
theorem se_listRg1 {p2 pos2 : Pos} (hc : X.calm = true) (hg : Gl X "list") (hm : X.mg "list" = none) (hg2 : Gl X "range") (hm2 : X.mg "range" = none) (h : SE cl X W a ca) (na : starEach [a] X.env = (false, eval a X.env) :: starEach [] X.env := by rfl)
    (na2 : starEach [.Call (.Name "range" p2) [a] [] pos2] X.env = (false, eval (.Call (.Name "range" p2) [a] [] pos2) X.env) :: starEach [] X.env := by rfl) : SE cl X W (.Call (.Name "list" p) [.Call (.Name "range" p2) [a] [] pos2] [] pos) (ca.bind fun d => M.opt (lRg2 (.int 0) d)) :=
  PE.imp (pe_listRg hc hg hm (prg_1 hg2 hm2 h na) na2) fun σ H Q ⟨ρ, F, s, f⟩ => tM_of s (Fol.bind f fun d v ρ1 F1 H1 s1 m1 r1 h1 => by
    obtain ⟨z, e, h3⟩ := Fol.opt h1
    unfold lRg2 at e
    split at e
    · rename_i a0 b0 e0
      cases e0
      split at e
      · rename_i hr
        cases e
        cases r1
        refine ⟨_, rfl, hr, fun q hq => ?_⟩
        have n : New F1 H1 (upd F1 q (.lst (rgV 0 b0))) (upd H1 q (.lst (rgV 0 b0))) := New.at_ s1.ext hq
        exact h3 _ _ _ (s1.new n) (Go.new n) (.lst upd_same (rgV_rep 0 b0))
      · cases e
    · cases e)
theorem se_listRg2 {p2 pos2 : Pos} (hc : X.calm = true) (hg : Gl X "list") (hm : X.mg "list" = none) (hg2 : Gl X "range") (hm2 : X.mg "range" = none) (h : SE cl X W a ca) (hb : SE cl X W b cb) (na : starEach [a, b] X.env = (false, eval a X.env) :: starEach [b] X.env := by rfl) (nb : starEach [b] X.env = (false, eval b X.env) :: starEach [] X.env := by rfl) (hp : (backTo pos2 (starEach [b] X.env)).any (·.1) = false := by rfl)
    (na2 : starEach [.Call (.Name "range" p2) [a, b] [] pos2] X.env = (false, eval (.Call (.Name "range" p2) [a, b] [] pos2) X.env) :: starEach [] X.env := by rfl) : SE cl X W (.Call (.Name "list" p) [.Call (.Name "range" p2) [a, b] [] pos2] [] pos) (ca.bind fun x => cb.bind fun y => M.opt (lRg2 x y)) :=
  PE.imp (pe_listRg hc hg hm (prg_2 hg2 hm2 h hb na nb hp) na2) fun σ H Q ⟨ρ, F, s, f⟩ => tM_of s (Fol.bind f fun x u ρ1 F1 H1 s1 m1 r1 h1 => tM_of s1 (Fol.bind h1 fun y v ρ2 F2 H2 s2 m2 r2 h2 => by
    obtain ⟨z, e, h3⟩ := Fol.opt h2
    unfold lRg2 at e
    split at e
    · rename_i a0 b0
      split at e
      · rename_i hr
        cases e
        cases r1
        cases r2
        refine ⟨_, _, rfl, rfl, hr, fun q hq => ?_⟩
        have n : New F2 H2 (upd F2 q (.lst (rgV a0 b0))) (upd H2 q (.lst (rgV a0 b0))) := New.at_ s2.ext hq
        exact h3 _ _ _ (s2.new n) (Go.new n) (.lst upd_same (rgV_rep a0 b0))
      · cases e
    · cases e))
/-! list(xs), tuple(xs) -/
def seqOf : D → Option (List D)
  | .lst xs => some xs
  | .scr xs => some xs
  | .tup xs => some xs
  | _ => none
def dList : List D → Option D
  | [d] => (seqOf d).map .lst
  | _ => none
def dTuple : List D → Option D
  | [d] => (seqOf d).map .tup
  | _ => none
theorem seq_rep {K : PySem.W.Frag} {F H : Hp} {d : D} {v : V} {xs : List D} (e : Ext F H) (r : Rep cl F d v) (h : seqOf d = some xs) : ∃ p vs, v = .ref p ∧ RepL cl F xs vs ∧ (SqL K H p vs ∨ (SqT K H p vs ∧ d = .tup xs)) := by
  cases r with
  | lst hp rl => cases h; exact ⟨_, _, rfl, rl, .inl (sqL_of e hp)⟩
  | scr hp rl => cases h; exact ⟨_, _, rfl, rl, .inl (sqL_scr e hp)⟩
  | tup hp rl => cases h; exact ⟨_, _, rfl, rl, .inr ⟨sqT_of e hp, rfl⟩⟩
  | _ => cases h
theorem cd_list {K : PySem.W.Frag} : CallD cl (fun xs H Q => ∃ p ys, xs = [.ref p] ∧ (SqL K H p ys ∨ SqT K H p ys) ∧ ∀ l, H l = none → Q (.ref l) (upd H l (.lst ys))) dList := fun F H xs vs z Q e r h q => by
  unfold dList at h
  split at h
  · obtain ⟨ys, h1, rfl⟩ := Option.map_eq_some_iff.mp h
    cases r with
    | cons r t =>
      cases t
      obtain ⟨p, ws, rfl, rl, k⟩ := seq_rep (K := K) e r h1
      refine ⟨p, ws, rfl, k.imp id fun z => z.1, fun l hl => ?_⟩
      have n : New F H (upd F l (.lst ws)) (upd H l (.lst ws)) := New.at_ e hl
      exact q _ _ _ n (.lst upd_same (RepL.mono n.mono rl))
  · cases h
theorem cd_tuple {K : PySem.W.Frag} : CallD cl (fun xs H Q => ∃ p ys, xs = [.ref p] ∧ ((SqL K H p ys ∧ ∀ l, H l = none → Q (.ref l) (upd H l (.tup ys))) ∨ (SqT K H p ys ∧ Q (.ref p) H))) dTuple := fun F H xs vs z Q e r h q => by
  unfold dTuple at h
  split at h
  · obtain ⟨ys, h1, rfl⟩ := Option.map_eq_some_iff.mp h
    cases r with
    | cons r t =>
      cases t
      obtain ⟨p, ws, rfl, rl, k⟩ := seq_rep (K := K) e r h1
      refine ⟨p, ws, rfl, ?_⟩
      rcases k with k | ⟨k, rfl⟩
      · refine .inl ⟨k, fun l hl => ?_⟩
        have n : New F H (upd F l (.tup ws)) (upd H l (.tup ws)) := New.at_ e hl
        exact q _ _ _ n (.tup upd_same (RepL.mono n.mono rl))
      · exact .inr ⟨k, q _ F H (New.refl e) r⟩
  · cases h
/-! enumerate -/
def enumD (xs : List D) : List D := xs.mapIdx fun i d => .tup [.int i, d]
theorem itd_enum {K : PySem.W.Frag} {a : Addr} {vs : List V} {xs : List D} {F0 : Hp} (h : ∀ F H, Sub F0 F → Ext F H → SqL K H a vs) (r : RepL cl F0 xs vs) : ItD cl (Ite K a) (enumD xs) F0 where
  go := fun i F H m e hi => by
    have hv : i < vs.length := by
      rw [← Paired.length r]
      simpa [enumD] using hi
    exact ⟨vs, vs[i], h F H m e, List.getElem?_eq_getElem hv⟩
  stop := fun i F H m e hi => ⟨vs, h F H m e, by
    rw [← Paired.length r]
    simpa [enumD] using hi⟩
  yld := fun i F H x H' m e hi hy => by
    obtain ⟨T, w, rfl, hT, rfl, hx⟩ := hy
    obtain ⟨d, h1, h2⟩ := repL_at r (hx vs (h F H m e))
    have n : New F H (upd F T (.tup [.int (i : Nat), w])) (upd H T (.tup [.int (i : Nat), w])) := New.at_ e hT
    exact ⟨.tup [.int i, d], _, by unfold enumD; rw [List.getElem?_mapIdx, h1]; rfl, n, .tup upd_same (.cons .int (.cons (Rep.mono n.mono _ _ (h2.mono m)) .nil))⟩
def listOf : D → Option (List D)
  | .lst xs => some xs
  | .scr xs => some xs
  | _ => none
theorem si_enum {elts : List Expr} {kk : Nat} {tp : Pos} (hg : Gl X "enumerate") (hm : X.mg "enumerate" = none) (h : SE cl X W e c) (hs : starEach [e] X.env = [(false, eval e X.env)] := by rfl) :
    SI cl X W (.Tuple elts kk tp) (.Call (.Name "enumerate" p) [e] [] pos) (c.bind fun d => M.opt ((listOf d).map enumD)) := PI.imp (pi_enum hg hm (pa_cons h pa_nil (by rw [hs]; rfl)) hs) fun σ H R ⟨ρ, F, s, f⟩ =>
  tM_of s (Fol.bind f fun d v ρ1 F1 H1 s1 m1 r1 h1 => by
    obtain ⟨z, e, h3⟩ := Fol.opt h1
    obtain ⟨xs, e1, rfl⟩ := Option.map_eq_some_iff.mp e
    cases r1 with
    | lst q r =>
      cases e1
      exact ⟨_, _, rfl, sqL_of s1.ext q, h3 _ F1 H1 s1 Go.refl (itd_enum (fun F H m e => sqL_of e (m _ _ q)) r)⟩
    | scr q r =>
      cases e1
      exact ⟨_, _, rfl, sqL_scr s1.ext q, h3 _ F1 H1 s1 Go.refl (itd_enum (fun F H m e => sqL_scr e (m _ _ q)) r)⟩
    | _ => cases e1)
/-! dict displays -/
def putKD (kvs : List (Key × D)) (k : Key) (d : D) : List (Key × D) := if kvs.any (fun kv => kv.1 = k) then kvs.map (fun kv => if kv.1 = k then (kv.1, d) else kv) else kvs ++ [(k, d)]
def mergeKD (kvs more : List (Key × D)) : List (Key × D) := more.foldl (fun acc kv => putKD acc kv.1 kv.2) kvs
def keyOfD : D → Option Key
  | .int i => some (.inl i)
  | .str x => some (.inr x)
  | _ => none
def cPairs : List (M D × M D) → M (List (D × D))
  | [] => M.ret []
  | (ck, cv) :: r => ck.bind fun k => cv.bind fun v => (cPairs r).bind fun ps => M.ret ((k, v) :: ps)
def keysOf : List (D × D) → Option (List (Key × D))
  | [] => some []
  | (k, v) :: r => (keyOfD k).bind fun k => (keysOf r).map fun ps => (k, v) :: ps
def dispOf (ps : List (D × D)) : Option D := (keysOf ps).bind fun kvs => if kvs.length ≤ 15 then some (.dk (mergeKD [] kvs)) else none
abbrev RepP (cl : Cl) (F : Hp) : List (D × D) → List (V × V) → Prop := Paired fun p q => Rep cl F p.1 q.1 ∧ Rep cl F p.2 q.2
theorem tPairs_of {trs : List (M D × M D)} : ∀ (σ : St) (H : Hp) (Q : List (V × V) → Hp → Prop), tM cl (fun _ F _ ps qs => RepP cl F ps qs) W (cPairs trs) σ H Q → tPairs (trs.map fun t => (tM cl (AE cl) W t.1, tM cl (AE cl) W t.2)) σ H Q := by
  induction trs with
  | nil => exact fun σ H Q ⟨ρ, F, s, f⟩ => f [] F H s Go.refl .nil
  | cons t r ih =>
    obtain ⟨ck, cv⟩ := t
    exact fun σ H Q ⟨ρ, F, s, f⟩ => tM_of s (Fol.bind f fun k u ρ1 F1 H1 s1 m1 r1 h1 => tM_of s1 (Fol.bind h1 fun y v ρ2 F2 H2 s2 m2 r2 h2 => ih σ H2 _ (tM_of s2 (Fol.bind h2 fun ps qs ρ3 F3 H3 s3 m3 r3 h3 =>
      h3 _ F3 H3 s3 Go.refl (.cons ⟨Rep.mono m3 _ _ (Rep.mono m2 _ _ r1), Rep.mono m3 _ _ r2⟩ r3)))))
def SPs (cl : Cl) (X : Cx) (W : WX) (pos : Pos) (keys : List (Option Expr)) (vals : List Expr) (trs : List (M D × M D)) : Prop := PPs X pos keys vals (trs.map fun t => (tM cl (AE cl) W t.1, tM cl (AE cl) W t.2))
theorem sps_nil : SPs cl X W pos [] [] [] := pps_nil
theorem sps_cons {k v : Expr} {ks : List (Option Expr)} {vs : List Expr} {ck cv : M D} {trs : List (M D × M D)} (hk : SE cl X W k ck) (hv : SE cl X W v cv) (hr : SPs cl X W pos ks vs trs) : SPs cl X W pos (some k :: ks) (v :: vs) ((ck, cv) :: trs) := pps_cons hk hv hr
theorem key_rep {F : Hp} {d : D} {v : V} {k : Key} (r : Rep cl F d v) (h : keyOfD d = some k) : v = kV k := by
  cases r <;> cases h <;> rfl
theorem put_rep {F : Hp} {kvs : List (Key × D)} {ks : List (Key × V)} {k : Key} {d : D} {v : V} (e : kvs.map (·.1) = ks.map (·.1)) (r : RepL cl F (kvs.map (·.2)) (ks.map (·.2))) (q : Rep cl F d v) :
    (putKD kvs k d).map (·.1) = (putK ks k v).map (·.1) ∧ RepL cl F ((putKD kvs k d).map (·.2)) ((putK ks k v).map (·.2)) := by
  have any : (kvs.any fun kv => kv.1 = k) = (ks.any fun kv => kv.1 = k) := by
    have h1 : (kvs.any fun kv => kv.1 = k) = (kvs.map (·.1)).any fun x => x = k := by rw [List.any_map]; rfl
    have h2 : (ks.any fun kv => kv.1 = k) = (ks.map (·.1)).any fun x => x = k := by rw [List.any_map]; rfl
    rw [h1, h2, e]
  unfold putKD putK
  rw [any]
  split
  · rename_i hh
    clear hh any
    induction kvs generalizing ks with
    | nil =>
      cases ks with
      | nil => exact ⟨rfl, .nil⟩
      | cons _ _ => cases e
    | cons a kvs ih =>
      cases ks with
      | nil => cases e
      | cons b ks =>
        obtain ⟨e1, e2⟩ := List.cons.inj e
        have e1 : a.1 = b.1 := e1
        cases r with
        | cons r1 r2 =>
          obtain ⟨i1, i2⟩ := ih e2 r2
          simp only [List.map_cons, e1]
          refine ⟨?_, ?_⟩
          · split <;> simp [i1, e1]
          · split
            · exact .cons q i2
            · exact .cons r1 i2
  · rw [List.map_append, List.map_append, List.map_append, List.map_append, e]
    exact ⟨rfl, RepL.append r (.cons q .nil)⟩
theorem merge_rep {F : Hp} : ∀ {more : List (Key × D)} {ms : List (Key × V)} {kvs : List (Key × D)} {ks : List (Key × V)}, more.map (·.1) = ms.map (·.1) → RepL cl F (more.map (·.2)) (ms.map (·.2)) → kvs.map (·.1) = ks.map (·.1) → RepL cl F (kvs.map (·.2)) (ks.map (·.2)) →
    (mergeKD kvs more).map (·.1) = (mergeK ks ms).map (·.1) ∧ RepL cl F ((mergeKD kvs more).map (·.2)) ((mergeK ks ms).map (·.2))
  | [], [], _, _, _, _, e, r => ⟨e, r⟩
  | [], _ :: _, _, _, h, _, _, _ => by cases h
  | _ :: _, [], _, _, h, _, _, _ => by cases h
  | (k, d) :: more, (k', v) :: ms, _, _, h, q, e, r => by
    obtain ⟨h1, h2⟩ := List.cons.inj h
    have h1 : k = k' := h1
    subst h1
    cases q with
    | cons q1 q2 =>
      obtain ⟨e', r'⟩ := put_rep (k := k) e r q1
      exact merge_rep (more := more) (ms := ms) h2 q2 e' r'
theorem keys_rep {F : Hp} : ∀ {ps : List (D × D)} {qs : List (V × V)} {kvs : List (Key × D)}, RepP cl F ps qs → keysOf ps = some kvs → ∃ ks : List (Key × V), qs = ks.map (fun kv => (kV kv.1, kv.2)) ∧ kvs.map (·.1) = ks.map (·.1) ∧ RepL cl F (kvs.map (·.2)) (ks.map (·.2))
  | [], _, _, r, h => by
    cases r
    cases h
    exact ⟨[], rfl, rfl, .nil⟩
  | (k, v) :: ps, _, _, r, h => by
    cases r with
    | @cons _ q _ qs r1 r2 =>
      obtain ⟨k0, h1, h⟩ := Option.bind_eq_some_iff.mp h
      obtain ⟨kvs, h2, rfl⟩ := Option.map_eq_some_iff.mp h
      obtain ⟨ks, rfl, e, r⟩ := keys_rep r2 h2
      obtain ⟨q1, q2⟩ := q
      have := key_rep r1.1 h1
      have this : q1 = kV k0 := this
      subst this
      exact ⟨(k0, q2) :: ks, rfl, by simp [e], .cons r1.2 r⟩
theorem sf_disp {keys : List (Option Expr)} {vals : List Expr} {trs : List (M D × M D)} (h : SPs cl X W pos keys vals trs) (hall : keys.all (·.isSome) = true := by rfl) (hl : keys.length = vals.length := by rfl) (h0 : keys ≠ [] := by simp) (h15 : keys.length ≤ 15 := by decide) :
    SF cl X W (.Dict keys vals pos) ((cPairs trs).bind fun ps => M.opt (dispOf ps)) := PE.imp (pe_disp h hall hl h0 h15) fun σ H Q ⟨ρ, F, s, f⟩ => by
  intro p hp
  have no := not_own s hp
  have s0 : St0 cl ρ σ F (upd H p (.dK [])) := s.new (New.own s.ext hp)
  have g0 : Go ρ σ F H ρ σ F (upd H p (.dK [])) := Go.new (New.own s.ext hp)
  refine tPairs_of σ _ _ ⟨ρ, F, s0, ?_⟩
  unfold M.bind at f
  cases q : cPairs trs ρ with
  | exc k d r =>
    rw [q] at f
    exact fun F' H' dx v s' g ex rv => f F' H' dx v s' (g0.trans g) ex rv
  | stuck => rw [q] at f; exact f
  | ok ps r =>
    rw [q] at f
    intro qs F1 H1 s1 g1 rp
    obtain ⟨hp1, hf1, no1⟩ := g1.pend (o := .dK []) upd_same trivial (s.ext.none hp) no
    have f : FolF cl W (M.opt (dispOf ps) r) ρ σ F H Q := f
    cases q2 : dispOf ps with
    | none => rw [q2] at f; exact f.elim
    | some d =>
      rw [q2] at f
      unfold dispOf at q2
      obtain ⟨kvs, h1, h2⟩ := Option.bind_eq_some_iff.mp q2
      split at h2
      · rename_i hz
        cases h2
        obtain ⟨ks, rfl, e, rl⟩ := keys_rep rp h1
        obtain ⟨e', r'⟩ := merge_rep (kvs := []) (ks := []) e rl rfl .nil
        refine ⟨hp1, ks, rfl, by
          have := congrArg List.length e
          simp only [List.length_map] at this
          omega, ?_⟩
        have s2 : St0 cl r σ F1 (upd H1 p (.dK (mergeK [] ks))) := s1.other hp1 hf1 no1
        exact f p _ F1 _ s2 ((g0.trans g1).other hp) hp upd_same hf1 no1 (.dk e' r')
      · cases h2
/-- {} -/
theorem sf_dnewK : SF cl X W (.Dict [] [] pos) (M.ret (.dk [])) := PE.imp pe_dnewK fun σ H Q ⟨ρ, F, s, f⟩ => by
  intro p hp
  have n : New F H F (upd H p (.dK [])) := New.own s.ext hp
  exact f p _ F _ (s.new n) (Go.new n) hp upd_same (s.ext.none hp) (not_own s hp) (.dk rfl .nil)
theorem sf_dnewT : SF cl X W (.Dict [] [] pos) (M.ret (.dt [])) := PE.imp pe_dnewT fun σ H Q ⟨ρ, F, s, f⟩ => by
  intro p hp
  have n : New F H F (upd H p (.dT [])) := New.own s.ext hp
  exact f p _ F _ (s.new n) (Go.new n) hp upd_same (s.ext.none hp) (not_own s hp) (.dt rfl .nil)
end
end PyD
end
section
set_option linter.all false
set_option maxRecDepth 100000
set_option maxHeartbeats 4000000
namespace PyD
open PySem L2 PySem.Spec PyProof.Rows

/-! ### defs that return a new object of one's own -/
def cRetO (c : M D) : MS := liftS c fun d r => .ro d r
theorem ss_retO {cl : Cl} {X : Cx} {W : WX} {e : Expr} {pos : Pos} {c : M D} (h : SF cl X W e c) : SS cl X W (.Return (some e) pos) (cRetO c) := PS.imp (ps_ret h) fun D σ H ⟨ρ, F, s, f⟩ => by
  refine ⟨ρ, F, s, ?_⟩
  unfold cRetO liftS at f
  cases q : c ρ with
  | exc k d r =>
    rw [q] at f
    exact fun F' H' dx v s' g e r => f σ F' H' dx v s' g e r
  | stuck => rw [q] at f; exact f
  | ok d r =>
    rw [q] at f
    exact fun p o F' H' s' g h0 hp hf no ro => f p o σ F' H' s' g h0 hp hf no ro
def runN (n : Nat) (c : MS) : Fn := fun ss => match c (ss ++ List.replicate (n - ss.length) .un) with
  | .ro d r => .ok d (backs ss.length r)
  | .exc k d r => .exc k d (backs ss.length r)
  | _ => .stuck
def spN (cl : Cl) (f : Fn) (n : Nat) : Sp := fun vs H Q E => vs.length = n ∧ ∃ ss F, St0 cl ss (vs.map some) F H ∧ clean ss = true ∧ match f ss with
  | .ok d outs => ∀ p o F' H', St0 cl outs (vs.map some) F' H' → Go ss (vs.map some) F H outs (vs.map some) F' H' → H p = none → H' p = some o → F' p = none → RepO cl F' d o → Q (.ref p) H'
  | .exc k d outs => ∀ F' H' dx v, St0 cl outs (vs.map some) F' H' → Go ss (vs.map some) F H outs (vs.map some) F' H' → F' dx = some (.xd [("value", v)]) → Rep cl F' d v → E (.ref (cl k)) (some dx) H'
  | .stuck => False
theorem fngN_ok {cl : Cl} {P : Program} {w : World} {K : PySem.W.Frag} {mg : Str → Option Value} {base : Heap} {x qn : Str} {pa : Arguments} {bd : List Stmt} {sc : Scope} {dvs : List V} {kws : List (Str × V)} {f : Addr} {fd : FuncData} {N ps : List Str} {k : Nat} {c : MS}
    (F : FunD K x qn pa bd sc dvs kws f fd) (S : FnScope N ps sc) (hn : ps.length ≤ N.length)
    (hb : ∀ (cdv : Value) (A : Around) (outer : List Env) (s : Shared) (H : Hp) (E : XK), A.guards = some [] → Room k (A.deeper (envOfC qn sc s.heap.objs.size f cdv)) →
      SSs cl (cxOf (L2.CX P w) P w K mg base N qn sc f cdv A outer s H E) (fun c d _ H => E c d H) bd c) :
    FnG P w K mg base (k + 1) f fd ps (spN cl (runN N.length c) ps.length) := by
  obtain ⟨oc, od, dV, kV, doc, pm, an, cdv, ct, sl, rfl, lk, hcd, _, _⟩ := F.ex
  refine fnG_of lk hcd S (fun vs H Q E h => h.1) fun A outer s H vs Q E gd hr h => ⟨_, hb cdv A outer s H E gd hr, ?_⟩
  obtain ⟨hl, ss, F0, s0, hcl, q⟩ := h
  have hl' : vs.length ≤ N.length := by rw [hl]; exact hn
  refine tS_of (s0.entry (N := N) hl') ?_
  unfold runN at q
  cases e : c (ss ++ List.replicate (N.length - ss.length) .un) with
  | nx r => rw [e] at q; exact q.elim
  | rt d r => rw [e] at q; exact q.elim
  | bk r => rw [e] at q; exact q.elim
  | ct r => rw [e] at q; exact q.elim
  | stuck => rw [e] at q; exact q.elim
  | ro d r =>
    rw [e] at q
    intro p o σ' F' H' s' g h0 hp hf no ro
    obtain ⟨a, b⟩ := leave s0 hcl hl' s' g
    exact q p o F' H' a b h0 hp hf ro
  | exc k d r =>
    rw [e] at q
    intro σ' F' H' dx v s' g ex rv
    obtain ⟨a, b⟩ := leave s0 hcl hl' s' g
    exact q F' H' dx v a b ex rv
theorem put1_ow {r : Rho} {i j : Nat} {d x : D} {b : Bool} (h : (put1 r i d)[j]? = some (.ow b x)) : ∃ y, r[j]? = some (.ow b y) := by
  unfold put1 at h
  split at h
  · rename_i b' y q
    by_cases z : j = i
    · subst z
      rw [List.getElem?_set_self (List.getElem?_eq_some_iff.mp q).1] at h
      cases h
      exact ⟨y, q⟩
    · rw [List.getElem?_set_ne (Ne.symm z)] at h
      exact ⟨x, h⟩
  · exact ⟨x, h⟩
theorem putBack_ow : ∀ (as : List Av) (os : List Sl) (r : Rho) {j : Nat} {x : D} {b : Bool}, (putBack r as os)[j]? = some (.ow b x) → ∃ y, r[j]? = some (.ow b y)
  | [], [], r, _, x, _, h => by unfold putBack at h; exact ⟨x, h⟩
  | [], _ :: _, r, _, x, _, h => by unfold putBack at h; exact ⟨x, h⟩
  | a :: as, [], r, _, x, _, h => by cases a <;> exact ⟨x, h⟩
  | .v d :: as, s :: os, r, _, x, _, h => by
    unfold putBack at h
    exact putBack_ow as os r h
  | .io i :: as, s :: os, r, j, x, b, h => by
    cases s with
    | un => exact putBack_ow as os r h
    | im _ => exact putBack_ow as os r h
    | ow c d =>
      cases c with
      | false => exact putBack_ow as os r h
      | true =>
        obtain ⟨y, z⟩ := putBack_ow as os (put1 r i d) h
        exact put1_ow z
section
variable {cl : Cl} {X : Cx} {W : WX} {k : Nat} {f : Addr} {fd : FuncData} {ps : List Str} {x : Str} {p pos : Pos} {e : Expr} {es : List Expr} {fn : Fn} {n : Nat}
/-- f(e, ..): a new object -/
theorem sf_callG {ka : M (List Av)} (tk : Takes X W) (gd : Gd X) (G : FnG X.prog X.w X.K X.mg X.base k f fd ps (spN cl fn n)) (hr : Room k X.A) (hg : Gl X x) (hm : X.mg x = some (.ref f)) (hk : PySem.W.keepIn X.K (.ref f) = true) (hb : Binds X.K fd ps [])
    (ha : SA cl X W (e :: es) ka) (hdb : (x == ("__debug__" : Str)) = false := by decide) (he : starEach (e :: es) X.env = (false, eval e X.env) :: starEach es X.env := by rfl) (hpl : (backTo pos (starEach es X.env)).any (·.1) = false := by rfl) :
    SF cl X W (.Call (.Name x p) (e :: es) [] pos) (cCallF fn n ka) := PE.imp (pe_callG tk gd G hr hg hm hk hb ha hdb he hpl) fun σ H Q ⟨ρ, F, s, h⟩ => by
  unfold cCallF at h
  refine ⟨ρ, F, s, ?_⟩
  cases q : ka ρ with
  | exc k d r1 => rw [q] at h; exact h
  | stuck => rw [q] at h; exact h
  | ok as r1 =>
    rw [q] at h
    dsimp only at h
    intro vs F1 H1 s1 g1 r
    cases q2 : allSl r1 as with
    | none => rw [q2] at h; exact h.elim
    | some ss =>
      rw [q2] at h
      dsimp only at h
      split at h
      · rename_i hc
        obtain ⟨hd, hlen⟩ := hc
        have s2 := s1.args q2 hd r
        refine ⟨by rw [← Paired.length r]; exact hlen, ss, F1, s2, clean_of q2, ?_⟩
        cases q3 : fn ss with
        | ok d outs =>
          rw [q3] at h
          intro p o F' H' s3 g3 h0 hp hf ro
          obtain ⟨s4, g4⟩ := s1.back q2 hd r s3 g3
          refine h p o F' H' s4 (g1.trans g4) (g1.new0 h0) hp hf (fun ⟨i, b, x, z1, z2⟩ => ?_) ro
          obtain ⟨y, z3⟩ := putBack_ow as outs r1 z1
          obtain ⟨p', ho, e, z4, _⟩ := s1.sl i _ _ z3 z2
          cases e
          rw [h0] at z4
          cases z4
        | exc k d outs =>
          rw [q3] at h
          intro F' H' dx v s3 g3 ex rv
          obtain ⟨s4, g4⟩ := s1.back q2 hd r s3 g3
          exact h F' H' dx v s4 (g1.trans g4) ex rv
        | stuck => rw [q3] at h; exact h
      · exact h.elim
end
end PyD
end
section
set_option linter.all false
set_option maxRecDepth 100000
set_option maxHeartbeats 4000000
namespace PyD
open PySem L2 PySem.Spec PyProof.Rows

/-! ### a law's end -/
def isIntV : Value → Bool
  | .int _ _ => true
  | _ => false
/-- no list of ints stands in the written part -/
def noIL (K : PySem.W.Frag) : Bool := K.all fun p => match p.2.cls, p.2.data with
  | .type c, .seq its _ => !(decide (c = "list") && its.toList.all isIntV)
  | _, _ => true
theorem ints_all : ∀ {vs : List Value} {ns : List Int}, IntsAre vs ns → vs.all isIntV = true
  | _, _, .nil => rfl
  | _, _, .cons n t h => by
    rw [List.all_cons, ints_all h]
    rfl
theorem lk_mem {a : Addr} {o : Obj} : ∀ {l : List (Addr × Obj)}, l.lookup a = some o → (a, o) ∈ l
  | [], h => by cases h
  | (b, u) :: r, h => by
    have z : (match a == b with | true => some u | false => r.lookup a) = some o := h
    cases q : (a == b) with
    | true =>
      rw [q] at z
      rw [beq_iff_eq.mp q, Option.some.inj z]
      exact List.mem_cons_self
    | false =>
      rw [q] at z
      exact List.mem_cons_of_mem _ (lk_mem z)
theorem noIL_ok {K : PySem.W.Frag} (h : noIL K = true) {a : Addr} {vs : List Value} {ns : List Int} {n : Nat} (hi : IntsAre vs ns) (o : Obj) (e : K.lookup a = some o) (ho : o = { cls := .type "list", data := .seq vs.toArray n }) : False := by
  have hm : (a, o) ∈ K := lk_mem e
  have q := List.all_eq_true.mp h _ hm
  subst ho
  have q2 : (!(decide (("list" : String) = "list") && vs.toArray.toList.all isIntV)) = true := q
  rw [ints_all (by simpa using hi)] at q2
  simp at q2
theorem vals_int : ∀ {vs : List Value} {ns : List Int}, IntsAre vs ns → Vals (ns.map V.int) vs
  | _, _, .nil => .nil
  | _, _, .cons n t h => .cons ⟨t, rfl⟩ (vals_int h)
theorem reps_int {cl : Cl} {F : Hp} : ∀ ns : List Int, RepL cl F (ns.map D.int) (ns.map V.int)
  | [] => .nil
  | _ :: ns => .cons .int (reps_int ns)
theorem end_call {P : Program} {w : World} {K : PySem.W.Frag} {cl : Cl} {mg mb : Str → Option Value} {k : Nat} {fa a : Addr} {fd : FuncData} {x : Str} {f : Fn} {s1 : Shared} {vs : List Value} {ns : List Int} {outs : List Sl}
    (KX : K.In s1.heap) (nl : noIL K = true) (hns : s1.heap.Ns mainGlobals mg) (hb : s1.heap.Ns builtinsNs mb) (hbb : ∀ x : Str, x ≠ "__name__" → mb x = bootBuiltins x) (hlim : s1.heap.NoLimit) (hg : s1.gens = #[])
    (ha : s1.heap.get? a = some { cls := .type "list", data := .seq vs.toArray }) (hi : IntsAre vs ns) (hl : ns.length ≤ sizeLine) (hr : Room k callerA)
    (G : ∀ base : Heap, K.In base → base.Ns mainGlobals mg → FnG P w K mg base k fa fd [x] (spF cl f 1)) (hbind : ∀ (s : Shared) (u : Value), BindsTo s fd ⟨[u], []⟩ [(x, u)])
    (hf : f [.im (.scr (ns.map D.int))] = .ok (.bl true) outs) :
    codeAny (model P w) callerA (.call (.ref fa) ⟨[.ref a], []⟩) (fun r s' => r = .ok (.ret (.bool true)) ∧ OldK s1.heap s'.heap ∧ s'.os = s1.os ∧ AllBare s'.gens) s1 := by
  have nK : K.lookup a = none := by
    cases e : K.lookup a with
    | none => rfl
    | some o =>
      have e2 := KX a o e
      rw [ha] at e2
      exact (noIL_ok nl hi o e (Option.some.inj e2).symm).elim
  obtain ⟨H, hH⟩ : ∃ H : Hp, H = fun b => if b = a then some (.frz { cls := .type "list", data := .seq vs.toArray } (.lst (ns.map V.int))) else none := ⟨_, rfl⟩
  have Ha : H a = some (.frz { cls := .type "list", data := .seq vs.toArray } (.lst (ns.map V.int))) := by rw [hH]; exact if_pos rfl
  have Hn : ∀ b, b ≠ a → H b = none := fun b hb => by rw [hH]; exact if_neg hb
  have Hd : ∀ {b : Addr} {o : Obj} {es : Array DictEntry} {ep : Nat}, s1.heap.get? b = some o → o.data = .dict es ep → H b = none := fun {b o es ep} e d => by
    refine Hn b fun z => ?_
    rw [z, ha] at e
    cases e
    cases d
  have nsK : ∀ {b : Addr} {m : Str → Option Value}, s1.heap.Ns b m → (hidT s1.heap H).Ns b m := fun {b m} ⟨o, es, ep, e, d, r⟩ => ⟨o, es, ep, hidT_get e (Hd e d), d, r⟩
  have KB : K.In (hidT s1.heap H) := fun b o e => hidT_get (KX b o e) (Hn b fun z => by rw [z, nK] at e; cases e)
  have ok : HOk P w H s1.heap := fun b u z => by
    by_cases hb : b = a
    · rw [hb, Ha] at z
      cases z
      rw [hb]
      exact ⟨ha, by rw [List.length_map]; exact hl, vs, _, vals_int hi, ha⟩
    · rw [Hn b hb] at z
      cases z
  have M : Mod K mg (hidT s1.heap H) := ⟨KB, nsK hns, ⟨mb, nsK hb, hbb⟩, let ⟨mc, h1, h2⟩ := hlim; ⟨mc, nsK h1, h2⟩⟩
  have e0 : Env0 P w K mg (hidT s1.heap H) callerA [] s1 H := ⟨rfl, M, fun b o e => of_hidT e, Nat.le_of_eq (hidT_size _ _), trivial, fun b z => (nomatch (show b ∈ ([] : List Addr) from z)), ok, .of_eq hg⟩
  have st : St0 cl [.im (.scr (ns.map D.int))] ([V.ref a].map some) H H := by
    refine ⟨fun b o z => .inl z, rfl, fun i t o h1 h2 => ?_, fun i j b c d e p h1 _ _ _ => ?_⟩
    · match i, h1, h2 with
      | 0, h1, h2 =>
        cases h1
        cases h2
        exact ⟨_, rfl, .scr Ha (reps_int ns)⟩
      | i + 1, h1, h2 => simp at h1
    · match i, h1 with
      | 0, h1 => cases h1
      | i + 1, h1 => simp at h1
  have sp : spF cl f 1 [V.ref a] H (fun v _ => v = .bl true) (fun _ _ _ => False) := ⟨rfl, _, H, st, rfl, by
    rw [hf]
    intro v F' H' _ _ r
    cases r
    rfl⟩
  refine codeAny_mono ((G _ KB (nsK hns)).run callerA [] s1 H ⟨[.ref a], []⟩ [.ref a] [.ref a] _ _ (by rfl) hr e0 (hbind s1 (.ref a)) (.cons rfl .nil) sp) fun r s' h => ?_
  cases r with
  | error e =>
    obtain ⟨_, _, _, _, _, _, _, _, _, _, _, _, z⟩ := (show L2.CX P w [] H s1 (fun _ _ _ => False) e s' from h)
    exact z.elim
  | ok fl =>
    cases fl with
    | next => exact False.elim h
    | brk => exact False.elim h
    | cont => exact False.elim h
    | ret u =>
      obtain ⟨v, H', os, bare, un, ok', rv, q⟩ := h
      have q : v = .bl true := q
      subst q
      obtain rfl : u = Value.bool true := rv
      refine ⟨rfl, OldK.of_keep fun b o e => ?_, os, bare⟩
      by_cases hb : b = a
      · subst hb
        have z := un.frzs b _ _ Ha
        obtain ⟨e1, _⟩ := ok b _ Ha
        obtain ⟨e2, _⟩ := ok' b _ z
        rw [e1] at e
        cases e
        exact e2
      · exact un.keep b o e (Hn b hb) (by intro z; exact nomatch (show b ∈ ([] : List Addr) from z)) (by simp)
/-- a law, by its mirror -/
theorem pyd_end {l : PySem.W.OpenLaw} {n k : Nat} {q : Program} {loose : List Str} {XP : (Str → Option Value) → Heap → Prop} {YP : World → Heap → Prop} {d : DefRec} {x : Str} {f : Fn}
    (hn : l.most = some n) (hn2 : n ≤ sizeLine) (hdf : d.params.defaults = []) (hr : Room k callerA) (hf : ∀ ns : List Int, ns.length ≤ n → ∃ outs, f [.im (.scr (ns.map D.int))] = .ok (.bl true) outs)
    (F : ∀ (w : World) (mg : Str → Option Value) (fa : Addr) (h : Heap), YP w h → h.Ns mainGlobals mg → mg d.name = some (.ref fa) →
      ∃ (K : PySem.W.Frag) (fd : FuncData) (cl : Cl), K.In h ∧ noIL K = true ∧ (∀ (s : Shared) (u : Value), BindsTo s fd ⟨[u], []⟩ [(x, u)]) ∧ ∀ base : Heap, K.In base → base.Ns mainGlobals mg → FnG l.prog w K mg base k fa fd [x] (spF cl f 1)) :
    PySem.W.WalkO q loose XP YP l.row.toRowW d [] (fun f vs => PySem.call f vs) := by
  refine Att.attach_call hn hdf fun w s₀ s₁ mg mb fa o pm cd doc a vs ns G Y ho hd hcd hmg hobj hints hlen hg => ?_
  obtain ⟨K, fd, cl, KX, nl, hb, hG⟩ := F w mg fa _ Y G.T.g hmg
  obtain ⟨outs, hq⟩ := hf ns hlen
  exact end_call KX nl G.T.g G.T.b G.T.builtins G.T.nolimit hg hobj hints (Nat.le_trans hlen hn2) hr hG hb hq
end PyD
end
section
set_option linter.all false
set_option maxRecDepth 100000
set_option maxHeartbeats 4000000
namespace PyD
open PySem L2 PySem.Spec PyProof.Rows

/-! ### what every piece of code is walked with -/
structure Cn (X : Cx) (W : WX) (k : Nat) : Prop where
  tk : Takes X W
  gd : Gd X
  hr : Room k X.A
  hp : PassesOwn (model X.prog X.w) X.A X.env X.xe
  hc : X.calm = true
  hN : X.N.Nodup
  hs : X.stack = X.env :: X.outer
  hf : X.env.frame = some X.env.locals
  hex : X.ex = []
/-- .. a block's -/
structure Cb (X : Cx) (k : Nat) : Prop where
  gd : Gd X
  hr : Room k X.A
  hc : X.calm = true
  hN : X.N.Nodup
theorem Cn.cb {X : Cx} {W : WX} {k : Nat} (c : Cn X W k) : Cb X k := ⟨c.gd, c.hr, c.hc, c.hN⟩
theorem Cb.blk {X : Cx} {k : Nat} (c : Cb X k) (s : Shared) (H : Hp) (sc : Scope) (env : Env) (fp : List Addr) : Cb (X.blk s H sc env fp) k := ⟨c.gd, c.hr, c.hc, c.hN⟩
theorem cn_def {P : Program} {w : World} {K : PySem.W.Frag} {mg : Str → Option Value} {base : Heap} {N : List Str} {qn : Str} {sc : Scope} {f : Addr} {cdv : Value} {A : Around} {outer : List Env} {s : Shared} {H : Hp} {E : XK} {k : Nat} (hd : A.handled = none ∨ True) (gd : A.guards = some []) (hr : Room k (A.deeper (envOfC qn sc s.heap.objs.size f cdv))) (hN : N.Nodup) :
    Cn (cxOf (L2.CX P w) P w K mg base N qn sc f cdv A outer s H E) (fun c d _ H => E c d H) k :=
  ⟨takes_of rfl rfl rfl rfl, gd, hr, passes_of rfl, rfl, hN, rfl, rfl, rfl⟩
theorem Cn.try_ {X : Cx} {W W' : WX} {k : Nat} (c : Cn X W k) {pn : List (Addr × Obj)} {xe : Value → Shared → Prop} (tk : Takes (X.tr pn xe) W') (hp : PassesOwn (model X.prog X.w) X.A X.env xe) : Cn (X.tr pn xe) W' k :=
  ⟨tk, c.gd, c.hr, hp, c.hc, c.hN, c.hs, c.hf, c.hex⟩

section
variable {cl : Cl} {X : Cx} {W : WX} {e : Expr} {c ca : M D} {pos : Pos} {i : Nat} {x : Str}
theorem nv (hi : X.N[i]? = some x := by rfl) (hv : Vis X.env.scope x := by first | exact .inl rfl | exact .inr (.inl rfl) | exact .inr (.inr rfl)) (hd : (x == ("__debug__" : Str)) = false := by decide) (hcd : (x == ("__classdict__" : Str)) = false := by decide) : PE X (.Name x pos) (tVar i) := pe_var hi hv hd hcd
theorem PI.or {tg : Expr} {w w' : TI} (h : PI X tg e w) (k : PI X tg e w') : PI X tg e (fun σ H R => w σ H R ∨ w' σ H R) := ⟨fun pins s σ H R I q => q.elim (h.run pins s σ H R I) (k.run pins s σ H R I)⟩
theorem si_seq {tg : Expr} (h : SE cl X W e ca) : SI cl X W tg e (cItems seqOf ca) := PI.imp (PI.or (si_list (tg := tg) h) (si_tup (tg := tg) h)) fun σ H R ⟨ρ, F, s, f⟩ => by
  unfold cItems M.bind at f
  have key : ∀ (g : D → Option (List D)) (d : D) (r : Rho), ca ρ = .ok d r → seqOf d = g d → Fol cl (fun _ F _ ds J => ItD cl J ds F) W (cItems g ca ρ) ρ σ F H R := fun g d r q e => by
    rw [q] at f
    unfold cItems M.bind
    rw [q]
    dsimp only at f ⊢
    rw [← e]
    exact f
  cases q : ca ρ with
  | exc k d r =>
    rw [q] at f
    refine .inl ⟨ρ, F, s, ?_⟩
    unfold cItems M.bind
    rw [q]
    exact f
  | stuck => rw [q] at f; exact f.elim
  | ok d r =>
    cases d with
    | tup xs => exact .inr ⟨ρ, F, s, key itemsT _ r q rfl⟩
    | lst xs => exact .inl ⟨ρ, F, s, key itemsL _ r q rfl⟩
    | scr xs => exact .inl ⟨ρ, F, s, key itemsL _ r q rfl⟩
    | _ => rw [q] at f; exact f.elim
end
end PyD
end
section
set_option linter.all false
set_option maxRecDepth 100000
set_option maxHeartbeats 4000000
namespace PyD
open PySem L2 PySem.Spec PyProof.Rows

/-! ### facts of the written part, by Bools -/
def eqOV (a : Option Value) (b : Value) : Bool := decide (a = some b)
def oexB (K : PySem.W.Frag) (C : Addr) : Bool := match K.lookup C with
  | some ⟨.type t, _, .cls cd, sl⟩ => decide (t = "type") && (cd.hasDict && (!cd.hasDel && ((match cd.mro with
    | .ref c :: bm => decide (c = C) && PySem.HandSPX.refsVE bm
    | _ => false) && (match sl.toList with
    | [_, _, _, _, some (.builtin n), _] => decide (n = "ValueError.__new__")
    | _ => false))))
  | _ => false
theorem oexB_ok {K : PySem.W.Frag} {C : Addr} (h : oexB K C = true) : ∃ nm q N bs bm sn sub ab col dd k0 k1 k2 k3 k5, K.lookup C = some (excClassObj nm q C N bs bm true sn sub ab col dd k0 k1 k2 k3 k5 "ValueError.__new__") ∧ PySem.HandSPX.refsVE bm = true := by
  unfold oexB at h
  split at h
  · rename_i t dd cd sl ho
    simp only [Bool.and_eq_true, decide_eq_true_eq, Bool.not_eq_true'] at h
    obtain ⟨rfl, h2, h3, h4, h5⟩ := h
    split at h4
    · rename_i c bm hm
      simp only [Bool.and_eq_true, decide_eq_true_eq] at h4
      obtain ⟨rfl, h6⟩ := h4
      split at h5
      · rename_i k0 k1 k2 k3 n k5 hs
        obtain rfl := of_decide_eq_true h5
        obtain ⟨nm, bs, mro, ns, qn, hd, sn, sub, ab, col, del⟩ := cd
        dsimp only at hm h2 h3
        subst hm h2 h3
        have hsl : sl = #[k0, k1, k2, k3, some (.builtin "ValueError.__new__"), k5] := by
          obtain ⟨l⟩ := sl
          simp only at hs
          rw [hs]
        subst hsl
        exact ⟨nm, qn, ns, bs, bm, sn, sub, ab, col, dd, k0, k1, k2, k3, k5, ho, h6⟩
      · cases h5
    · cases h4
  · cases h
/-- the root class, its __init__ -/
abbrev rootC (K : PySem.W.Frag) : Addr := He.ga K "PairError"
abbrev rootI (K : PySem.W.Frag) : Addr := He.ma K (rootC K) "__init__"
def excX (K : PySem.W.Frag) (C : Addr) : Bool :=
  oexB K C && (decide (PySem.W.findIn K (.ref C) "__setattr__" = some (some (.builtin "object.__setattr__"))) && (decide (PySem.W.subIn K (.ref C) (.type "BaseException") = some true) && (decide (PySem.W.typeIn K (.ref C) = some (.type "type")) && (PySem.W.keepIn K (.ref C) &&
  (decide (PySem.W.findIn K (.ref C) "__init__" = some (some (.ref (rootI K)))) && (decide (PySem.W.findIn K (.ref C) "value" = some none) && (decide (PySem.W.ks_superIn K C (rootC K) "__init__" = some (some (.builtin "ValueError.__init__"))) &&
  (decide (PySem.W.mroIn K C (.ref (rootC K)) = some true) && (decide (PySem.W.subIn K (.ref C) (.type "ValueError") = some true) && (decide (PySem.W.findIn K (.ref C) "__getattribute__" = some (some (.builtin "BaseException.__getattribute__"))) && ((PySem.W.findIn K (.ref C) "__getattr__").isSome &&
  (PySem.W.hasDictIn K C && ((PySem.W.clsIn K C).isSome && (decide (PySem.W.findIn K (.ref C) "__class__" = some (some (.builtin "object.__class__"))) && (decide (PySem.W.specialIn K (.builtin "object.__class__") "__get__" = some (some (.builtin "getset_descriptor.__get__"))) &&
  (decide (PySem.W.takesIn K (.builtin "object.__class__") = some true) && decide (PySem.W.mroIn K C (.type "object") = some true)))))))))))))))))
theorem excX_ok {K : PySem.W.Frag} {C : Addr} (h : excX K C = true) : ExC K (rootI K) (rootC K) C := by
  unfold excX at h
  simp only [Bool.and_eq_true, decide_eq_true_eq] at h
  obtain ⟨h1, h2, h3, h4, h5, h6, h7, h8, h9, h10, h11, h12, h13, h14, h15, h16, h17, h18⟩ := h
  exact ⟨⟨oexB_ok h1, h2, h3, h4, h5⟩, h6, h7, h8, h9, h10, h11, Option.isSome_iff_exists.mp h12, h3, h13, h14, h15, h16, h17, h18⟩
/-- what is observed of the root's __init__ -/
abbrev FnI : Type := Option (Arguments × FuncBody × Scope × Addr × List Str × Addr)
def iniObs (K : PySem.W.Frag) : FnI := match K.lookup (rootI K) with
  | some ⟨_, _, .func fd, _⟩ => some (fd.params, fd.body, fd.scope, fd.globals, fd.closure.map (·.1), fd.builtins)
  | _ => none
def iniVal (st : Stmt) : FnI := some (defArgs st, .stmts (defBody st), defScope st, mainGlobals, ["__class__"], builtinsNs)
def iniX (K : PySem.W.Frag) (file : Str) : Bool :=
  (match K.lookup (rootI K) with
  | some ⟨_, _, .func fd, _⟩ => (match fd.defaults with
    | .none => true
    | _ => false) && ((match fd.code with
    | .ref c => PySem.W.codeIn K (.ref c) fd.qualname && (match K.lookup c with
      | some ⟨_, _, .fields vs, _⟩ => (match (vs[2]? : Option Value) with
        | some (.str fl _) => (file : Str) == fl
        | _ => false)
      | _ => false)
    | _ => false) && (match fd.closure with
    | [p] => (match K.lookup p.2 with
      | some ⟨_, _, .cell (some (.ref D)), _⟩ => decide (D = rootC K)
      | _ => false)
    | _ => false))
  | _ => false) && (PySem.W.keepIn K (.ref (rootI K)) && (decide (PySem.W.typeIn K (.ref (rootI K)) = some (.type "function")) && (decide (PySem.W.nsIn K cStatics "thirdparty.any" = some none) && (PySem.W.clsIn K (rootC K)).isSome)))
/-- the text of the root's __init__ -/
def IniT (st : Stmt) : Prop := ∃ (p0 p1 p2 p3 p4 p5 q0 q1 q2 q3 a0 a1 : Pos), defArgs st = iniArgs a0 a1 ∧ defBody st = iniBody p0 p1 p2 p3 p4 p5 q0 q1 q2 q3 ∧ defScope st = iniScope ∧ (p2.endLine == p4.line) = true
theorem iniX_ok {P : Program} {K : PySem.W.Frag} {st : Stmt} (e : iniObs K = iniVal st) (ht : IniT st) (h : iniX K P.main.file = true) (top : (P.main.scope.names.lookup ("super" : Str)).isSome = false) : ∃ fd, IniB P K (rootI K) (rootC K) fd := by
  obtain ⟨p0, p1, p2, p3, p4, p5, q0, q1, q2, q3, a0, a1, t1, t2, t3, t4⟩ := ht
  unfold iniX at h
  obtain ⟨h1, h⟩ := Bool.and_eq_true_iff.mp h
  obtain ⟨h2, h⟩ := Bool.and_eq_true_iff.mp h
  obtain ⟨h3, h⟩ := Bool.and_eq_true_iff.mp h
  obtain ⟨h4, h5⟩ := Bool.and_eq_true_iff.mp h
  unfold iniObs iniVal at e
  rw [t1, t2, t3] at e
  cases q : K.lookup (rootI K) with
  | none => rw [q] at e; cases e
  | some o =>
    obtain ⟨oc, od, dt, sl⟩ := o
    cases dt with
    | func fd =>
      rw [q] at e h1
      dsimp only at e h1
      obtain ⟨n1, n2, n3, n4, n5, n6, n7, n8, n9, n10, n11, n12, n13, n14, n15⟩ := fd
      dsimp only at e h1
      simp only [Option.some.injEq, Prod.mk.injEq] at e
      obtain ⟨rfl, rfl, rfl, rfl, e5, rfl⟩ := e
      obtain ⟨h6, h7⟩ := Bool.and_eq_true_iff.mp h1
      obtain ⟨h8, h9⟩ := Bool.and_eq_true_iff.mp h7
      cases n8 with
      | none =>
        match n13, h8 with
        | .ref cda, h8 =>
          dsimp only at h8
          obtain ⟨k1, k2⟩ := Bool.and_eq_true_iff.mp h8
          match n7, e5, h9 with
          | [(nm, cc)], e5, h9 =>
            have e6 : nm = "__class__" := (List.cons.inj e5).1
            subst e6
            dsimp only at h9
            refine ⟨_, ⟨n1, n2, oc, od, n9, n10, n11, n14, n12, sl, cda, cc, p0, p1, p2, p3, p4, p5, q0, q1, q2, q3, a0, a1, rfl, q, k1, ?_, ?_, t4⟩, Option.isSome_iff_exists.mp h5, top, h2, of_decide_eq_true h3, of_decide_eq_true h4⟩
            · split at k2
              · rename_i c1 c2 vs c3 hl
                split at k2
                · rename_i fl tf hv
                  exact ⟨c1, c2, vs, c3, fl, tf, hl, hv, k2⟩
                · cases k2
              · cases k2
            · split at h9
              · rename_i c1 c2 D c3 hl
                have e7 : D = rootC K := of_decide_eq_true h9
                exact ⟨c1, c2, c3, by rw [hl, e7]⟩
              · cases h9
      | _ => cases h6
    | _ => rw [q] at e; cases e
/-! ### isinstance -/
def tabC (exs ins : List Str) (c : Str) (root : Bool) : Kd → Option Bool
  | .exc e => if exs.contains e = true then some (root || decide (e = c)) else none
  | .ins e => if ins.contains e = true then some (decide (e = c)) else none
  | _ => some false
def tabT (exs ins : List Str) (T : Kd) : Kd → Option Bool
  | .exc e => if exs.contains e = true then some false else none
  | .ins e => if ins.contains e = true then some false else none
  | .bl => some (decide (T = .bl ∨ T = .int))
  | k => some (decide (k = T))
def insX (K : PySem.W.Frag) (C : Addr) : Bool :=
  PySem.W.plainGet K C Str.empty && (PySem.W.hasDictIn K C && (PySem.W.plainOver K C && (decide (PySem.W.findIn K (.ref C) "__setattr__" = some (some (.builtin "object.__setattr__"))) && (decide (PySem.W.findIn K (.ref C) "__class__" = some (some (.builtin "object.__class__"))) &&
  (decide (PySem.W.specialIn K (.builtin "object.__class__") "__get__" = some (some (.builtin "getset_descriptor.__get__"))) && (decide (PySem.W.takesIn K (.builtin "object.__class__") = some true) && decide (PySem.W.mroIn K C (.type "object") = some true)))))))
theorem insX_ok {K : PySem.W.Frag} {C : Addr} (h : insX K C = true) : InsI K C := by
  unfold insX at h
  simp only [Bool.and_eq_true, decide_eq_true_eq] at h
  obtain ⟨h1, h2, h3, h4, h5, h6, h7, h8⟩ := h
  exact ⟨⟨h1, h2, h3, h4⟩, h5, h6, h7, h8⟩
def kds (exs ins : List Str) : List Kd := [.non, .bl, .int, .str, .tup, .lst, .dic] ++ (exs.map .exc ++ ins.map .ins)
def isiX (K : PySem.W.Frag) (exs ins : List Str) (tab : Kd → Option Bool) (u : Value) : Bool := (kds exs ins).all fun k => match tab k with
  | some b => decide (PySem.W.kitOne K (kdV (He.ga K) k) u = some b)
  | none => true
def tabIn (exs ins : List Str) (tab : Kd → Option Bool) : Prop := ∀ k b, tab k = some b → k ∈ kds exs ins
theorem tabC_in {exs ins : List Str} {c : Str} {r : Bool} : tabIn exs ins (tabC exs ins c r) := fun k b h => by
  unfold kds
  cases k with
  | exc e =>
    unfold tabC at h
    dsimp only at h
    split at h
    · rename_i z
      exact List.mem_append_right _ (List.mem_append_left _ (List.mem_map.mpr ⟨e, List.contains_iff_mem.mp z, rfl⟩))
    · cases h
  | ins e =>
    unfold tabC at h
    dsimp only at h
    split at h
    · rename_i z
      exact List.mem_append_right _ (List.mem_append_right _ (List.mem_map.mpr ⟨e, List.contains_iff_mem.mp z, rfl⟩))
    · cases h
  | _ => exact List.mem_append_left _ (by simp)
theorem tabT_in {exs ins : List Str} {T : Kd} : tabIn exs ins (tabT exs ins T) := fun k b h => by
  unfold kds
  cases k with
  | exc e =>
    unfold tabT at h
    dsimp only at h
    split at h
    · rename_i z
      exact List.mem_append_right _ (List.mem_append_left _ (List.mem_map.mpr ⟨e, List.contains_iff_mem.mp z, rfl⟩))
    · cases h
  | ins e =>
    unfold tabT at h
    dsimp only at h
    split at h
    · rename_i z
      exact List.mem_append_right _ (List.mem_append_right _ (List.mem_map.mpr ⟨e, List.contains_iff_mem.mp z, rfl⟩))
    · cases h
  | _ => exact List.mem_append_left _ (by simp)
theorem isiX_ok {K : PySem.W.Frag} {exs ins : List Str} {tab : Kd → Option Bool} {u : Value} (h : isiX K exs ins tab u = true) (ht : tabIn exs ins tab) (he : ∀ e, e ∈ exs → ExC K (rootI K) (rootC K) (He.ga K e)) (hi : ∀ e, e ∈ ins → InsI K (He.ga K e)) : IsiOk K (He.ga K) tab u := fun k b z => by
  have hm := ht k b z
  refine ⟨?_, ?_⟩
  · have q := List.all_eq_true.mp h k hm
    rw [z] at q
    exact of_decide_eq_true q
  · unfold kds at hm
    rcases List.mem_append.mp hm with hm | hm
    · cases k with
      | exc e => simp at hm
      | ins e => simp at hm
      | _ => exact True.intro
    · rcases List.mem_append.mp hm with hm | hm
      · obtain ⟨e, h1, rfl⟩ := List.mem_map.mp hm
        exact (he e h1).isi
      · obtain ⟨e, h1, rfl⟩ := List.mem_map.mp hm
        exact hi e h1
/-! ### the Hook -/
def frP (g : Addr → Option Obj) (n : Nat) : PySem.W.Frag := He.frG g (sysModules :: cStatics :: He.asD g n)
abbrev AlP : Type := He.AlD × (Bool × FnI)
def obsP (n : Nat) (fa : List He.Fa) (fn : List He.DefD) (ex : PySem.W.Frag → Bool) (g : Addr → Option Obj) : AlP := (He.obsD fa fn (frP g n), (ex (frP g n) && (noIL (frP g n) && ((frP g n).lookup sysModules).isSome), iniObs (frP g n)))
def valP (fn : List He.DefD) (st : Stmt) : AlP := (He.valD fn, (true, iniVal st))
structure SaysP (fa : List He.Fa) (fn : List He.DefD) (ex : PySem.W.Frag → Bool) (st : Stmt) (K : PySem.W.Frag) : Prop where
  d : He.SaysD fa fn K
  more : ex K = true
  nil : noIL K = true
  sm : ∃ o, K.lookup sysModules = some o
  ini : iniObs K = iniVal st
theorem saysP_of {n : Nat} {fa : List He.Fa} {fn : List He.DefD} {ex : PySem.W.Frag → Bool} {st : Stmt} {g : Addr → Option Obj} (e : obsP n fa fn ex g = valP fn st) : SaysP fa fn ex st (frP g n) := by
  have e1 : He.obsD fa fn (frP g n) = He.valD fn := congrArg (fun z : AlP => z.1) e
  have e2 : (ex (frP g n) && (noIL (frP g n) && ((frP g n).lookup sysModules).isSome)) = true := congrArg (fun z : AlP => z.2.1) e
  have e3 : iniObs (frP g n) = iniVal st := congrArg (fun z : AlP => z.2.2) e
  obtain ⟨h1, h2⟩ := Bool.and_eq_true_iff.mp e2
  obtain ⟨h3, h4⟩ := Bool.and_eq_true_iff.mp h2
  exact ⟨e1, h1, h3, Option.isSome_iff_exists.mp h4, e3⟩
def hookP (n : Nat) (fa : List He.Fa) (fn : List He.DefD) (ex : PySem.W.Frag → Bool) (st : Stmt) : PySem.W.Hook where
  α := AlP
  obs := fun s => obsP n fa fn ex s.heap.get?
  val := fun _ => valP fn st
  says := fun _ h => ∃ K : PySem.W.Frag, K.In h ∧ SaysP fa fn ex st K
  of := fun _ _ e => ⟨_, He.frG_in, saysP_of e⟩
  keeps := fun _ _ _ ⟨K, hK, c⟩ k => ⟨K, PySem.W.Frag.In.keeps hK k, c⟩
theorem obsP_eq {n : Nat} {fa : List He.Fa} {fn : List He.DefD} {ex : PySem.W.Frag → Bool} {st : Stmt} {g : Addr → Option Obj} {s : Shared} (h : ∀ a, g a = s.heap.get? a) : obsP n fa fn ex g = (hookP n fa fn ex st).obs s := by
  have e : g = s.heap.get? := funext h
  rw [e] <;> rfl
end PyD
end
section
set_option linter.all false
set_option maxRecDepth 100000
set_option maxHeartbeats 4000000
namespace PyD
open PySem L2

/-! ### mirrors, run -/
section
variable {α β : Type} {r r1 : Rho} {x d y z : D} {k : Str} {c c1 c2 : M D} {cb : M Bool} {cl : M (List D)} {s s1 s2 : MS} {i j : Nat}
@[simp] theorem r_ret {x : α} : M.ret x r = .ok x r := rfl
@[simp] theorem r_some {x : α} : M.opt (some x) r = .ok x r := rfl
@[simp] theorem r_none : M.opt (none : Option α) r = .stuck := rfl
theorem r_bind {c : M α} {f : α → M β} {x : α} (h : c r = .ok x r1) : (c.bind f) r = f x r1 := by unfold M.bind; rw [h]
theorem r_lift {c : M α} {f : α → MS} {x : α} (h : c r = .ok x r1) : liftS c f r = f x r1 := by unfold liftS; rw [h]
theorem r_im (h : r[i]? = some (.im d)) : cVar i r = .ok d r := by unfold cVar; rw [h]
theorem r_ow (h : r[i]? = some (.ow false d)) : cVar i r = .ok d (r.set i (.im d)) := by unfold cVar; rw [h]
theorem r_peekI (h : r[i]? = some (.im d)) : cPeek i r = .ok d r := by unfold cPeek; rw [h]
theorem r_peekO {b : Bool} (h : r[i]? = some (.ow b d)) : cPeek i r = .ok d r := by unfold cPeek; rw [h]
end
/-- a comprehension whose turns leave the slots as they were -/
theorem compL_map {vs : List Nat} {gt : D → Rho → Option Rho} {ct : M Bool} {ce : M D} {r : Rho} {g : D → D} : ∀ (ds acc : List D), (∀ d, d ∈ ds → ∃ r1 r2, gt d r = some r1 ∧ ct r1 = .ok true r1 ∧ ce r1 = .ok (g d) r2 ∧ wipeR r2 vs = r) → acc.length + ds.length ≤ sizeLine →
    compL vs gt ct ce ds acc r = .ok (acc ++ ds.map g) r
  | [], acc, _, _ => by simp [compL]
  | d :: ds, acc, h, hl => by
    obtain ⟨r1, r2, e1, e2, e3, e4⟩ := h d List.mem_cons_self
    have hl2 : acc.length + (ds.length + 1) ≤ sizeLine := hl
    unfold compL
    rw [e1]
    dsimp only
    rw [e2]
    dsimp only
    rw [e3]
    dsimp only
    rw [if_pos (by omega), e4, compL_map ds (acc ++ [g d]) (fun x hx => h x (List.mem_cons_of_mem _ hx)) (by rw [List.length_append]; simp; omega)]
    simp
theorem boolsOf_map : ∀ bs : List Bool, boolsOf (bs.map D.bl) = some bs
  | [] => rfl
  | b :: bs => by
    rw [List.map_cons, boolsOf, boolsOf_map bs]
    rfl
theorem dAll_true {xs : List D} (h : ∀ x, x ∈ xs → x = .bl true) : dAll [.lst xs] = some (.bl true) := by
  have e : xs = (xs.map fun _ => true).map D.bl := by
    rw [List.map_map]
    conv => lhs; rw [← List.map_id xs]
    exact List.map_congr_left fun x hx => h x hx
  unfold dAll
  dsimp only
  rw [e, boolsOf_map]
  simp
theorem reprD_str {d z : D} (h : reprD d = some z) : ∃ s, z = .str s := by
  unfold reprD at h
  obtain ⟨p, _, h⟩ := Option.bind_eq_some_iff.mp h
  split at h
  · exact ⟨_, (Option.some.inj h).symm⟩
  · cases h
theorem reprD_of {d : D} (h : (reprD d).isSome = true) : ∃ s, reprD d = some (.str s) := by
  obtain ⟨z, e⟩ := Option.isSome_iff_exists.mp h
  obtain ⟨s, rfl⟩ := reprD_str e
  exact ⟨s, e⟩
theorem putBack_last {r : Rho} {s : Sl} {outs : List Sl} : (putBack (r ++ [s]) [.io r.length] outs).take r.length = r := by
  cases outs with
  | nil => simp [putBack]
  | cons o os =>
    have nil : ∀ q : Rho, putBack q [] os = q := fun q => by cases os <;> rfl
    cases o with
    | un => simp [putBack, nil]
    | im _ => simp [putBack, nil]
    | ow b d =>
      cases b with
      | false => simp [putBack, nil]
      | true =>
        show (putBack (put1 (r ++ [s]) r.length d) [] os).take r.length = r
        rw [nil]
        unfold put1
        split
        · rw [List.set_append_right _ _ (Nat.le_refl _)]
          simp
        · simp
/-- f(g(..)), the new object handed on -/
theorem callN_ok {f : Fn} {c : M D} {r r1 : Rho} {d z : D} {outs : List Sl} (h : c r = .ok d r1) (hf : f [.ow true d] = .ok z outs) : cCallN f 1 c (M.ret []) r = .ok z r1 := by
  unfold cCallN M.bind
  rw [h]
  have e : (r1 ++ [Sl.ow false d])[r1.length]? = some (.ow false d) := by simp
  simp [M.ret, allSl, toSl, iosOf, noDup, e, hf]
  exact putBack_last
/-! ### steps -/
theorem r_op {f : D → D → Option D} {ca cb : M D} {r r1 r2 : Rho} {x y z : D} (h1 : ca r = .ok x r1) (h2 : cb r1 = .ok y r2) (h3 : f x y = some z) : cOp f ca cb r = .ok z r2 := by
  unfold cOp M.bind
  rw [h1]
  dsimp only
  rw [h2]
  dsimp only
  rw [h3]
  rfl
theorem r_call {f : List D → Option D} {k : M (List D)} {r r1 : Rho} {xs : List D} {z : D} (h1 : k r = .ok xs r1) (h3 : f xs = some z) : cCall f k r = .ok z r1 := by
  unfold cCall M.bind
  rw [h1]
  dsimp only
  rw [h3]
  rfl
theorem r_cons {c : M D} {k : M (List D)} {r r1 r2 : Rho} {x : D} {xs : List D} (h1 : c r = .ok x r1) (h2 : k r1 = .ok xs r2) : cCons c k r = .ok (x :: xs) r2 := by
  unfold cCons M.bind
  rw [h1]
  dsimp only
  rw [h2]
  rfl
theorem r_one {c : M D} {r r1 : Rho} {x : D} (h1 : c r = .ok x r1) : cCons c (M.ret []) r = .ok [x] r1 := r_cons h1 rfl
theorem r_seq {c k : MS} {r r1 : Rho} (h : c r = .nx r1) : cSeq c k r = k r1 := by unfold cSeq; rw [h]
theorem r_set {i : Nat} {c : M D} {r r1 : Rho} {d : D} (h : c r = .ok d r1) (hf : free i r1 = true) : cSet i c r = .nx (r1.set i (.im d)) := by
  unfold cSet cAsg liftS
  rw [h]
  dsimp only
  unfold gtName
  rw [if_pos hf]
theorem r_retv {c : M D} {r r1 : Rho} {d : D} (h : c r = .ok d r1) : cRet c r = .rt d r1 := by unfold cRet liftS; rw [h]
theorem r_retO {c : M D} {r r1 : Rho} {d : D} (h : c r = .ok d r1) : cRetO c r = .ro d r1 := by unfold cRetO liftS; rw [h]
theorem r_opt {α β : Type} {c : M α} {f : α → Option β} {r r1 : Rho} {x : α} {z : β} (h : c r = .ok x r1) (h2 : f x = some z) : (c.bind fun a => M.opt (f a)) r = .ok z r1 := by
  unfold M.bind
  rw [h]
  dsimp only
  rw [h2]
  rfl
theorem dPow_ok {i j : Int} (h : CPow i j ∨ CPowW i j) : dPow (.int i) (.int j) = some (.int (i ^ j.toNat)) := if_pos h
theorem dMul_ok {i j : Int} (h : CMulW i j) : dMul (.int i) (.int j) = some (.int (i * j)) := if_pos h
theorem dMod_ok {i j : Int} (h : 0 < j) : dMod (.int i) (.int j) = some (.int (i % j)) := if_pos h
theorem dFdv_ok {i j : Int} (h : CDivW i j) : dFdv (.int i) (.int j) = some (.int (i / j)) := if_pos h
end PyD
end
section
set_option linter.all false
set_option maxRecDepth 100000
set_option maxHeartbeats 4000000
namespace K00
open PySem L2 PyD PySem.Spec PyProof.Rows
abbrev pw : Program := PySem.Challenge.pw_factpairs_k00_errors_keep_their_value
def top (i : Nat) : Stmt := pw.main.body.getD i (.Pass ⟨0, 0, 0, 0⟩)
def exNames : List Str := ["PairError", "BadBook", "NoPerson", "BadChoice", "BadRow", "Round", "Full", "NoSaying", "OtherPeople", "BadLists", "BadPairs", "NoList", "OtherBook", "NotSure", "BadBound", "BadBarred", "BadSide", "NoneSure", "TooMany", "TooManyOpen", "BadOffers", "BadHopes", "BadPair", "Taken", "NotTogether", "NothingToUndo", "NothingToRedo", "NoTrial", "BadJournal", "BadLine"]
def insNames : List Str := []
def t_BadBarred : Kd → Option Bool := tabC exNames insNames "BadBarred" false
def t_BadBook : Kd → Option Bool := tabC exNames insNames "BadBook" false
def t_BadBound : Kd → Option Bool := tabC exNames insNames "BadBound" false
def t_BadChoice : Kd → Option Bool := tabC exNames insNames "BadChoice" false
def t_BadHopes : Kd → Option Bool := tabC exNames insNames "BadHopes" false
def t_BadJournal : Kd → Option Bool := tabC exNames insNames "BadJournal" false
def t_BadLine : Kd → Option Bool := tabC exNames insNames "BadLine" false
def t_BadLists : Kd → Option Bool := tabC exNames insNames "BadLists" false
def t_BadOffers : Kd → Option Bool := tabC exNames insNames "BadOffers" false
def t_BadPair : Kd → Option Bool := tabC exNames insNames "BadPair" false
def t_BadPairs : Kd → Option Bool := tabC exNames insNames "BadPairs" false
def t_BadRow : Kd → Option Bool := tabC exNames insNames "BadRow" false
def t_BadSide : Kd → Option Bool := tabC exNames insNames "BadSide" false
def t_Full : Kd → Option Bool := tabC exNames insNames "Full" false
def t_NoList : Kd → Option Bool := tabC exNames insNames "NoList" false
def t_NoPerson : Kd → Option Bool := tabC exNames insNames "NoPerson" false
def t_NoSaying : Kd → Option Bool := tabC exNames insNames "NoSaying" false
def t_NoTrial : Kd → Option Bool := tabC exNames insNames "NoTrial" false
def t_NoneSure : Kd → Option Bool := tabC exNames insNames "NoneSure" false
def t_NotSure : Kd → Option Bool := tabC exNames insNames "NotSure" false
def t_NotTogether : Kd → Option Bool := tabC exNames insNames "NotTogether" false
def t_NothingToRedo : Kd → Option Bool := tabC exNames insNames "NothingToRedo" false
def t_NothingToUndo : Kd → Option Bool := tabC exNames insNames "NothingToUndo" false
def t_OtherBook : Kd → Option Bool := tabC exNames insNames "OtherBook" false
def t_OtherPeople : Kd → Option Bool := tabC exNames insNames "OtherPeople" false
def t_PairError : Kd → Option Bool := tabC exNames insNames "PairError" true
def t_Round : Kd → Option Bool := tabC exNames insNames "Round" false
def t_Taken : Kd → Option Bool := tabC exNames insNames "Taken" false
def t_TooMany : Kd → Option Bool := tabC exNames insNames "TooMany" false
def t_TooManyOpen : Kd → Option Bool := tabC exNames insNames "TooManyOpen" false
def t_ValueError : Kd → Option Bool := tabC exNames insNames "ValueError" true
abbrev s__law_pot : Stmt := top 32
abbrev s__law_take : Stmt := top 33
abbrev s__law_of : Stmt := top 34
abbrev s__law_cells : Stmt := top 35
abbrev s__law_odd : Stmt := top 36
abbrev s__law_all_of : Stmt := top 37
abbrev s__law_kinds_of : Stmt := top 38
abbrev s__law_right : Stmt := top 39
abbrev s_law : Stmt := top 40
def m__law_pot : MS := (cSeq (cSet 2 (cIf (cB (cOp dLt (cVar 1) (cCall1 dLen (cPeek 0)))) (cIxv 0 dIx (cVar 1)) (cOp dAdd (cOp dMul (M.ret (.int 71)) (cPeek 1)) (M.ret (.int 31)))))
  (cSeq (cSet 3 (cOp dMul (cOp dMod (cCall dInt1 (cCons (cCall dAbs (cCons (cVar 2) (M.ret []))) (M.ret []))) (cOp dPow (cOp dPow (M.ret (.int 10)) (M.ret (.int 60))) (M.ret (.int 5)))) (cCall dInt1 (cCons (cOp dGe (cCall dAbs (cCons (cVar 2) (M.ret []))) (cOp dPow (M.ret (.int 10)) (M.ret (.int 18)))) (M.ret [])))))
  (cSeq (cSet 4 (cOp dMod (cCall dInt1 (cCons (cVar 2) (M.ret []))) (M.ret (.int 2305843009213693951))))
  (cRetO ((cCons (cVar 3) (cCons (cOp dMod (cCall dInt1 (cCons (cOp dAdd (cOp dAdd (cOp dMul (cVar 4) (M.ret (.int 70201))) (cOp dMul (cOp dMul (M.ret (.int 7283)) (cPeek 1)) (cPeek 1))) (M.ret (.int 149))) (M.ret []))) (M.ret (.int 2305843009213693921))) (cCons (M.ret (.int 0)) (M.ret [])))).bind fun xs => M.opt (lstOf xs))))))
def f__law_pot : Fn := runN 5 m__law_pot
def m__law_take : MS := (cSeq (cIfS (cB (cOp dGt (cIxv 0 dIx (M.ret (.int 0))) (M.ret (.int 0)))) (cSeq (cSet 2 (cOp dMod (cCall dInt1 (cCons (cIxv 0 dIx (M.ret (.int 0))) (M.ret []))) (cPeek 1)))
  (cSeq (cSetI 0 (M.ret (.int 0)) (cOp dFdv (cIxv 0 dIx (M.ret (.int 0))) (cPeek 1)))
  (cRet (cVar 2)))) cNext)
  (cSeq (cSetI 0 (M.ret (.int 2)) (cOp dAdd (cIxv 0 dIx (M.ret (.int 2))) (M.ret (.int 1))))
  (cSeq (cSet 3 (((cCons (M.ret (.int 2147483647)) (cCons (M.ret (.int 2147483629)) (cCons (M.ret (.int 2147483587)) (cCons (M.ret (.int 2147483579)) (cCons (M.ret (.int 2147483563)) (M.ret [])))))).bind fun xs => M.opt (lstOf xs)).bind fun x => (cOp dMod (cCall dInt1 (cCons (cIxv 0 dIx (M.ret (.int 2))) (M.ret []))) (M.ret (.int 5))).bind fun y => M.opt (dIx x y)))
  (cSeq (cSet 4 (cOp dMod (cCall dInt1 (cCons (cOp dPow (cCall dInt1 (cCons (cOp dAdd (cOp dAdd (cIxv 0 dIx (M.ret (.int 1))) (cOp dMul (cOp dMul (M.ret (.int 99601)) (cIxv 0 dIx (M.ret (.int 2)))) (cIxv 0 dIx (M.ret (.int 2))))) (M.ret (.int 53))) (M.ret []))) (M.ret (.int 3))) (M.ret []))) (cPeek 3)))
  (cSeq (cSet 4 (cOp dMod (cCall dInt1 (cCons (cOp dMul (cVar 4) (cOp dAdd (cOp dMod (cCall dInt1 (cCons (cVar 4) (M.ret []))) (M.ret (.int 10427))) (cOp dMul (M.ret (.int 101)) (cIxv 0 dIx (M.ret (.int 2)))))) (M.ret []))) (M.ret (.int 2305843009213693907))))
  (cRet (cOp dMod (cCall dInt1 (cCons (cOp dFdv (cVar 4) (M.ret (.int 141))) (M.ret []))) (cPeek 1))))))))
def f__law_take : Fn := runF 5 m__law_take
def m__law_of : MS := (cRet (cIxv 1 dIx (cCallF f__law_take 2 (used 0 (cArg (cCall1 dLen (cPeek 1)) (M.ret []))))))
def f__law_of : Fn := runF 2 m__law_of
def m__law_cells : MS := (cRet ((cCall dMax2 (cCons (M.ret (.int 1)) (cCons (cCall dMin2 (cCons (cVar 1) (cCons (cCall1 dLen (cPeek 0)) (M.ret [])))) (M.ret [])))).bind fun d => M.opt (lRg2 (.int 0) d)))
def f__law_cells : Fn := runF 2 m__law_cells
def m__law_odd : MS := (cSeq (cSet 1 ((cCons (M.ret .non) (cCons (M.ret (.bl true)) (cCons (M.ret (.bl false)) (cCons (M.ret (.int 0)) (cCons (M.ret (.int 1)) (cCons ((M.ret (.int 1)).bind fun d => M.opt (dNeg d)) (cCons (cOp dPow (M.ret (.int 10)) (M.ret (.int 8))) (cCons (M.ret (.str "")) (cCons (M.ret (.str "a")) (cCons (M.ret (.str "nobody")) (cCons (M.ret (.str "ones")) (cCons ((M.ret []).bind fun xs => M.opt (tupOf xs)) (cCons ((M.ret []).bind fun xs => M.opt (lstOf xs)) (cCons (M.ret (.dk [])) (cCons ((cCons ((M.ret []).bind fun xs => M.opt (tupOf xs)) (M.ret [])).bind fun xs => M.opt (tupOf xs)) (cCons ((cCons (M.ret (.int 0)) (M.ret [])).bind fun xs => M.opt (tupOf xs)) (cCons ((cCons (M.ret (.str "")) (M.ret [])).bind fun xs => M.opt (tupOf xs)) (cCons ((cCons (M.ret (.int 0)) (M.ret [])).bind fun xs => M.opt (lstOf xs)) (M.ret []))))))))))))))))))).bind fun xs => M.opt (lstOf xs)))
  (cRet (cCallF f__law_of 2 (used 0 (cArg (cOp dAdd (cVar 1) ((cCons ((cCons (M.ret (.str "a")) (cCons (M.ret (.str "b")) (M.ret []))).bind fun xs => M.opt (tupOf xs)) (cCons ((cCons (M.ret (.str "a")) (cCons (M.ret (.str "")) (cCons (M.ret (.str "b")) (M.ret [])))).bind fun xs => M.opt (tupOf xs)) (cCons ((cCons ((cCons (M.ret (.str "a")) (cCons (M.ret (.str "b")) (M.ret []))).bind fun xs => M.opt (tupOf xs)) (M.ret [])).bind fun xs => M.opt (tupOf xs)) (cCons ((cCons (M.ret (.str "sure")) (M.ret [])).bind fun xs => M.opt (tupOf xs)) (cCons (M.ret (.str "pairs")) (M.ret [])))))).bind fun xs => M.opt (lstOf xs))) (M.ret []))))))
def f__law_odd : Fn := runF 2 m__law_odd
def m__law_all_of : MS := (cSeq (cSetO 1 ((cCons (cMkx "BadBook" (cCons (cVar 0) (M.ret []))) (cCons (cMkx "NoPerson" (cCons (cVar 0) (M.ret []))) (cCons (cMkx "BadChoice" (cCons (cVar 0) (M.ret []))) (cCons (cMkx "BadRow" (cCons (cVar 0) (M.ret []))) (cCons (cMkx "Round" (cCons (cVar 0) (M.ret []))) (cCons (cMkx "Full" (cCons (cVar 0) (M.ret []))) (cCons (cMkx "NoSaying" (cCons (cVar 0) (M.ret []))) (M.ret [])))))))).bind fun xs => M.opt (lstOf xs)))
  (cSeq (cDrop (cMut 1 extL ((cCons (cMkx "OtherPeople" (cCons (cVar 0) (M.ret []))) (cCons (cMkx "BadLists" (cCons (cVar 0) (M.ret []))) (cCons (cMkx "BadPairs" (cCons (cVar 0) (M.ret []))) (cCons (cMkx "NoList" (cCons (cVar 0) (M.ret []))) (cCons (cMkx "OtherBook" (cCons (cVar 0) (M.ret []))) (cCons (cMkx "NotSure" (cCons (cVar 0) (M.ret []))) (M.ret []))))))).bind fun xs => M.opt (lstOf xs))))
  (cSeq (cDrop (cMut 1 extL ((cCons (cMkx "BadBound" (cCons (cVar 0) (M.ret []))) (cCons (cMkx "BadBarred" (cCons (cVar 0) (M.ret []))) (cCons (cMkx "BadSide" (cCons (cVar 0) (M.ret []))) (cCons (cMkx "NoneSure" (cCons (cVar 0) (M.ret []))) (cCons (cMkx "TooMany" (cCons (cVar 0) (M.ret []))) (cCons (cMkx "TooManyOpen" (cCons (cVar 0) (M.ret []))) (M.ret []))))))).bind fun xs => M.opt (lstOf xs))))
  (cSeq (cDrop (cMut 1 extL ((cCons (cMkx "BadOffers" (cCons (cVar 0) (M.ret []))) (cCons (cMkx "BadHopes" (cCons (cVar 0) (M.ret []))) (cCons (cMkx "BadPair" (cCons (cVar 0) (M.ret []))) (cCons (cMkx "Taken" (cCons (cVar 0) (M.ret []))) (cCons (cMkx "NotTogether" (cCons (cVar 0) (M.ret []))) (cCons (cMkx "NothingToUndo" (cCons (cVar 0) (M.ret []))) (M.ret []))))))).bind fun xs => M.opt (lstOf xs))))
  (cSeq (cDrop (cMut 1 extL ((cCons (cMkx "NothingToRedo" (cCons (cVar 0) (M.ret []))) (cCons (cMkx "NoTrial" (cCons (cVar 0) (M.ret []))) (cCons (cMkx "BadJournal" (cCons (cVar 0) (M.ret []))) (cCons (cMkx "BadLine" (cCons (cVar 0) (M.ret []))) (M.ret []))))).bind fun xs => M.opt (lstOf xs))))
  (cRet (cVar 1)))))))
def f__law_all_of : Fn := runF 2 m__law_all_of
def m__law_kinds_of : MS := (cSeq (cSetO 1 ((cCons ((cVar 0).bind fun d => M.opt (isiD (t_BadBook) d)) (cCons ((cVar 0).bind fun d => M.opt (isiD (t_NoPerson) d)) (cCons ((cVar 0).bind fun d => M.opt (isiD (t_BadChoice) d)) (M.ret [])))).bind fun xs => M.opt (lstOf xs)))
  (cSeq (cDrop (cMut 1 extL ((cCons ((cVar 0).bind fun d => M.opt (isiD (t_BadRow) d)) (cCons ((cVar 0).bind fun d => M.opt (isiD (t_Round) d)) (cCons ((cVar 0).bind fun d => M.opt (isiD (t_Full) d)) (M.ret [])))).bind fun xs => M.opt (lstOf xs))))
  (cSeq (cDrop (cMut 1 extL ((cCons ((cVar 0).bind fun d => M.opt (isiD (t_NoSaying) d)) (cCons ((cVar 0).bind fun d => M.opt (isiD (t_OtherPeople) d)) (cCons ((cVar 0).bind fun d => M.opt (isiD (t_BadLists) d)) (M.ret [])))).bind fun xs => M.opt (lstOf xs))))
  (cSeq (cDrop (cMut 1 extL ((cCons ((cVar 0).bind fun d => M.opt (isiD (t_BadPairs) d)) (cCons ((cVar 0).bind fun d => M.opt (isiD (t_NoList) d)) (cCons ((cVar 0).bind fun d => M.opt (isiD (t_OtherBook) d)) (M.ret [])))).bind fun xs => M.opt (lstOf xs))))
  (cSeq (cDrop (cMut 1 extL ((cCons ((cVar 0).bind fun d => M.opt (isiD (t_NotSure) d)) (cCons ((cVar 0).bind fun d => M.opt (isiD (t_BadBound) d)) (cCons ((cVar 0).bind fun d => M.opt (isiD (t_BadBarred) d)) (M.ret [])))).bind fun xs => M.opt (lstOf xs))))
  (cSeq (cDrop (cMut 1 extL ((cCons ((cVar 0).bind fun d => M.opt (isiD (t_BadSide) d)) (cCons ((cVar 0).bind fun d => M.opt (isiD (t_NoneSure) d)) (cCons ((cVar 0).bind fun d => M.opt (isiD (t_TooMany) d)) (M.ret [])))).bind fun xs => M.opt (lstOf xs))))
  (cSeq (cDrop (cMut 1 extL ((cCons ((cVar 0).bind fun d => M.opt (isiD (t_TooManyOpen) d)) (cCons ((cVar 0).bind fun d => M.opt (isiD (t_BadOffers) d)) (cCons ((cVar 0).bind fun d => M.opt (isiD (t_BadHopes) d)) (M.ret [])))).bind fun xs => M.opt (lstOf xs))))
  (cSeq (cDrop (cMut 1 extL ((cCons ((cVar 0).bind fun d => M.opt (isiD (t_BadPair) d)) (cCons ((cVar 0).bind fun d => M.opt (isiD (t_Taken) d)) (cCons ((cVar 0).bind fun d => M.opt (isiD (t_NotTogether) d)) (M.ret [])))).bind fun xs => M.opt (lstOf xs))))
  (cSeq (cDrop (cMut 1 extL ((cCons ((cVar 0).bind fun d => M.opt (isiD (t_NothingToUndo) d)) (cCons ((cVar 0).bind fun d => M.opt (isiD (t_NothingToRedo) d)) (cCons ((cVar 0).bind fun d => M.opt (isiD (t_NoTrial) d)) (M.ret [])))).bind fun xs => M.opt (lstOf xs))))
  (cRet (cOp dAdd (cVar 1) ((cCons ((cVar 0).bind fun d => M.opt (isiD (t_BadJournal) d)) (cCons ((cVar 0).bind fun d => M.opt (isiD (t_BadLine) d)) (M.ret []))).bind fun xs => M.opt (lstOf xs)))))))))))))
def f__law_kinds_of : Fn := runF 2 m__law_kinds_of
def h__law_right_0 : M D := (cAndV (cOp dEq (((cVar 5).bind fun d => M.opt (valOf exNames d)).bind fun d => M.opt (reprD d)) ((cVar 2).bind fun d => M.opt (reprD d))) ((cVar 5).bind fun d => M.opt (isiD (t_ValueError) d)))
def h__law_right_1 : M D := (cOp dEq (cVar 6) (cPeek 4))
def h__law_right_2 : MS := (cIfS (cOr (cB (cOp dNe (cCallF f__law_kinds_of 1 (cArg (cVar 5) (M.ret []))) (cLc [6] (cRng rng1 (cCons (cCall1 dLen (cPeek 3)) (M.ret []))) (gtName 6) (M.ret true) h__law_right_1))) (cNot (cB ((cVar 5).bind fun d => M.opt (isiD (t_PairError) d))))) (cRet (M.ret (.bl false))) cNext)
def h__law_right_3 : MS := (cSeq (cSet 3 (cCallF f__law_all_of 1 (cArg (cVar 2) (M.ret []))))
  (cSeq (cIfS (cNot (cB (cCall dAll (cCons (cLc [5] (cItems seqOf (cVar 3)) (gtName 5) (M.ret true) h__law_right_0) (M.ret []))))) (cRet (M.ret (.bl false))) cNext)
  (cFor ((cVar 3).bind fun d => M.opt ((listOf d).map enumD)) (gtTup 2 (gtCons (gtName 4) (gtCons (gtName 5) gtNil))) h__law_right_2)))
def m__law_right : MS := (cSeq (cSet 1 ((cCons (cCallF f__law_odd 1 (used 0 (M.ret []))) (cCons ((cCons (cCallF f__law_odd 1 (used 0 (M.ret []))) (cCons ((cCons (cCallF f__law_odd 1 (used 0 (M.ret []))) (M.ret [])).bind fun xs => M.opt (lstOf xs)) (M.ret []))).bind fun xs => M.opt (tupOf xs)) (cCons ((cPairs (((M.ret (.str "a")), (cCallF f__law_odd 1 (used 0 (M.ret [])))) :: [])).bind fun ps => M.opt (dispOf ps)) (M.ret [])))).bind fun xs => M.opt (lstOf xs)))
  (cSeq (cFor (cItems seqOf (cVar 1)) (gtName 2) h__law_right_3)
  (cRet (cAndV (cOp dEq (((cMkx "PairError" (cCons (cIxv 1 dIx (M.ret (.int 0))) (M.ret []))).bind fun d => M.opt (valOf exNames d)).bind fun d => M.opt (reprD d)) ((cIxv 1 dIx (M.ret (.int 0))).bind fun d => M.opt (reprD d))) (cNotV (cCall dAny (cCons (cCallF f__law_kinds_of 1 (cArg (cMkx "PairError" (cCons (M.ret (.int 0)) (M.ret []))) (M.ret []))) (M.ret []))))))))
def f__law_right : Fn := runF 7 m__law_right
def h_law_0 : M D := (cCallN f__law_right 1 (cCallF f__law_pot 2 (cArg (cVar 0) (cArg (cVar 1) (M.ret [])))) (M.ret []))
def m_law : MS := (cRet (cCall dAll (cCons (cLc [1] (cItems seqOf (cCallF f__law_cells 2 (cArg (cVar 0) (cArg (M.ret (.int 3)) (M.ret []))))) (gtName 1) (M.ret true) h_law_0) (M.ret []))))
def f_law : Fn := runF 2 m_law
structure Fx (P : Program) (K : PySem.W.Frag) (mg : Str → Option Value) : Prop where
  exc : ∀ k, k ∈ exNames → ExC K (rootI K) (rootC K) (He.ga K k)
  ini : ∃ fd, IniB P K (rootI K) (rootC K) fd
  sm : ∃ o, K.lookup sysModules = some o
  n_super : mg "super" = none
  g_PairError : mg "PairError" = some (.ref (He.ga K "PairError"))
  g_BadBook : mg "BadBook" = some (.ref (He.ga K "BadBook"))
  g_NoPerson : mg "NoPerson" = some (.ref (He.ga K "NoPerson"))
  g_BadChoice : mg "BadChoice" = some (.ref (He.ga K "BadChoice"))
  g_BadRow : mg "BadRow" = some (.ref (He.ga K "BadRow"))
  g_Round : mg "Round" = some (.ref (He.ga K "Round"))
  g_Full : mg "Full" = some (.ref (He.ga K "Full"))
  g_NoSaying : mg "NoSaying" = some (.ref (He.ga K "NoSaying"))
  g_OtherPeople : mg "OtherPeople" = some (.ref (He.ga K "OtherPeople"))
  g_BadLists : mg "BadLists" = some (.ref (He.ga K "BadLists"))
  g_BadPairs : mg "BadPairs" = some (.ref (He.ga K "BadPairs"))
  g_NoList : mg "NoList" = some (.ref (He.ga K "NoList"))
  g_OtherBook : mg "OtherBook" = some (.ref (He.ga K "OtherBook"))
  g_NotSure : mg "NotSure" = some (.ref (He.ga K "NotSure"))
  g_BadBound : mg "BadBound" = some (.ref (He.ga K "BadBound"))
  g_BadBarred : mg "BadBarred" = some (.ref (He.ga K "BadBarred"))
  g_BadSide : mg "BadSide" = some (.ref (He.ga K "BadSide"))
  g_NoneSure : mg "NoneSure" = some (.ref (He.ga K "NoneSure"))
  g_TooMany : mg "TooMany" = some (.ref (He.ga K "TooMany"))
  g_TooManyOpen : mg "TooManyOpen" = some (.ref (He.ga K "TooManyOpen"))
  g_BadOffers : mg "BadOffers" = some (.ref (He.ga K "BadOffers"))
  g_BadHopes : mg "BadHopes" = some (.ref (He.ga K "BadHopes"))
  g_BadPair : mg "BadPair" = some (.ref (He.ga K "BadPair"))
  g_Taken : mg "Taken" = some (.ref (He.ga K "Taken"))
  g_NotTogether : mg "NotTogether" = some (.ref (He.ga K "NotTogether"))
  g_NothingToUndo : mg "NothingToUndo" = some (.ref (He.ga K "NothingToUndo"))
  g_NothingToRedo : mg "NothingToRedo" = some (.ref (He.ga K "NothingToRedo"))
  g_NoTrial : mg "NoTrial" = some (.ref (He.ga K "NoTrial"))
  g_BadJournal : mg "BadJournal" = some (.ref (He.ga K "BadJournal"))
  g_BadLine : mg "BadLine" = some (.ref (He.ga K "BadLine"))
  g__law_pot : mg "_law_pot" = some (.ref (He.ga K "_law_pot"))
  d__law_pot : ∃ fd, FunD K "_law_pot" "_law_pot" (defArgs s__law_pot) (defBody s__law_pot) (defScope s__law_pot) [] [] (He.ga K "_law_pot") fd
  g__law_take : mg "_law_take" = some (.ref (He.ga K "_law_take"))
  d__law_take : ∃ fd, FunD K "_law_take" "_law_take" (defArgs s__law_take) (defBody s__law_take) (defScope s__law_take) [] [] (He.ga K "_law_take") fd
  g__law_of : mg "_law_of" = some (.ref (He.ga K "_law_of"))
  d__law_of : ∃ fd, FunD K "_law_of" "_law_of" (defArgs s__law_of) (defBody s__law_of) (defScope s__law_of) [] [] (He.ga K "_law_of") fd
  g__law_cells : mg "_law_cells" = some (.ref (He.ga K "_law_cells"))
  d__law_cells : ∃ fd, FunD K "_law_cells" "_law_cells" (defArgs s__law_cells) (defBody s__law_cells) (defScope s__law_cells) [] [] (He.ga K "_law_cells") fd
  g__law_odd : mg "_law_odd" = some (.ref (He.ga K "_law_odd"))
  d__law_odd : ∃ fd, FunD K "_law_odd" "_law_odd" (defArgs s__law_odd) (defBody s__law_odd) (defScope s__law_odd) [] [] (He.ga K "_law_odd") fd
  g__law_all_of : mg "_law_all_of" = some (.ref (He.ga K "_law_all_of"))
  d__law_all_of : ∃ fd, FunD K "_law_all_of" "_law_all_of" (defArgs s__law_all_of) (defBody s__law_all_of) (defScope s__law_all_of) [] [] (He.ga K "_law_all_of") fd
  g__law_kinds_of : mg "_law_kinds_of" = some (.ref (He.ga K "_law_kinds_of"))
  d__law_kinds_of : ∃ fd, FunD K "_law_kinds_of" "_law_kinds_of" (defArgs s__law_kinds_of) (defBody s__law_kinds_of) (defScope s__law_kinds_of) [] [] (He.ga K "_law_kinds_of") fd
  g__law_right : mg "_law_right" = some (.ref (He.ga K "_law_right"))
  d__law_right : ∃ fd, FunD K "_law_right" "_law_right" (defArgs s__law_right) (defBody s__law_right) (defScope s__law_right) [] [] (He.ga K "_law_right") fd
  g_law : mg "law" = some (.ref (He.ga K "law"))
  d_law : ∃ fd, FunD K "law" "law" (defArgs s_law) (defBody s_law) (defScope s_law) [] [] (He.ga K "law") fd
  n_ValueError : mg "ValueError" = none
  n_abs : mg "abs" = none
  n_all : mg "all" = none
  n_any : mg "any" = none
  n_enumerate : mg "enumerate" = none
  n_int : mg "int" = none
  n_isinstance : mg "isinstance" = none
  n_len : mg "len" = none
  n_list : mg "list" = none
  n_max : mg "max" = none
  n_min : mg "min" = none
  n_range : mg "range" = none
  n_repr : mg "repr" = none
  i_BadBarred : IsiOk K (He.ga K) t_BadBarred (.ref (He.ga K "BadBarred"))
  i_BadBook : IsiOk K (He.ga K) t_BadBook (.ref (He.ga K "BadBook"))
  i_BadBound : IsiOk K (He.ga K) t_BadBound (.ref (He.ga K "BadBound"))
  i_BadChoice : IsiOk K (He.ga K) t_BadChoice (.ref (He.ga K "BadChoice"))
  i_BadHopes : IsiOk K (He.ga K) t_BadHopes (.ref (He.ga K "BadHopes"))
  i_BadJournal : IsiOk K (He.ga K) t_BadJournal (.ref (He.ga K "BadJournal"))
  i_BadLine : IsiOk K (He.ga K) t_BadLine (.ref (He.ga K "BadLine"))
  i_BadLists : IsiOk K (He.ga K) t_BadLists (.ref (He.ga K "BadLists"))
  i_BadOffers : IsiOk K (He.ga K) t_BadOffers (.ref (He.ga K "BadOffers"))
  i_BadPair : IsiOk K (He.ga K) t_BadPair (.ref (He.ga K "BadPair"))
  i_BadPairs : IsiOk K (He.ga K) t_BadPairs (.ref (He.ga K "BadPairs"))
  i_BadRow : IsiOk K (He.ga K) t_BadRow (.ref (He.ga K "BadRow"))
  i_BadSide : IsiOk K (He.ga K) t_BadSide (.ref (He.ga K "BadSide"))
  i_Full : IsiOk K (He.ga K) t_Full (.ref (He.ga K "Full"))
  i_NoList : IsiOk K (He.ga K) t_NoList (.ref (He.ga K "NoList"))
  i_NoPerson : IsiOk K (He.ga K) t_NoPerson (.ref (He.ga K "NoPerson"))
  i_NoSaying : IsiOk K (He.ga K) t_NoSaying (.ref (He.ga K "NoSaying"))
  i_NoTrial : IsiOk K (He.ga K) t_NoTrial (.ref (He.ga K "NoTrial"))
  i_NoneSure : IsiOk K (He.ga K) t_NoneSure (.ref (He.ga K "NoneSure"))
  i_NotSure : IsiOk K (He.ga K) t_NotSure (.ref (He.ga K "NotSure"))
  i_NotTogether : IsiOk K (He.ga K) t_NotTogether (.ref (He.ga K "NotTogether"))
  i_NothingToRedo : IsiOk K (He.ga K) t_NothingToRedo (.ref (He.ga K "NothingToRedo"))
  i_NothingToUndo : IsiOk K (He.ga K) t_NothingToUndo (.ref (He.ga K "NothingToUndo"))
  i_OtherBook : IsiOk K (He.ga K) t_OtherBook (.ref (He.ga K "OtherBook"))
  i_OtherPeople : IsiOk K (He.ga K) t_OtherPeople (.ref (He.ga K "OtherPeople"))
  i_PairError : IsiOk K (He.ga K) t_PairError (.ref (He.ga K "PairError"))
  i_Round : IsiOk K (He.ga K) t_Round (.ref (He.ga K "Round"))
  i_Taken : IsiOk K (He.ga K) t_Taken (.ref (He.ga K "Taken"))
  i_TooMany : IsiOk K (He.ga K) t_TooMany (.ref (He.ga K "TooMany"))
  i_TooManyOpen : IsiOk K (He.ga K) t_TooManyOpen (.ref (He.ga K "TooManyOpen"))
  i_ValueError : IsiOk K (He.ga K) t_ValueError (.type "ValueError")
section
variable {w : World} {K : PySem.W.Frag} {mg : Str → Option Value} {base : Heap}
theorem sc__law_pot : FnScope ["_law_script", "_law_place", "_law_cell", "_law_own", "_law_small"] ["_law_script", "_law_place"] (defScope s__law_pot) := ⟨rfl, rfl, rfl, by decide +kernel, rfl, by decide +kernel, by decide +kernel⟩
theorem b__law_pot {fd : FuncData} (F : FunD K "_law_pot" "_law_pot" (defArgs s__law_pot) (defBody s__law_pot) (defScope s__law_pot) [] [] (He.ga K "_law_pot") fd) : Binds K fd ["_law_script", "_law_place"] [] := F.bindsN fun _ _ _ _ _ _ us hl => match us, hl with | [_, _], _ => rfl
theorem ok__law_pot (fx : Fx pw K mg) {fd : FuncData} (F : FunD K "_law_pot" "_law_pot" (defArgs s__law_pot) (defBody s__law_pot) (defScope s__law_pot) [] [] (He.ga K "_law_pot") fd) : FnG pw w K mg base 1 (He.ga K "_law_pot") fd ["_law_script", "_law_place"] (spN (He.ga K) f__law_pot 2) := by
  refine fngN_ok (N := ["_law_script", "_law_place", "_law_cell", "_law_own", "_law_small"]) F sc__law_pot (by decide) fun cdv A outer s H E gd hr => ?_
  have C := cn_def (P := pw) (w := w) (K := K) (mg := mg) (base := base) (outer := outer) (H := H) (E := E) (.inr True.intro) gd hr sc__law_pot.nd
  exact (ss_cons (ss_set (i := 2) C.hN (by rfl) (by first | exact .inl rfl | exact .inr rfl) (se_if (st_cmp op_ltD od_lt (se_var (i := 1) nv) (SE.sp (se_cb1 call_len cd_len (by rfl) fx.n_len (by rfl) (sp_var (i := 0) nv))) (by rfl)) (se_ixv (i := 0) nv (se_var (i := 1) nv)) (se_bin op_addD od_add (se_bin op_mulD od_mul se_int (sp_var (i := 1) nv)) (SE.sp se_int))))
    (ss_cons (ss_set (i := 3) C.hN (by rfl) (by first | exact .inl rfl | exact .inr rfl) (se_bin op_mulD od_mul (se_bin op_mod od_mod (se_ct call_int1 cd_int1 (by rfl) fx.n_int (by rfl) (sl_cons (se_cb call_abs cd_abs (by rfl) fx.n_abs (by rfl) (sl_cons (se_var (i := 2) nv) sl_nil)) sl_nil)) (SE.sp (se_bin op_powD od_pow (se_bin op_powD od_pow se_int (SE.sp se_int)) (SE.sp se_int)))) (SE.sp (se_ct call_int1 cd_int1 (by rfl) fx.n_int (by rfl) (sl_cons (se_cmp op_ge od_ge (se_cb call_abs cd_abs (by rfl) fx.n_abs (by rfl) (sl_cons (se_var (i := 2) nv) sl_nil)) (SE.sp (se_bin op_powD od_pow se_int (SE.sp se_int))) (by rfl)) sl_nil)))))
    (ss_cons (ss_set (i := 4) C.hN (by rfl) (by first | exact .inl rfl | exact .inr rfl) (se_bin op_mod od_mod (se_ct call_int1 cd_int1 (by rfl) fx.n_int (by rfl) (sl_cons (se_var (i := 2) nv) sl_nil)) (SE.sp se_int)))
    (ss_one (ss_retO (sf_lst (sl_cons (se_var (i := 3) nv) (sl_cons (se_bin op_mod od_mod (se_ct call_int1 cd_int1 (by rfl) fx.n_int (by rfl) (sl_cons (se_bin op_addD od_add (se_bin op_addD od_add (se_bin op_mulD od_mul (se_var (i := 4) nv) (SE.sp se_int)) (SE.sp (se_bin op_mulD od_mul (se_bin op_mulD od_mul se_int (sp_var (i := 1) nv)) (sp_var (i := 1) nv)))) (SE.sp se_int)) sl_nil)) (SE.sp se_int)) (sl_cons se_int sl_nil)))))))))
theorem sc__law_take : FnScope ["_law_pot_here", "_law_upto", "_law_digit", "_law_prime", "_law_mixed"] ["_law_pot_here", "_law_upto"] (defScope s__law_take) := ⟨rfl, rfl, rfl, by decide +kernel, rfl, by decide +kernel, by decide +kernel⟩
theorem b__law_take {fd : FuncData} (F : FunD K "_law_take" "_law_take" (defArgs s__law_take) (defBody s__law_take) (defScope s__law_take) [] [] (He.ga K "_law_take") fd) : Binds K fd ["_law_pot_here", "_law_upto"] [] := F.bindsN fun _ _ _ _ _ _ us hl => match us, hl with | [_, _], _ => rfl
theorem ok__law_take (fx : Fx pw K mg) {fd : FuncData} (F : FunD K "_law_take" "_law_take" (defArgs s__law_take) (defBody s__law_take) (defScope s__law_take) [] [] (He.ga K "_law_take") fd) : FnG pw w K mg base 1 (He.ga K "_law_take") fd ["_law_pot_here", "_law_upto"] (spF (He.ga K) f__law_take 2) := by
  refine fng_ok (N := ["_law_pot_here", "_law_upto", "_law_digit", "_law_prime", "_law_mixed"]) F sc__law_take (by decide) fun cdv A outer s H E gd hr => ?_
  have C := cn_def (P := pw) (w := w) (K := K) (mg := mg) (base := base) (outer := outer) (H := H) (E := E) (.inr True.intro) gd hr sc__law_take.nd
  exact (ss_cons (ss_if (st_cmp op_gt od_gt (se_ixv (i := 0) nv se_int) (SE.sp se_int) (by rfl)) (ss_cons (ss_set (i := 2) C.hN (by rfl) (by first | exact .inl rfl | exact .inr rfl) (se_bin op_mod od_mod (se_ct call_int1 cd_int1 (by rfl) fx.n_int (by rfl) (sl_cons (se_ixv (i := 0) nv se_int) sl_nil)) (sp_var (i := 1) nv)))
    (ss_cons (ss_setI (i := 0) nv se_int (se_bin op_fdivW od_fdv (se_ixv (i := 0) nv se_int) (sp_var (i := 1) nv)))
    (ss_one (ss_ret (se_var (i := 2) nv))))) ss_nil)
    (ss_cons (ss_setI (i := 0) nv se_int (se_bin op_addD od_add (se_ixv (i := 0) nv se_int) (SE.sp se_int)))
    (ss_cons (ss_set (i := 3) C.hN (by rfl) (by first | exact .inl rfl | exact .inr rfl) (se_ix (se_lst (sl_cons se_int (sl_cons se_int (sl_cons se_int (sl_cons se_int (sl_cons se_int sl_nil)))))) (se_bin op_mod od_mod (se_ct call_int1 cd_int1 (by rfl) fx.n_int (by rfl) (sl_cons (se_ixv (i := 0) nv se_int) sl_nil)) (SE.sp se_int))))
    (ss_cons (ss_set (i := 4) C.hN (by rfl) (by first | exact .inl rfl | exact .inr rfl) (se_bin op_mod od_mod (se_ct call_int1 cd_int1 (by rfl) fx.n_int (by rfl) (sl_cons (se_bin op_powD od_pow (se_ct call_int1 cd_int1 (by rfl) fx.n_int (by rfl) (sl_cons (se_bin op_addD od_add (se_bin op_addD od_add (se_ixv (i := 0) nv se_int) (SE.sp (se_bin op_mulD od_mul (se_bin op_mulD od_mul se_int (SE.sp (se_ixv (i := 0) nv se_int))) (SE.sp (se_ixv (i := 0) nv se_int))))) (SE.sp se_int)) sl_nil)) (SE.sp se_int)) sl_nil)) (sp_var (i := 3) nv)))
    (ss_cons (ss_set (i := 4) C.hN (by rfl) (by first | exact .inl rfl | exact .inr rfl) (se_bin op_mod od_mod (se_ct call_int1 cd_int1 (by rfl) fx.n_int (by rfl) (sl_cons (se_bin op_mulD od_mul (se_var (i := 4) nv) (SE.sp (se_bin op_addD od_add (se_bin op_mod od_mod (se_ct call_int1 cd_int1 (by rfl) fx.n_int (by rfl) (sl_cons (se_var (i := 4) nv) sl_nil)) (SE.sp se_int)) (SE.sp (se_bin op_mulD od_mul se_int (SE.sp (se_ixv (i := 0) nv se_int))))))) sl_nil)) (SE.sp se_int)))
    (ss_one (ss_ret (se_bin op_mod od_mod (se_ct call_int1 cd_int1 (by rfl) fx.n_int (by rfl) (sl_cons (se_bin op_fdivW od_fdv (se_var (i := 4) nv) (SE.sp se_int)) sl_nil)) (sp_var (i := 1) nv)))))))))
theorem sc__law_of : FnScope ["_law_pot_here", "_law_some"] ["_law_pot_here", "_law_some"] (defScope s__law_of) := ⟨rfl, rfl, rfl, by decide +kernel, rfl, by decide +kernel, by decide +kernel⟩
theorem b__law_of {fd : FuncData} (F : FunD K "_law_of" "_law_of" (defArgs s__law_of) (defBody s__law_of) (defScope s__law_of) [] [] (He.ga K "_law_of") fd) : Binds K fd ["_law_pot_here", "_law_some"] [] := F.bindsN fun _ _ _ _ _ _ us hl => match us, hl with | [_, _], _ => rfl
theorem ok__law_of (fx : Fx pw K mg) {fd : FuncData} (F : FunD K "_law_of" "_law_of" (defArgs s__law_of) (defBody s__law_of) (defScope s__law_of) [] [] (He.ga K "_law_of") fd) : FnG pw w K mg base 2 (He.ga K "_law_of") fd ["_law_pot_here", "_law_some"] (spF (He.ga K) f__law_of 2) := by
  obtain ⟨fd__law_take, F__law_take⟩ := fx.d__law_take
  have G__law_take := ok__law_take (w := w) (base := base) fx F__law_take
  have B__law_take := b__law_take F__law_take
  refine fng_ok (N := ["_law_pot_here", "_law_some"]) F sc__law_of (by decide) fun cdv A outer s H E gd hr => ?_
  have C := cn_def (P := pw) (w := w) (K := K) (mg := mg) (base := base) (outer := outer) (H := H) (E := E) (.inr True.intro) gd hr sc__law_of.nd
  exact (ss_one (ss_ret (se_ixv (i := 1) nv (se_callG C.tk C.gd G__law_take (C.hr.mono (by decide)) (by rfl) fx.g__law_take F__law_take.kp B__law_take (sa_io (i := 0) nv (sa_v (se_cb1 call_len cd_len (by rfl) fx.n_len (by rfl) (sp_var (i := 1) nv)) sa_nil))))))
theorem sc__law_cells : FnScope ["_law_script", "_law_limit"] ["_law_script", "_law_limit"] (defScope s__law_cells) := ⟨rfl, rfl, rfl, by decide +kernel, rfl, by decide +kernel, by decide +kernel⟩
theorem b__law_cells {fd : FuncData} (F : FunD K "_law_cells" "_law_cells" (defArgs s__law_cells) (defBody s__law_cells) (defScope s__law_cells) [] [] (He.ga K "_law_cells") fd) : Binds K fd ["_law_script", "_law_limit"] [] := F.bindsN fun _ _ _ _ _ _ us hl => match us, hl with | [_, _], _ => rfl
theorem ok__law_cells (fx : Fx pw K mg) {fd : FuncData} (F : FunD K "_law_cells" "_law_cells" (defArgs s__law_cells) (defBody s__law_cells) (defScope s__law_cells) [] [] (He.ga K "_law_cells") fd) : FnG pw w K mg base 1 (He.ga K "_law_cells") fd ["_law_script", "_law_limit"] (spF (He.ga K) f__law_cells 2) := by
  refine fng_ok (N := ["_law_script", "_law_limit"]) F sc__law_cells (by decide) fun cdv A outer s H E gd hr => ?_
  have C := cn_def (P := pw) (w := w) (K := K) (mg := mg) (base := base) (outer := outer) (H := H) (E := E) (.inr True.intro) gd hr sc__law_cells.nd
  exact (ss_one (ss_ret (se_listRg1 C.hc (by rfl) fx.n_list (by rfl) fx.n_range (se_cb (call_max2 C.hc) cd_max2 (by rfl) fx.n_max (by rfl) (sl_cons se_int (sl_cons (se_cb (call_min2 C.hc) cd_min2 (by rfl) fx.n_min (by rfl) (sl_cons (se_var (i := 1) nv) (sl_cons (se_cb1 call_len cd_len (by rfl) fx.n_len (by rfl) (sp_var (i := 0) nv)) sl_nil))) sl_nil))))))
theorem sc__law_odd : FnScope ["_law_pot_here", "_law_some"] ["_law_pot_here"] (defScope s__law_odd) := ⟨rfl, rfl, rfl, by decide +kernel, rfl, by decide +kernel, by decide +kernel⟩
theorem b__law_odd {fd : FuncData} (F : FunD K "_law_odd" "_law_odd" (defArgs s__law_odd) (defBody s__law_odd) (defScope s__law_odd) [] [] (He.ga K "_law_odd") fd) : Binds K fd ["_law_pot_here"] [] := F.bindsN fun _ _ _ _ _ _ us hl => match us, hl with | [_], _ => rfl
theorem ok__law_odd (fx : Fx pw K mg) {fd : FuncData} (F : FunD K "_law_odd" "_law_odd" (defArgs s__law_odd) (defBody s__law_odd) (defScope s__law_odd) [] [] (He.ga K "_law_odd") fd) : FnG pw w K mg base 3 (He.ga K "_law_odd") fd ["_law_pot_here"] (spF (He.ga K) f__law_odd 1) := by
  obtain ⟨fd__law_of, F__law_of⟩ := fx.d__law_of
  have G__law_of := ok__law_of (w := w) (base := base) fx F__law_of
  have B__law_of := b__law_of F__law_of
  refine fng_ok (N := ["_law_pot_here", "_law_some"]) F sc__law_odd (by decide) fun cdv A outer s H E gd hr => ?_
  have C := cn_def (P := pw) (w := w) (K := K) (mg := mg) (base := base) (outer := outer) (H := H) (E := E) (.inr True.intro) gd hr sc__law_odd.nd
  exact (ss_cons (ss_set (i := 1) C.hN (by rfl) (by first | exact .inl rfl | exact .inr rfl) (se_lst (sl_cons se_non (sl_cons se_bl (sl_cons se_bl (sl_cons se_int (sl_cons se_int (sl_cons (se_neg se_int) (sl_cons (se_bin op_powD od_pow se_int (SE.sp se_int)) (sl_cons se_str (sl_cons se_str (sl_cons se_str (sl_cons se_str (sl_cons (se_tup sl_nil) (sl_cons (se_lst sl_nil) (sl_cons (SF.se (sf_dnewK)) (sl_cons (se_tup (sl_cons (se_tup sl_nil) sl_nil)) (sl_cons (se_tup (sl_cons se_int sl_nil)) (sl_cons (se_tup (sl_cons se_str sl_nil)) (sl_cons (se_lst (sl_cons se_int sl_nil)) sl_nil))))))))))))))))))))
    (ss_one (ss_ret (se_callG C.tk C.gd G__law_of (C.hr.mono (by decide)) (by rfl) fx.g__law_of F__law_of.kp B__law_of (sa_io (i := 0) nv (sa_v (se_bin op_addD od_add (se_var (i := 1) nv) (SE.sp (se_lst (sl_cons (se_tup (sl_cons se_str (sl_cons se_str sl_nil))) (sl_cons (se_tup (sl_cons se_str (sl_cons se_str (sl_cons se_str sl_nil)))) (sl_cons (se_tup (sl_cons (se_tup (sl_cons se_str (sl_cons se_str sl_nil))) sl_nil)) (sl_cons (se_tup (sl_cons se_str sl_nil)) (sl_cons se_str sl_nil)))))))) sa_nil))))))
theorem sc__law_all_of : FnScope ["_law_one", "_law_found"] ["_law_one"] (defScope s__law_all_of) := ⟨rfl, rfl, rfl, by decide +kernel, rfl, by decide +kernel, by decide +kernel⟩
theorem b__law_all_of {fd : FuncData} (F : FunD K "_law_all_of" "_law_all_of" (defArgs s__law_all_of) (defBody s__law_all_of) (defScope s__law_all_of) [] [] (He.ga K "_law_all_of") fd) : Binds K fd ["_law_one"] [] := F.bindsN fun _ _ _ _ _ _ us hl => match us, hl with | [_], _ => rfl
theorem ok__law_all_of (fx : Fx pw K mg) {fd : FuncData} (F : FunD K "_law_all_of" "_law_all_of" (defArgs s__law_all_of) (defBody s__law_all_of) (defScope s__law_all_of) [] [] (He.ga K "_law_all_of") fd) : FnG pw w K mg base 3 (He.ga K "_law_all_of") fd ["_law_one"] (spF (He.ga K) f__law_all_of 1) := by
  refine fng_ok (N := ["_law_one", "_law_found"]) F sc__law_all_of (by decide) fun cdv A outer s H E gd hr => ?_
  have C := cn_def (P := pw) (w := w) (K := K) (mg := mg) (base := base) (outer := outer) (H := H) (E := E) (.inr True.intro) gd hr sc__law_all_of.nd
  exact (ss_cons (ss_setO (i := 1) C.hN (by rfl) (by first | exact .inl rfl | exact .inr rfl) (sf_lst (sl_cons (se_mkx fx.ini.choose_spec fx.n_super (fx.exc "BadBook" (by decide)) (C.hr.mono (j := 2) (by decide)) (by rfl) fx.g_BadBook (sl_cons (se_var (i := 0) nv) sl_nil)) (sl_cons (se_mkx fx.ini.choose_spec fx.n_super (fx.exc "NoPerson" (by decide)) (C.hr.mono (j := 2) (by decide)) (by rfl) fx.g_NoPerson (sl_cons (se_var (i := 0) nv) sl_nil)) (sl_cons (se_mkx fx.ini.choose_spec fx.n_super (fx.exc "BadChoice" (by decide)) (C.hr.mono (j := 2) (by decide)) (by rfl) fx.g_BadChoice (sl_cons (se_var (i := 0) nv) sl_nil)) (sl_cons (se_mkx fx.ini.choose_spec fx.n_super (fx.exc "BadRow" (by decide)) (C.hr.mono (j := 2) (by decide)) (by rfl) fx.g_BadRow (sl_cons (se_var (i := 0) nv) sl_nil)) (sl_cons (se_mkx fx.ini.choose_spec fx.n_super (fx.exc "Round" (by decide)) (C.hr.mono (j := 2) (by decide)) (by rfl) fx.g_Round (sl_cons (se_var (i := 0) nv) sl_nil)) (sl_cons (se_mkx fx.ini.choose_spec fx.n_super (fx.exc "Full" (by decide)) (C.hr.mono (j := 2) (by decide)) (by rfl) fx.g_Full (sl_cons (se_var (i := 0) nv) sl_nil)) (sl_cons (se_mkx fx.ini.choose_spec fx.n_super (fx.exc "NoSaying" (by decide)) (C.hr.mono (j := 2) (by decide)) (by rfl) fx.g_NoSaying (sl_cons (se_var (i := 0) nv) sl_nil)) sl_nil)))))))))
    (ss_cons (ss_expr (se_extend (i := 1) nv (se_lst (sl_cons (se_mkx fx.ini.choose_spec fx.n_super (fx.exc "OtherPeople" (by decide)) (C.hr.mono (j := 2) (by decide)) (by rfl) fx.g_OtherPeople (sl_cons (se_var (i := 0) nv) sl_nil)) (sl_cons (se_mkx fx.ini.choose_spec fx.n_super (fx.exc "BadLists" (by decide)) (C.hr.mono (j := 2) (by decide)) (by rfl) fx.g_BadLists (sl_cons (se_var (i := 0) nv) sl_nil)) (sl_cons (se_mkx fx.ini.choose_spec fx.n_super (fx.exc "BadPairs" (by decide)) (C.hr.mono (j := 2) (by decide)) (by rfl) fx.g_BadPairs (sl_cons (se_var (i := 0) nv) sl_nil)) (sl_cons (se_mkx fx.ini.choose_spec fx.n_super (fx.exc "NoList" (by decide)) (C.hr.mono (j := 2) (by decide)) (by rfl) fx.g_NoList (sl_cons (se_var (i := 0) nv) sl_nil)) (sl_cons (se_mkx fx.ini.choose_spec fx.n_super (fx.exc "OtherBook" (by decide)) (C.hr.mono (j := 2) (by decide)) (by rfl) fx.g_OtherBook (sl_cons (se_var (i := 0) nv) sl_nil)) (sl_cons (se_mkx fx.ini.choose_spec fx.n_super (fx.exc "NotSure" (by decide)) (C.hr.mono (j := 2) (by decide)) (by rfl) fx.g_NotSure (sl_cons (se_var (i := 0) nv) sl_nil)) sl_nil)))))))))
    (ss_cons (ss_expr (se_extend (i := 1) nv (se_lst (sl_cons (se_mkx fx.ini.choose_spec fx.n_super (fx.exc "BadBound" (by decide)) (C.hr.mono (j := 2) (by decide)) (by rfl) fx.g_BadBound (sl_cons (se_var (i := 0) nv) sl_nil)) (sl_cons (se_mkx fx.ini.choose_spec fx.n_super (fx.exc "BadBarred" (by decide)) (C.hr.mono (j := 2) (by decide)) (by rfl) fx.g_BadBarred (sl_cons (se_var (i := 0) nv) sl_nil)) (sl_cons (se_mkx fx.ini.choose_spec fx.n_super (fx.exc "BadSide" (by decide)) (C.hr.mono (j := 2) (by decide)) (by rfl) fx.g_BadSide (sl_cons (se_var (i := 0) nv) sl_nil)) (sl_cons (se_mkx fx.ini.choose_spec fx.n_super (fx.exc "NoneSure" (by decide)) (C.hr.mono (j := 2) (by decide)) (by rfl) fx.g_NoneSure (sl_cons (se_var (i := 0) nv) sl_nil)) (sl_cons (se_mkx fx.ini.choose_spec fx.n_super (fx.exc "TooMany" (by decide)) (C.hr.mono (j := 2) (by decide)) (by rfl) fx.g_TooMany (sl_cons (se_var (i := 0) nv) sl_nil)) (sl_cons (se_mkx fx.ini.choose_spec fx.n_super (fx.exc "TooManyOpen" (by decide)) (C.hr.mono (j := 2) (by decide)) (by rfl) fx.g_TooManyOpen (sl_cons (se_var (i := 0) nv) sl_nil)) sl_nil)))))))))
    (ss_cons (ss_expr (se_extend (i := 1) nv (se_lst (sl_cons (se_mkx fx.ini.choose_spec fx.n_super (fx.exc "BadOffers" (by decide)) (C.hr.mono (j := 2) (by decide)) (by rfl) fx.g_BadOffers (sl_cons (se_var (i := 0) nv) sl_nil)) (sl_cons (se_mkx fx.ini.choose_spec fx.n_super (fx.exc "BadHopes" (by decide)) (C.hr.mono (j := 2) (by decide)) (by rfl) fx.g_BadHopes (sl_cons (se_var (i := 0) nv) sl_nil)) (sl_cons (se_mkx fx.ini.choose_spec fx.n_super (fx.exc "BadPair" (by decide)) (C.hr.mono (j := 2) (by decide)) (by rfl) fx.g_BadPair (sl_cons (se_var (i := 0) nv) sl_nil)) (sl_cons (se_mkx fx.ini.choose_spec fx.n_super (fx.exc "Taken" (by decide)) (C.hr.mono (j := 2) (by decide)) (by rfl) fx.g_Taken (sl_cons (se_var (i := 0) nv) sl_nil)) (sl_cons (se_mkx fx.ini.choose_spec fx.n_super (fx.exc "NotTogether" (by decide)) (C.hr.mono (j := 2) (by decide)) (by rfl) fx.g_NotTogether (sl_cons (se_var (i := 0) nv) sl_nil)) (sl_cons (se_mkx fx.ini.choose_spec fx.n_super (fx.exc "NothingToUndo" (by decide)) (C.hr.mono (j := 2) (by decide)) (by rfl) fx.g_NothingToUndo (sl_cons (se_var (i := 0) nv) sl_nil)) sl_nil)))))))))
    (ss_cons (ss_expr (se_extend (i := 1) nv (se_lst (sl_cons (se_mkx fx.ini.choose_spec fx.n_super (fx.exc "NothingToRedo" (by decide)) (C.hr.mono (j := 2) (by decide)) (by rfl) fx.g_NothingToRedo (sl_cons (se_var (i := 0) nv) sl_nil)) (sl_cons (se_mkx fx.ini.choose_spec fx.n_super (fx.exc "NoTrial" (by decide)) (C.hr.mono (j := 2) (by decide)) (by rfl) fx.g_NoTrial (sl_cons (se_var (i := 0) nv) sl_nil)) (sl_cons (se_mkx fx.ini.choose_spec fx.n_super (fx.exc "BadJournal" (by decide)) (C.hr.mono (j := 2) (by decide)) (by rfl) fx.g_BadJournal (sl_cons (se_var (i := 0) nv) sl_nil)) (sl_cons (se_mkx fx.ini.choose_spec fx.n_super (fx.exc "BadLine" (by decide)) (C.hr.mono (j := 2) (by decide)) (by rfl) fx.g_BadLine (sl_cons (se_var (i := 0) nv) sl_nil)) sl_nil)))))))
    (ss_one (ss_ret (se_var (i := 1) nv))))))))
theorem sc__law_kinds_of : FnScope ["_law_error", "_law_found"] ["_law_error"] (defScope s__law_kinds_of) := ⟨rfl, rfl, rfl, by decide +kernel, rfl, by decide +kernel, by decide +kernel⟩
theorem b__law_kinds_of {fd : FuncData} (F : FunD K "_law_kinds_of" "_law_kinds_of" (defArgs s__law_kinds_of) (defBody s__law_kinds_of) (defScope s__law_kinds_of) [] [] (He.ga K "_law_kinds_of") fd) : Binds K fd ["_law_error"] [] := F.bindsN fun _ _ _ _ _ _ us hl => match us, hl with | [_], _ => rfl
theorem ok__law_kinds_of (fx : Fx pw K mg) {fd : FuncData} (F : FunD K "_law_kinds_of" "_law_kinds_of" (defArgs s__law_kinds_of) (defBody s__law_kinds_of) (defScope s__law_kinds_of) [] [] (He.ga K "_law_kinds_of") fd) : FnG pw w K mg base 1 (He.ga K "_law_kinds_of") fd ["_law_error"] (spF (He.ga K) f__law_kinds_of 1) := by
  refine fng_ok (N := ["_law_error", "_law_found"]) F sc__law_kinds_of (by decide) fun cdv A outer s H E gd hr => ?_
  have C := cn_def (P := pw) (w := w) (K := K) (mg := mg) (base := base) (outer := outer) (H := H) (E := E) (.inr True.intro) gd hr sc__law_kinds_of.nd
  exact (ss_cons (ss_setO (i := 1) C.hN (by rfl) (by first | exact .inl rfl | exact .inr rfl) (sf_lst (sl_cons (se_isi (u := .ref (He.ga K "BadBook")) fx.i_BadBook (.own _) (by rfl) fx.n_isinstance (se_var (i := 0) nv) (pe_glob (v := .ref (He.ga K "BadBook")) (by rfl) fx.g_BadBook rfl)) (sl_cons (se_isi (u := .ref (He.ga K "NoPerson")) fx.i_NoPerson (.own _) (by rfl) fx.n_isinstance (se_var (i := 0) nv) (pe_glob (v := .ref (He.ga K "NoPerson")) (by rfl) fx.g_NoPerson rfl)) (sl_cons (se_isi (u := .ref (He.ga K "BadChoice")) fx.i_BadChoice (.own _) (by rfl) fx.n_isinstance (se_var (i := 0) nv) (pe_glob (v := .ref (He.ga K "BadChoice")) (by rfl) fx.g_BadChoice rfl)) sl_nil)))))
    (ss_cons (ss_expr (se_extend (i := 1) nv (se_lst (sl_cons (se_isi (u := .ref (He.ga K "BadRow")) fx.i_BadRow (.own _) (by rfl) fx.n_isinstance (se_var (i := 0) nv) (pe_glob (v := .ref (He.ga K "BadRow")) (by rfl) fx.g_BadRow rfl)) (sl_cons (se_isi (u := .ref (He.ga K "Round")) fx.i_Round (.own _) (by rfl) fx.n_isinstance (se_var (i := 0) nv) (pe_glob (v := .ref (He.ga K "Round")) (by rfl) fx.g_Round rfl)) (sl_cons (se_isi (u := .ref (He.ga K "Full")) fx.i_Full (.own _) (by rfl) fx.n_isinstance (se_var (i := 0) nv) (pe_glob (v := .ref (He.ga K "Full")) (by rfl) fx.g_Full rfl)) sl_nil))))))
    (ss_cons (ss_expr (se_extend (i := 1) nv (se_lst (sl_cons (se_isi (u := .ref (He.ga K "NoSaying")) fx.i_NoSaying (.own _) (by rfl) fx.n_isinstance (se_var (i := 0) nv) (pe_glob (v := .ref (He.ga K "NoSaying")) (by rfl) fx.g_NoSaying rfl)) (sl_cons (se_isi (u := .ref (He.ga K "OtherPeople")) fx.i_OtherPeople (.own _) (by rfl) fx.n_isinstance (se_var (i := 0) nv) (pe_glob (v := .ref (He.ga K "OtherPeople")) (by rfl) fx.g_OtherPeople rfl)) (sl_cons (se_isi (u := .ref (He.ga K "BadLists")) fx.i_BadLists (.own _) (by rfl) fx.n_isinstance (se_var (i := 0) nv) (pe_glob (v := .ref (He.ga K "BadLists")) (by rfl) fx.g_BadLists rfl)) sl_nil))))))
    (ss_cons (ss_expr (se_extend (i := 1) nv (se_lst (sl_cons (se_isi (u := .ref (He.ga K "BadPairs")) fx.i_BadPairs (.own _) (by rfl) fx.n_isinstance (se_var (i := 0) nv) (pe_glob (v := .ref (He.ga K "BadPairs")) (by rfl) fx.g_BadPairs rfl)) (sl_cons (se_isi (u := .ref (He.ga K "NoList")) fx.i_NoList (.own _) (by rfl) fx.n_isinstance (se_var (i := 0) nv) (pe_glob (v := .ref (He.ga K "NoList")) (by rfl) fx.g_NoList rfl)) (sl_cons (se_isi (u := .ref (He.ga K "OtherBook")) fx.i_OtherBook (.own _) (by rfl) fx.n_isinstance (se_var (i := 0) nv) (pe_glob (v := .ref (He.ga K "OtherBook")) (by rfl) fx.g_OtherBook rfl)) sl_nil))))))
    (ss_cons (ss_expr (se_extend (i := 1) nv (se_lst (sl_cons (se_isi (u := .ref (He.ga K "NotSure")) fx.i_NotSure (.own _) (by rfl) fx.n_isinstance (se_var (i := 0) nv) (pe_glob (v := .ref (He.ga K "NotSure")) (by rfl) fx.g_NotSure rfl)) (sl_cons (se_isi (u := .ref (He.ga K "BadBound")) fx.i_BadBound (.own _) (by rfl) fx.n_isinstance (se_var (i := 0) nv) (pe_glob (v := .ref (He.ga K "BadBound")) (by rfl) fx.g_BadBound rfl)) (sl_cons (se_isi (u := .ref (He.ga K "BadBarred")) fx.i_BadBarred (.own _) (by rfl) fx.n_isinstance (se_var (i := 0) nv) (pe_glob (v := .ref (He.ga K "BadBarred")) (by rfl) fx.g_BadBarred rfl)) sl_nil))))))
    (ss_cons (ss_expr (se_extend (i := 1) nv (se_lst (sl_cons (se_isi (u := .ref (He.ga K "BadSide")) fx.i_BadSide (.own _) (by rfl) fx.n_isinstance (se_var (i := 0) nv) (pe_glob (v := .ref (He.ga K "BadSide")) (by rfl) fx.g_BadSide rfl)) (sl_cons (se_isi (u := .ref (He.ga K "NoneSure")) fx.i_NoneSure (.own _) (by rfl) fx.n_isinstance (se_var (i := 0) nv) (pe_glob (v := .ref (He.ga K "NoneSure")) (by rfl) fx.g_NoneSure rfl)) (sl_cons (se_isi (u := .ref (He.ga K "TooMany")) fx.i_TooMany (.own _) (by rfl) fx.n_isinstance (se_var (i := 0) nv) (pe_glob (v := .ref (He.ga K "TooMany")) (by rfl) fx.g_TooMany rfl)) sl_nil))))))
    (ss_cons (ss_expr (se_extend (i := 1) nv (se_lst (sl_cons (se_isi (u := .ref (He.ga K "TooManyOpen")) fx.i_TooManyOpen (.own _) (by rfl) fx.n_isinstance (se_var (i := 0) nv) (pe_glob (v := .ref (He.ga K "TooManyOpen")) (by rfl) fx.g_TooManyOpen rfl)) (sl_cons (se_isi (u := .ref (He.ga K "BadOffers")) fx.i_BadOffers (.own _) (by rfl) fx.n_isinstance (se_var (i := 0) nv) (pe_glob (v := .ref (He.ga K "BadOffers")) (by rfl) fx.g_BadOffers rfl)) (sl_cons (se_isi (u := .ref (He.ga K "BadHopes")) fx.i_BadHopes (.own _) (by rfl) fx.n_isinstance (se_var (i := 0) nv) (pe_glob (v := .ref (He.ga K "BadHopes")) (by rfl) fx.g_BadHopes rfl)) sl_nil))))))
    (ss_cons (ss_expr (se_extend (i := 1) nv (se_lst (sl_cons (se_isi (u := .ref (He.ga K "BadPair")) fx.i_BadPair (.own _) (by rfl) fx.n_isinstance (se_var (i := 0) nv) (pe_glob (v := .ref (He.ga K "BadPair")) (by rfl) fx.g_BadPair rfl)) (sl_cons (se_isi (u := .ref (He.ga K "Taken")) fx.i_Taken (.own _) (by rfl) fx.n_isinstance (se_var (i := 0) nv) (pe_glob (v := .ref (He.ga K "Taken")) (by rfl) fx.g_Taken rfl)) (sl_cons (se_isi (u := .ref (He.ga K "NotTogether")) fx.i_NotTogether (.own _) (by rfl) fx.n_isinstance (se_var (i := 0) nv) (pe_glob (v := .ref (He.ga K "NotTogether")) (by rfl) fx.g_NotTogether rfl)) sl_nil))))))
    (ss_cons (ss_expr (se_extend (i := 1) nv (se_lst (sl_cons (se_isi (u := .ref (He.ga K "NothingToUndo")) fx.i_NothingToUndo (.own _) (by rfl) fx.n_isinstance (se_var (i := 0) nv) (pe_glob (v := .ref (He.ga K "NothingToUndo")) (by rfl) fx.g_NothingToUndo rfl)) (sl_cons (se_isi (u := .ref (He.ga K "NothingToRedo")) fx.i_NothingToRedo (.own _) (by rfl) fx.n_isinstance (se_var (i := 0) nv) (pe_glob (v := .ref (He.ga K "NothingToRedo")) (by rfl) fx.g_NothingToRedo rfl)) (sl_cons (se_isi (u := .ref (He.ga K "NoTrial")) fx.i_NoTrial (.own _) (by rfl) fx.n_isinstance (se_var (i := 0) nv) (pe_glob (v := .ref (He.ga K "NoTrial")) (by rfl) fx.g_NoTrial rfl)) sl_nil))))))
    (ss_one (ss_ret (se_bin op_addD od_add (se_var (i := 1) nv) (SE.sp (se_lst (sl_cons (se_isi (u := .ref (He.ga K "BadJournal")) fx.i_BadJournal (.own _) (by rfl) fx.n_isinstance (se_var (i := 0) nv) (pe_glob (v := .ref (He.ga K "BadJournal")) (by rfl) fx.g_BadJournal rfl)) (sl_cons (se_isi (u := .ref (He.ga K "BadLine")) fx.i_BadLine (.own _) (by rfl) fx.n_isinstance (se_var (i := 0) nv) (pe_glob (v := .ref (He.ga K "BadLine")) (by rfl) fx.g_BadLine rfl)) sl_nil))))))))))))))))
theorem sc__law_right : FnScope ["_law_pot_here", "_law_some", "_law_one", "_law_errors", "_law_at", "_law_error", "_law_k"] ["_law_pot_here"] (defScope s__law_right) := ⟨rfl, rfl, rfl, by decide +kernel, rfl, by decide +kernel, by decide +kernel⟩
theorem b__law_right {fd : FuncData} (F : FunD K "_law_right" "_law_right" (defArgs s__law_right) (defBody s__law_right) (defScope s__law_right) [] [] (He.ga K "_law_right") fd) : Binds K fd ["_law_pot_here"] [] := F.bindsN fun _ _ _ _ _ _ us hl => match us, hl with | [_], _ => rfl
theorem ok__law_right (fx : Fx pw K mg) {fd : FuncData} (F : FunD K "_law_right" "_law_right" (defArgs s__law_right) (defBody s__law_right) (defScope s__law_right) [] [] (He.ga K "_law_right") fd) : FnG pw w K mg base 4 (He.ga K "_law_right") fd ["_law_pot_here"] (spF (He.ga K) f__law_right 1) := by
  obtain ⟨fd__law_odd, F__law_odd⟩ := fx.d__law_odd
  have G__law_odd := ok__law_odd (w := w) (base := base) fx F__law_odd
  have B__law_odd := b__law_odd F__law_odd
  obtain ⟨fd__law_all_of, F__law_all_of⟩ := fx.d__law_all_of
  have G__law_all_of := ok__law_all_of (w := w) (base := base) fx F__law_all_of
  have B__law_all_of := b__law_all_of F__law_all_of
  obtain ⟨fd__law_kinds_of, F__law_kinds_of⟩ := fx.d__law_kinds_of
  have G__law_kinds_of := ok__law_kinds_of (w := w) (base := base) fx F__law_kinds_of
  have B__law_kinds_of := b__law_kinds_of F__law_kinds_of
  refine fng_ok (N := ["_law_pot_here", "_law_some", "_law_one", "_law_errors", "_law_at", "_law_error", "_law_k"]) F sc__law_right (by decide) fun cdv A outer s H E gd hr => ?_
  have C := cn_def (P := pw) (w := w) (K := K) (mg := mg) (base := base) (outer := outer) (H := H) (E := E) (.inr True.intro) gd hr sc__law_right.nd
  exact (ss_cons (ss_set (i := 1) C.hN (by rfl) (by first | exact .inl rfl | exact .inr rfl) (se_lst (sl_cons (se_callG C.tk C.gd G__law_odd (C.hr.mono (by decide)) (by rfl) fx.g__law_odd F__law_odd.kp B__law_odd (sa_io (i := 0) nv sa_nil)) (sl_cons (se_tup (sl_cons (se_callG C.tk C.gd G__law_odd (C.hr.mono (by decide)) (by rfl) fx.g__law_odd F__law_odd.kp B__law_odd (sa_io (i := 0) nv sa_nil)) (sl_cons (se_lst (sl_cons (se_callG C.tk C.gd G__law_odd (C.hr.mono (by decide)) (by rfl) fx.g__law_odd F__law_odd.kp B__law_odd (sa_io (i := 0) nv sa_nil)) sl_nil)) sl_nil))) (sl_cons (SF.se (sf_disp (sps_cons se_str (se_callG C.tk C.gd G__law_odd (C.hr.mono (by decide)) (by rfl) fx.g__law_odd F__law_odd.kp B__law_odd (sa_io (i := 0) nv sa_nil)) sps_nil))) sl_nil)))))
    (ss_cons (ss_for C.hp C.hc (si_seq (se_var (i := 1) nv)) (pg_name C.hN (by rfl) (by first | exact .inl rfl | exact .inr rfl)) (gd_name 2) (ss_cons (ss_set (i := 3) C.hN (by rfl) (by first | exact .inl rfl | exact .inr rfl) (se_callG C.tk C.gd G__law_all_of (C.hr.mono (by decide)) (by rfl) fx.g__law_all_of F__law_all_of.kp B__law_all_of (sa_v (se_var (i := 2) nv) sa_nil)))
    (ss_cons (ss_if (st_not (st_val (se_cb (cr_all C.hc) cd_all (by rfl) fx.n_all (by rfl) (sl_cons (SF.se (sf_lc C.hc C.hN (own := [("_law_error", 5)]) (blkOk_by (by rfl)) (si_seq (se_var (i := 3) nv)) (gw_name (i := 5) (by decide)) (fun _ _ _ _ _ => (pg_name C.hN (by rfl) (by first | exact .inl rfl | exact .inr rfl))) (fun _ _ _ _ _ => sts_nil) (fun _ _ _ _ _ => (se_and (se_cmp (op_eqA (X := _) C.hr.units) od_eq (se_repr C.gd C.hr.units fx.sm (by rfl) fx.n_repr (se_value fx.exc (se_var (i := 5) nv))) (SE.sp (se_repr C.gd C.hr.units fx.sm (by rfl) fx.n_repr (se_var (i := 2) nv))) (by rfl)) (se_one (se_isi (u := .type "ValueError") fx.i_ValueError (.ty _) (by rfl) fx.n_isinstance (se_var (i := 5) nv) (pe_bltn (v := .ty "ValueError") (by rfl) fx.n_ValueError (by rfl) rfl))))))) sl_nil)))) (ss_one (ss_ret se_bl)) ss_nil)
    (ss_one (ss_for C.hp C.hc (si_enum (by rfl) fx.n_enumerate (se_var (i := 3) nv)) (pg_tup C.hc (pgs_cons (pg_name C.hN (by rfl) (by first | exact .inl rfl | exact .inr rfl)) (pgs_cons (pg_name C.hN (by rfl) (by first | exact .inl rfl | exact .inr rfl)) pgs_nil))) (gd_tup (gds_cons (gd_name 4) (gds_cons (gd_name 5) gds_nil))) (ss_one (ss_if (SW.st (sw_or (st_cmp (op_neA (X := _) C.hr.units) od_ne (se_callG C.tk C.gd G__law_kinds_of (C.hr.mono (by decide)) (by rfl) fx.g__law_kinds_of F__law_kinds_of.kp B__law_kinds_of (sa_v (se_var (i := 5) nv) sa_nil)) (SE.sp (SF.se (sf_lc C.hc C.hN (own := [("_law_k", 6)]) (blkOk_by (by rfl)) (si_range1 (by rfl) fx.n_range (sl_cons (se_cb1 call_len cd_len (by rfl) fx.n_len (by rfl) (sp_var (i := 3) nv)) sl_nil)) (gw_name (i := 6) (by decide)) (fun _ _ _ _ _ => (pg_name C.hN (by rfl) (by first | exact .inl rfl | exact .inr rfl))) (fun _ _ _ _ _ => sts_nil) (fun _ _ _ _ _ => (se_cmp (op_eqA (X := _) C.hr.units) od_eq (se_var (i := 6) nv) (sp_var (i := 4) nv) (by rfl)))))) (by rfl)) (sw_or1 (st_not (st_val (se_isi (u := .ref (He.ga K "PairError")) fx.i_PairError (.own _) (by rfl) fx.n_isinstance (se_var (i := 5) nv) (pe_glob (v := .ref (He.ga K "PairError")) (by rfl) fx.g_PairError rfl))))))) (ss_one (ss_ret se_bl)) ss_nil)))))))
    (ss_one (ss_ret (se_and (se_cmp (op_eqA (X := _) C.hr.units) od_eq (se_repr C.gd C.hr.units fx.sm (by rfl) fx.n_repr (se_value fx.exc (se_mkx fx.ini.choose_spec fx.n_super (fx.exc "PairError" (by decide)) (C.hr.mono (j := 2) (by decide)) (by rfl) fx.g_PairError (sl_cons (se_ixv (i := 1) nv se_int) sl_nil)))) (SE.sp (se_repr C.gd C.hr.units fx.sm (by rfl) fx.n_repr (se_ixv (i := 1) nv se_int))) (by rfl)) (se_one (se_not (se_cb (cr_any C.hc) cd_any (by rfl) fx.n_any (by rfl) (sl_cons (se_callG C.tk C.gd G__law_kinds_of (C.hr.mono (by decide)) (by rfl) fx.g__law_kinds_of F__law_kinds_of.kp B__law_kinds_of (sa_v (se_mkx fx.ini.choose_spec fx.n_super (fx.exc "PairError" (by decide)) (C.hr.mono (j := 2) (by decide)) (by rfl) fx.g_PairError (sl_cons se_int sl_nil)) sa_nil)) sl_nil)))))))))
theorem sc_law : FnScope ["_law_script", "_law_place"] ["_law_script"] (defScope s_law) := ⟨rfl, rfl, rfl, by decide +kernel, rfl, by decide +kernel, by decide +kernel⟩
theorem b_law {fd : FuncData} (F : FunD K "law" "law" (defArgs s_law) (defBody s_law) (defScope s_law) [] [] (He.ga K "law") fd) : Binds K fd ["_law_script"] [] := F.bindsN fun _ _ _ _ _ _ us hl => match us, hl with | [_], _ => rfl
theorem ok_law (fx : Fx pw K mg) {fd : FuncData} (F : FunD K "law" "law" (defArgs s_law) (defBody s_law) (defScope s_law) [] [] (He.ga K "law") fd) : FnG pw w K mg base 5 (He.ga K "law") fd ["_law_script"] (spF (He.ga K) f_law 1) := by
  obtain ⟨fd__law_cells, F__law_cells⟩ := fx.d__law_cells
  have G__law_cells := ok__law_cells (w := w) (base := base) fx F__law_cells
  have B__law_cells := b__law_cells F__law_cells
  obtain ⟨fd__law_right, F__law_right⟩ := fx.d__law_right
  have G__law_right := ok__law_right (w := w) (base := base) fx F__law_right
  have B__law_right := b__law_right F__law_right
  obtain ⟨fd__law_pot, F__law_pot⟩ := fx.d__law_pot
  have G__law_pot := ok__law_pot (w := w) (base := base) fx F__law_pot
  have B__law_pot := b__law_pot F__law_pot
  refine fng_ok (N := ["_law_script", "_law_place"]) F sc_law (by decide) fun cdv A outer s H E gd hr => ?_
  have C := cn_def (P := pw) (w := w) (K := K) (mg := mg) (base := base) (outer := outer) (H := H) (E := E) (.inr True.intro) gd hr sc_law.nd
  exact (ss_one (ss_ret (se_cb (cr_all C.hc) cd_all (by rfl) fx.n_all (by rfl) (sl_cons (SF.se (sf_lc C.hc C.hN (own := [("_law_place", 1)]) (blkOk_by (by rfl)) (si_seq (se_callG C.tk C.gd G__law_cells (C.hr.mono (by decide)) (by rfl) fx.g__law_cells F__law_cells.kp B__law_cells (sa_v (se_var (i := 0) nv) (sa_v se_int sa_nil)))) (gw_name (i := 1) (by decide)) (fun _ _ _ _ _ => (pg_name C.hN (by rfl) (by first | exact .inl rfl | exact .inr rfl))) (fun _ _ _ _ _ => sts_nil) (fun _ _ _ _ _ => (se_callN (by exact takes0) (by exact C.gd) G__law_right (by exact C.hr.mono (by decide)) (by rfl) fx.g__law_right F__law_right.kp B__law_right (sf_callG (by exact takes0) (by exact C.gd) G__law_pot (by exact C.hr.mono (by decide)) (by rfl) fx.g__law_pot F__law_pot.kp B__law_pot (sa_v (se_var (i := 0) nv) (sa_v (se_var (i := 1) nv) sa_nil))) sa_nil)))) sl_nil))))
end
end K00
end
section
set_option linter.all false
set_option maxRecDepth 100000
set_option maxHeartbeats 0
namespace K00
open PySem PySem.W PySem.Calls PyProof.Rows L2 PyD
def fa : List He.Fa := [.glo "PairError", .glo "BadBook", .glo "NoPerson", .glo "BadChoice", .glo "BadRow", .glo "Round", .glo "Full", .glo "NoSaying", .glo "OtherPeople", .glo "BadLists", .glo "BadPairs", .glo "NoList", .glo "OtherBook", .glo "NotSure", .glo "BadBound", .glo "BadBarred", .glo "BadSide", .glo "NoneSure", .glo "TooMany", .glo "TooManyOpen", .glo "BadOffers", .glo "BadHopes", .glo "BadPair", .glo "Taken", .glo "NotTogether", .glo "NothingToUndo", .glo "NothingToRedo", .glo "NoTrial", .glo "BadJournal", .glo "BadLine", .glo "_law_pot", .glo "_law_take", .glo "_law_of", .glo "_law_cells", .glo "_law_odd", .glo "_law_all_of", .glo "_law_kinds_of", .glo "_law_right", .glo "law", .free "super", .free "ValueError", .free "abs", .free "all", .free "any", .free "enumerate", .free "int", .free "isinstance", .free "len", .free "list", .free "max", .free "min", .free "range", .free "repr"]
def fn : List He.DefD := [⟨("_law_pot", none), "_law_pot", "_law_pot", defArgs s__law_pot, defBody s__law_pot, defScope s__law_pot, [], []⟩, ⟨("_law_take", none), "_law_take", "_law_take", defArgs s__law_take, defBody s__law_take, defScope s__law_take, [], []⟩, ⟨("_law_of", none), "_law_of", "_law_of", defArgs s__law_of, defBody s__law_of, defScope s__law_of, [], []⟩, ⟨("_law_cells", none), "_law_cells", "_law_cells", defArgs s__law_cells, defBody s__law_cells, defScope s__law_cells, [], []⟩, ⟨("_law_odd", none), "_law_odd", "_law_odd", defArgs s__law_odd, defBody s__law_odd, defScope s__law_odd, [], []⟩, ⟨("_law_all_of", none), "_law_all_of", "_law_all_of", defArgs s__law_all_of, defBody s__law_all_of, defScope s__law_all_of, [], []⟩, ⟨("_law_kinds_of", none), "_law_kinds_of", "_law_kinds_of", defArgs s__law_kinds_of, defBody s__law_kinds_of, defScope s__law_kinds_of, [], []⟩, ⟨("_law_right", none), "_law_right", "_law_right", defArgs s__law_right, defBody s__law_right, defScope s__law_right, [], []⟩, ⟨("law", none), "law", "law", defArgs s_law, defBody s_law, defScope s_law, [], []⟩]
def ex (K : PySem.W.Frag) : Bool := (exNames.all fun k => excX K (He.ga K k)) && (iniX K pw.main.file && (true && isiX K exNames insNames t_BadBarred (.ref (He.ga K "BadBarred")) && isiX K exNames insNames t_BadBook (.ref (He.ga K "BadBook")) && isiX K exNames insNames t_BadBound (.ref (He.ga K "BadBound")) && isiX K exNames insNames t_BadChoice (.ref (He.ga K "BadChoice")) && isiX K exNames insNames t_BadHopes (.ref (He.ga K "BadHopes")) && isiX K exNames insNames t_BadJournal (.ref (He.ga K "BadJournal")) && isiX K exNames insNames t_BadLine (.ref (He.ga K "BadLine")) && isiX K exNames insNames t_BadLists (.ref (He.ga K "BadLists")) && isiX K exNames insNames t_BadOffers (.ref (He.ga K "BadOffers")) && isiX K exNames insNames t_BadPair (.ref (He.ga K "BadPair")) && isiX K exNames insNames t_BadPairs (.ref (He.ga K "BadPairs")) && isiX K exNames insNames t_BadRow (.ref (He.ga K "BadRow")) && isiX K exNames insNames t_BadSide (.ref (He.ga K "BadSide")) && isiX K exNames insNames t_Full (.ref (He.ga K "Full")) && isiX K exNames insNames t_NoList (.ref (He.ga K "NoList")) && isiX K exNames insNames t_NoPerson (.ref (He.ga K "NoPerson")) && isiX K exNames insNames t_NoSaying (.ref (He.ga K "NoSaying")) && isiX K exNames insNames t_NoTrial (.ref (He.ga K "NoTrial")) && isiX K exNames insNames t_NoneSure (.ref (He.ga K "NoneSure")) && isiX K exNames insNames t_NotSure (.ref (He.ga K "NotSure")) && isiX K exNames insNames t_NotTogether (.ref (He.ga K "NotTogether")) && isiX K exNames insNames t_NothingToRedo (.ref (He.ga K "NothingToRedo")) && isiX K exNames insNames t_NothingToUndo (.ref (He.ga K "NothingToUndo")) && isiX K exNames insNames t_OtherBook (.ref (He.ga K "OtherBook")) && isiX K exNames insNames t_OtherPeople (.ref (He.ga K "OtherPeople")) && isiX K exNames insNames t_PairError (.ref (He.ga K "PairError")) && isiX K exNames insNames t_Round (.ref (He.ga K "Round")) && isiX K exNames insNames t_Taken (.ref (He.ga K "Taken")) && isiX K exNames insNames t_TooMany (.ref (He.ga K "TooMany")) && isiX K exNames insNames t_TooManyOpen (.ref (He.ga K "TooManyOpen")) && isiX K exNames insNames t_ValueError (.type "ValueError")))
def s_ini : Stmt := match top 1 with
  | .ClassDef _ _ _ body _ _ _ _ _ _ _ => body.getD 0 (.Pass ⟨0, 0, 0, 0⟩)
  | s => s
theorem iniT : IniT s_ini := ⟨_, _, _, _, _, _, _, _, _, _, _, _, by rfl, by rfl, by rfl, by rfl⟩
theorem fx_of {K : PySem.W.Frag} {h : Heap} {mg : Str → Option Value} (X : K.In h) (G : h.Ns mainGlobals mg) (c : SaysP fa fn ex s_ini K) : Fx pw K mg := by
  have hm : ((exNames.all fun k => excX K (He.ga K k)) && (iniX K pw.main.file && (true && isiX K exNames insNames t_BadBarred (.ref (He.ga K "BadBarred")) && isiX K exNames insNames t_BadBook (.ref (He.ga K "BadBook")) && isiX K exNames insNames t_BadBound (.ref (He.ga K "BadBound")) && isiX K exNames insNames t_BadChoice (.ref (He.ga K "BadChoice")) && isiX K exNames insNames t_BadHopes (.ref (He.ga K "BadHopes")) && isiX K exNames insNames t_BadJournal (.ref (He.ga K "BadJournal")) && isiX K exNames insNames t_BadLine (.ref (He.ga K "BadLine")) && isiX K exNames insNames t_BadLists (.ref (He.ga K "BadLists")) && isiX K exNames insNames t_BadOffers (.ref (He.ga K "BadOffers")) && isiX K exNames insNames t_BadPair (.ref (He.ga K "BadPair")) && isiX K exNames insNames t_BadPairs (.ref (He.ga K "BadPairs")) && isiX K exNames insNames t_BadRow (.ref (He.ga K "BadRow")) && isiX K exNames insNames t_BadSide (.ref (He.ga K "BadSide")) && isiX K exNames insNames t_Full (.ref (He.ga K "Full")) && isiX K exNames insNames t_NoList (.ref (He.ga K "NoList")) && isiX K exNames insNames t_NoPerson (.ref (He.ga K "NoPerson")) && isiX K exNames insNames t_NoSaying (.ref (He.ga K "NoSaying")) && isiX K exNames insNames t_NoTrial (.ref (He.ga K "NoTrial")) && isiX K exNames insNames t_NoneSure (.ref (He.ga K "NoneSure")) && isiX K exNames insNames t_NotSure (.ref (He.ga K "NotSure")) && isiX K exNames insNames t_NotTogether (.ref (He.ga K "NotTogether")) && isiX K exNames insNames t_NothingToRedo (.ref (He.ga K "NothingToRedo")) && isiX K exNames insNames t_NothingToUndo (.ref (He.ga K "NothingToUndo")) && isiX K exNames insNames t_OtherBook (.ref (He.ga K "OtherBook")) && isiX K exNames insNames t_OtherPeople (.ref (He.ga K "OtherPeople")) && isiX K exNames insNames t_PairError (.ref (He.ga K "PairError")) && isiX K exNames insNames t_Round (.ref (He.ga K "Round")) && isiX K exNames insNames t_Taken (.ref (He.ga K "Taken")) && isiX K exNames insNames t_TooMany (.ref (He.ga K "TooMany")) && isiX K exNames insNames t_TooManyOpen (.ref (He.ga K "TooManyOpen")) && isiX K exNames insNames t_ValueError (.type "ValueError")))) = true := c.more
  simp only [Bool.and_eq_true] at hm
  obtain ⟨h1, h2, h3⟩ := hm
  have hx : ∀ k, k ∈ exNames → ExC K (rootI K) (rootC K) (He.ga K k) := fun k hk => excX_ok (List.all_eq_true.mp h1 k hk)
  have hi : ∀ e, e ∈ insNames → InsI K (He.ga K e) := fun e he => nomatch he
  obtain ⟨⟨⟨⟨⟨⟨⟨⟨⟨⟨⟨⟨⟨⟨⟨⟨⟨⟨⟨⟨⟨⟨⟨⟨⟨⟨⟨⟨⟨⟨⟨z0, i0⟩, i1⟩, i2⟩, i3⟩, i4⟩, i5⟩, i6⟩, i7⟩, i8⟩, i9⟩, i10⟩, i11⟩, i12⟩, i13⟩, i14⟩, i15⟩, i16⟩, i17⟩, i18⟩, i19⟩, i20⟩, i21⟩, i22⟩, i23⟩, i24⟩, i25⟩, i26⟩, i27⟩, i28⟩, i29⟩, i30⟩ := h3
  exact { exc := hx, ini := iniX_ok c.ini iniT h2 (by rfl), sm := c.sm, n_super := He.free_ok X G (c.d.fact 39 (f := .free "super") (by rfl)), g_PairError := He.glo_ok X G (c.d.fact 0 (f := .glo "PairError") (by rfl)), g_BadBook := He.glo_ok X G (c.d.fact 1 (f := .glo "BadBook") (by rfl)), g_NoPerson := He.glo_ok X G (c.d.fact 2 (f := .glo "NoPerson") (by rfl)), g_BadChoice := He.glo_ok X G (c.d.fact 3 (f := .glo "BadChoice") (by rfl)), g_BadRow := He.glo_ok X G (c.d.fact 4 (f := .glo "BadRow") (by rfl)), g_Round := He.glo_ok X G (c.d.fact 5 (f := .glo "Round") (by rfl)), g_Full := He.glo_ok X G (c.d.fact 6 (f := .glo "Full") (by rfl)), g_NoSaying := He.glo_ok X G (c.d.fact 7 (f := .glo "NoSaying") (by rfl)), g_OtherPeople := He.glo_ok X G (c.d.fact 8 (f := .glo "OtherPeople") (by rfl)), g_BadLists := He.glo_ok X G (c.d.fact 9 (f := .glo "BadLists") (by rfl)), g_BadPairs := He.glo_ok X G (c.d.fact 10 (f := .glo "BadPairs") (by rfl)), g_NoList := He.glo_ok X G (c.d.fact 11 (f := .glo "NoList") (by rfl)), g_OtherBook := He.glo_ok X G (c.d.fact 12 (f := .glo "OtherBook") (by rfl)), g_NotSure := He.glo_ok X G (c.d.fact 13 (f := .glo "NotSure") (by rfl)), g_BadBound := He.glo_ok X G (c.d.fact 14 (f := .glo "BadBound") (by rfl)), g_BadBarred := He.glo_ok X G (c.d.fact 15 (f := .glo "BadBarred") (by rfl)), g_BadSide := He.glo_ok X G (c.d.fact 16 (f := .glo "BadSide") (by rfl)), g_NoneSure := He.glo_ok X G (c.d.fact 17 (f := .glo "NoneSure") (by rfl)), g_TooMany := He.glo_ok X G (c.d.fact 18 (f := .glo "TooMany") (by rfl)), g_TooManyOpen := He.glo_ok X G (c.d.fact 19 (f := .glo "TooManyOpen") (by rfl)), g_BadOffers := He.glo_ok X G (c.d.fact 20 (f := .glo "BadOffers") (by rfl)), g_BadHopes := He.glo_ok X G (c.d.fact 21 (f := .glo "BadHopes") (by rfl)), g_BadPair := He.glo_ok X G (c.d.fact 22 (f := .glo "BadPair") (by rfl)), g_Taken := He.glo_ok X G (c.d.fact 23 (f := .glo "Taken") (by rfl)), g_NotTogether := He.glo_ok X G (c.d.fact 24 (f := .glo "NotTogether") (by rfl)), g_NothingToUndo := He.glo_ok X G (c.d.fact 25 (f := .glo "NothingToUndo") (by rfl)), g_NothingToRedo := He.glo_ok X G (c.d.fact 26 (f := .glo "NothingToRedo") (by rfl)), g_NoTrial := He.glo_ok X G (c.d.fact 27 (f := .glo "NoTrial") (by rfl)), g_BadJournal := He.glo_ok X G (c.d.fact 28 (f := .glo "BadJournal") (by rfl)), g_BadLine := He.glo_ok X G (c.d.fact 29 (f := .glo "BadLine") (by rfl)), g__law_pot := He.glo_ok X G (c.d.fact 30 (f := .glo "_law_pot") (by rfl)), d__law_pot := c.d.def_ 0 (d := ⟨("_law_pot", none), "_law_pot", "_law_pot", defArgs s__law_pot, defBody s__law_pot, defScope s__law_pot, [], []⟩) (by rfl), g__law_take := He.glo_ok X G (c.d.fact 31 (f := .glo "_law_take") (by rfl)), d__law_take := c.d.def_ 1 (d := ⟨("_law_take", none), "_law_take", "_law_take", defArgs s__law_take, defBody s__law_take, defScope s__law_take, [], []⟩) (by rfl), g__law_of := He.glo_ok X G (c.d.fact 32 (f := .glo "_law_of") (by rfl)), d__law_of := c.d.def_ 2 (d := ⟨("_law_of", none), "_law_of", "_law_of", defArgs s__law_of, defBody s__law_of, defScope s__law_of, [], []⟩) (by rfl), g__law_cells := He.glo_ok X G (c.d.fact 33 (f := .glo "_law_cells") (by rfl)), d__law_cells := c.d.def_ 3 (d := ⟨("_law_cells", none), "_law_cells", "_law_cells", defArgs s__law_cells, defBody s__law_cells, defScope s__law_cells, [], []⟩) (by rfl), g__law_odd := He.glo_ok X G (c.d.fact 34 (f := .glo "_law_odd") (by rfl)), d__law_odd := c.d.def_ 4 (d := ⟨("_law_odd", none), "_law_odd", "_law_odd", defArgs s__law_odd, defBody s__law_odd, defScope s__law_odd, [], []⟩) (by rfl), g__law_all_of := He.glo_ok X G (c.d.fact 35 (f := .glo "_law_all_of") (by rfl)), d__law_all_of := c.d.def_ 5 (d := ⟨("_law_all_of", none), "_law_all_of", "_law_all_of", defArgs s__law_all_of, defBody s__law_all_of, defScope s__law_all_of, [], []⟩) (by rfl), g__law_kinds_of := He.glo_ok X G (c.d.fact 36 (f := .glo "_law_kinds_of") (by rfl)), d__law_kinds_of := c.d.def_ 6 (d := ⟨("_law_kinds_of", none), "_law_kinds_of", "_law_kinds_of", defArgs s__law_kinds_of, defBody s__law_kinds_of, defScope s__law_kinds_of, [], []⟩) (by rfl), g__law_right := He.glo_ok X G (c.d.fact 37 (f := .glo "_law_right") (by rfl)), d__law_right := c.d.def_ 7 (d := ⟨("_law_right", none), "_law_right", "_law_right", defArgs s__law_right, defBody s__law_right, defScope s__law_right, [], []⟩) (by rfl), g_law := He.glo_ok X G (c.d.fact 38 (f := .glo "law") (by rfl)), d_law := c.d.def_ 8 (d := ⟨("law", none), "law", "law", defArgs s_law, defBody s_law, defScope s_law, [], []⟩) (by rfl), n_ValueError := He.free_ok X G (c.d.fact 40 (f := .free "ValueError") (by rfl)), n_abs := He.free_ok X G (c.d.fact 41 (f := .free "abs") (by rfl)), n_all := He.free_ok X G (c.d.fact 42 (f := .free "all") (by rfl)), n_any := He.free_ok X G (c.d.fact 43 (f := .free "any") (by rfl)), n_enumerate := He.free_ok X G (c.d.fact 44 (f := .free "enumerate") (by rfl)), n_int := He.free_ok X G (c.d.fact 45 (f := .free "int") (by rfl)), n_isinstance := He.free_ok X G (c.d.fact 46 (f := .free "isinstance") (by rfl)), n_len := He.free_ok X G (c.d.fact 47 (f := .free "len") (by rfl)), n_list := He.free_ok X G (c.d.fact 48 (f := .free "list") (by rfl)), n_max := He.free_ok X G (c.d.fact 49 (f := .free "max") (by rfl)), n_min := He.free_ok X G (c.d.fact 50 (f := .free "min") (by rfl)), n_range := He.free_ok X G (c.d.fact 51 (f := .free "range") (by rfl)), n_repr := He.free_ok X G (c.d.fact 52 (f := .free "repr") (by rfl)), i_BadBarred := isiX_ok i0 tabC_in hx hi, i_BadBook := isiX_ok i1 tabC_in hx hi, i_BadBound := isiX_ok i2 tabC_in hx hi, i_BadChoice := isiX_ok i3 tabC_in hx hi, i_BadHopes := isiX_ok i4 tabC_in hx hi, i_BadJournal := isiX_ok i5 tabC_in hx hi, i_BadLine := isiX_ok i6 tabC_in hx hi, i_BadLists := isiX_ok i7 tabC_in hx hi, i_BadOffers := isiX_ok i8 tabC_in hx hi, i_BadPair := isiX_ok i9 tabC_in hx hi, i_BadPairs := isiX_ok i10 tabC_in hx hi, i_BadRow := isiX_ok i11 tabC_in hx hi, i_BadSide := isiX_ok i12 tabC_in hx hi, i_Full := isiX_ok i13 tabC_in hx hi, i_NoList := isiX_ok i14 tabC_in hx hi, i_NoPerson := isiX_ok i15 tabC_in hx hi, i_NoSaying := isiX_ok i16 tabC_in hx hi, i_NoTrial := isiX_ok i17 tabC_in hx hi, i_NoneSure := isiX_ok i18 tabC_in hx hi, i_NotSure := isiX_ok i19 tabC_in hx hi, i_NotTogether := isiX_ok i20 tabC_in hx hi, i_NothingToRedo := isiX_ok i21 tabC_in hx hi, i_NothingToUndo := isiX_ok i22 tabC_in hx hi, i_OtherBook := isiX_ok i23 tabC_in hx hi, i_OtherPeople := isiX_ok i24 tabC_in hx hi, i_PairError := isiX_ok i25 tabC_in hx hi, i_Round := isiX_ok i26 tabC_in hx hi, i_Taken := isiX_ok i27 tabC_in hx hi, i_TooMany := isiX_ok i28 tabC_in hx hi, i_TooManyOpen := isiX_ok i29 tabC_in hx hi, i_ValueError := isiX_ok i30 tabC_in hx hi }
abbrev R : OpenRow := OpenLaw.row PySem.Challenge.rw_factpairs_k00_errors_keep_their_value
abbrev qv : Program := view R.prog [40]
def names : List PySem.Str := (R.prog.main.scope.names.map (·.1)).filter fun x => x != "law"
abbrev hk : Hook := hookP 4 fa fn ex s_ini
def ob (s : SharedT) : AlP := obsP 4 fa fn ex (HandSHeadRun.getT s)
theorem ob_eq (s : SharedT) : ob s = hk.obs s.abs := obsP_eq (HandSHeadRun.getT_eq s)
theorem run (w : World) : HandSHeadRun.RunEq R qv hk ob 20000 names w := by
  intro os
  kernel_rfl
end K00
end
section
set_option linter.all false
set_option maxRecDepth 100000
set_option maxHeartbeats 1000000
namespace PyD
open PySem L2
/-! ### bits -/
def Bt (n : Nat) (i : Int) : Prop := i.natAbs < 2 ^ n
theorem Bt.mono {n m : Nat} {i : Int} (h : Bt n i) (k : n ≤ m) : Bt m i := Nat.lt_of_lt_of_le h (Nat.pow_le_pow_right (by decide) k)
theorem Bt.mul {n m : Nat} {i j : Int} (h : Bt n i) (k : Bt m j) : Bt (n + m) (i * j) := wide_lt h k
theorem Bt.add {n m : Nat} {i j : Int} (h : Bt n i) (k : Bt m j) : Bt (n + m + 1) (i + j) := by
  have h1 : i.natAbs < 2 ^ (n + m) := Bt.mono h (Nat.le_add_right _ _)
  have h2 : j.natAbs < 2 ^ (n + m) := Bt.mono k (Nat.le_add_left _ _)
  have h3 : (i + j).natAbs ≤ i.natAbs + j.natAbs := Int.natAbs_add_le i j
  have e : 2 ^ (n + m + 1) = 2 ^ (n + m) + 2 ^ (n + m) := by rw [Nat.pow_succ]; omega
  unfold Bt
  omega
theorem Bt.cw {n m : Nat} {i j : Int} (h : Bt n i) (k : Bt m j) (hn : 0 < n := by decide) (hm : 0 < m := by decide) (z : n + m ≤ 1000000 := by decide) : CMulW i j := wide_mul h k hn hm z
theorem Bt.cd {n : Nat} {i j : Int} (k : Bt n j) (h : 0 < j) (hn : 0 < n := by decide) (z : n ≤ 9000 := by decide) : CDivW i j := wide_div h k hn z
theorem Bt.cp {n : Nat} {i j : Int} (k : Bt n i) (h : 2 ≤ i) (h0 : 0 < j) (h1 : j ≤ 100) (hn : 0 < n := by decide) (z : n ≤ 60000 := by decide) : CPow i j ∨ CPowW i j :=
  .inr ⟨h0, h1, Nat.lt_of_lt_of_le (PySem.Flt.log2_lt_of hn k) z, h⟩
theorem Bt.of {n : Nat} {i : Int} (h0 : 0 ≤ i) (h : i < 2 ^ n) : Bt n i := by
  unfold Bt
  have e : ((2 ^ n : Nat) : Int) = (2 : Int) ^ n := by simp
  omega
end PyD
namespace K00
open PySem L2 PyD
theorem take_a {a b c u : Int} (ha : 0 < a) (hu : 0 < u) (hd : CDivW a u) :
    f__law_take [.ow true (.lst [.int a, .int b, .int c]), .im (.int u)] = .ok (.int (a % u)) [.ow true (.lst [.int (a / u), .int b, .int c]), .un] := by
  unfold f__law_take runF m__law_take
  simp [cSeq, cIfS, cB, cOp, cIxv, M.bind, M.ret, M.opt, liftS, cSet, cAsg, gtName, free, dGt, dIcmp, toB, live, slotD, dIx, atI, ixN, cRet, cVar, cPeek, cSetI, putL, dFdv, dMod, cCall, cCons, dInt1, ha, hu, hd, backs, back1]
theorem primes {c : Int} : ∃ p, atI [D.int 2147483647, .int 2147483629, .int 2147483587, .int 2147483579, .int 2147483563] (c % 5) = some (.int p) ∧ 0 < p ∧ p < 2147483648 := by
  have h0 : 0 ≤ c % 5 := Int.emod_nonneg _ (by decide)
  have h1 : c % 5 < 5 := Int.emod_lt_of_pos _ (by decide)
  generalize c % 5 = m at h0 h1
  have : m = 0 ∨ m = 1 ∨ m = 2 ∨ m = 3 ∨ m = 4 := by omega
  rcases this with rfl | rfl | rfl | rfl | rfl <;> exact ⟨_, rfl, by decide, by decide⟩
theorem take_b {a b c u : Int} (ha : a ≤ 0) (hb : 0 ≤ b) (hb2 : b < 2 ^ 62) (hc : 0 ≤ c) (hc2 : c < 2 ^ 62) (hu : 0 < u) :
    ∃ x, f__law_take [.ow true (.lst [.int a, .int b, .int c]), .im (.int u)] = .ok (.int x) [.ow true (.lst [.int a, .int b, .int (c + 1)]), .un] ∧ 0 ≤ x ∧ x < u := by
  obtain ⟨p, hp, p0, p1⟩ := primes (c := c + 1)
  have na : ¬ 0 < a := by omega
  have bc : Bt 63 (c + 1) := .of (by omega) (by omega)
  have bb : Bt 62 b := .of hb hb2
  have c99 : Bt 17 99601 := .of (by decide) (by decide)
  have m1 : CMulW 99601 (c + 1) := c99.cw bc
  have b1 := c99.mul bc
  have m2 : CMulW (99601 * (c + 1)) (c + 1) := b1.cw bc
  have b2 := bb.add (b1.mul bc)
  have b3 := b2.add (show Bt 6 53 from .of (by decide) (by decide))
  have n1 : 0 ≤ 99601 * (c + 1) * (c + 1) := Int.mul_nonneg (Int.mul_nonneg (by decide) (by omega)) (by omega)
  have pw : CPow (b + 99601 * (c + 1) * (c + 1) + 53) 3 ∨ CPowW (b + 99601 * (c + 1) * (c + 1) + 53) 3 := b3.cp (by omega) (by decide) (by decide)
  generalize hM : (b + 99601 * (c + 1) * (c + 1) + 53) ^ 3 % p = m
  have hm0 : 0 ≤ m := by rw [← hM]; exact Int.emod_nonneg _ (by omega)
  have hm1 : m < p := by rw [← hM]; exact Int.emod_lt_of_pos _ p0
  have bm : Bt 31 m := .of hm0 (by omega)
  have b4 : Bt 14 (m % 10427) := .of (Int.emod_nonneg _ (by decide)) (Int.lt_of_lt_of_le (Int.emod_lt_of_pos _ (by decide)) (by decide))
  have c101 : Bt 7 101 := .of (by decide) (by decide)
  have m3 : CMulW 101 (c + 1) := c101.cw bc
  have m4 : CMulW m (m % 10427 + 101 * (c + 1)) := bm.cw (b4.add (c101.mul bc))
  have d1 : ∀ z : Int, CDivW z 141 := fun z => (show Bt 8 141 from .of (by decide) (by decide)).cd (by decide)
  refine ⟨(m * (m % 10427 + 101 * (c + 1)) % 2305843009213693907) / 141 % u, ?_, Int.emod_nonneg _ (by omega), Int.emod_lt_of_pos _ hu⟩
  unfold f__law_take runF m__law_take
  have e3 : (3 : Int).toNat = 3 := rfl
  have a0 : ∀ x y z : D, atI [x, y, z] 0 = some x := fun _ _ _ => rfl
  have a1 : ∀ x y z : D, atI [x, y, z] 1 = some y := fun _ _ _ => rfl
  have a2 : ∀ x y z : D, atI [x, y, z] 2 = some z := fun _ _ _ => rfl
  simp [cSeq, cIfS, cB, cOp, cIxv, M.bind, M.ret, M.opt, liftS, cSet, cAsg, gtName, free, dGt, dIcmp, toB, live, slotD, dIx, cRet, cVar, cPeek, cSetI, putL, dFdv, dMod, dMul, dAdd, dPow, cCall, cCons, cNext, dInt1, backs, back1, lstOf, sizeLine_eq, na, hu, p0, hp, m1, m2, m3, m4, pw, hM, d1, e3, a0, a1, a2, ixN]
abbrev Pot (a b c : Int) : D := .lst [.int a, .int b, .int c]
structure PotOk (n a b c : Int) : Prop where
  a0 : 0 ≤ a
  a1 : a < 2 ^ 1000
  b0 : 0 ≤ b
  b1 : b < 2 ^ 62
  c0 : 0 ≤ c
  c1 : c ≤ n
theorem take_ok {n a b c u : Int} (h : PotOk n a b c) (hn : n < 2 ^ 61) (hu : 0 < u) (hu2 : u < 2 ^ 62) :
    ∃ x a' c', f__law_take [.ow true (Pot a b c), .im (.int u)] = .ok (.int x) [.ow true (Pot a' b c'), .un] ∧ 0 ≤ x ∧ x < u ∧ PotOk (n + 1) a' b c' := by
  have hc := h.c1
  have hc0 := h.c0
  by_cases ha : 0 < a
  · have hd : CDivW a u := (Bt.of (by omega) hu2).cd hu
    have h1 : a / u ≤ a := Int.ediv_le_self _ h.a0
    have h2 : 0 ≤ a / u := Int.ediv_nonneg h.a0 (by omega)
    have h3 := h.a1
    exact ⟨_, _, _, take_a ha hu hd, Int.emod_nonneg _ (by omega), Int.emod_lt_of_pos _ hu, ⟨h2, by omega, h.b0, h.b1, h.c0, by omega⟩⟩
  · obtain ⟨x, e, h0, h1⟩ := take_b (a := a) (b := b) (c := c) (u := u) (by omega) h.b0 h.b1 h.c0 (by omega) hu
    exact ⟨x, a, c + 1, e, h0, h1, ⟨h.a0, h.a1, h.b0, h.b1, by omega, by omega⟩⟩
theorem atI_mem {xs : List D} {i : Int} (h0 : 0 ≤ i) (h1 : i < xs.length) : ∃ x, atI xs i = some x ∧ x ∈ xs := by
  unfold atI ixN
  rw [if_pos h0, if_pos h1]
  have hl : i.toNat < xs.length := by omega
  exact ⟨xs[i.toNat], by simp [hl], List.getElem_mem hl⟩
theorem of_ok {n a b c : Int} {xs : List D} (h : PotOk n a b c) (hn : n < 2 ^ 61) (hx : xs ≠ []) (hl : (xs.length : Int) < 2 ^ 62) :
    ∃ x a' c', f__law_of [.ow true (Pot a b c), .im (.lst xs)] = .ok x [.ow true (Pot a' b c'), .un] ∧ x ∈ xs ∧ PotOk (n + 1) a' b c' := by
  have hp : 0 < (xs.length : Int) := by
    have := List.length_pos_iff.mpr hx
    omega
  obtain ⟨i, a', c', e, h0, h1, k⟩ := take_ok (u := xs.length) h hn hp hl
  obtain ⟨x, e1, hm⟩ := atI_mem h0 h1
  refine ⟨x, a', c', ?_, hm, k⟩
  unfold f__law_of runF m__law_of
  simp [cRet, liftS, cIxv, live, M.bind, cCallF, used, cArgR, cArg, cCall1, cPeek, dLen, M.opt, M.ret, allSl, toSl, iosOf, noDup, e, putBack, put1, slotD, dIx, e1, backs, back1]
def odds : List D := [.non, .bl true, .bl false, .int 0, .int 1, .int (-1), .int 100000000, .str "", .str "a", .str "nobody", .str "ones", .tup [], .lst [], .dk [], .tup [.tup []], .tup [.int 0], .tup [.str ""], .lst [.int 0],
  .tup [.str "a", .str "b"], .tup [.str "a", .str "", .str "b"], .tup [.tup [.str "a", .str "b"]], .tup [.str "sure"], .str "pairs"]
theorem odd_ok {n a b c : Int} (h : PotOk n a b c) (hn : n < 2 ^ 61) :
    ∃ x a' c', f__law_odd [.ow true (Pot a b c)] = .ok x [.ow true (Pot a' b c')] ∧ x ∈ odds ∧ PotOk (n + 1) a' b c' := by
  obtain ⟨x, a', c', e, hm, k⟩ := of_ok (xs := odds) h hn (by decide) (by decide)
  refine ⟨x, a', c', ?_, hm, k⟩
  unfold odds at e
  have pw : CPow 10 8 ∨ CPowW 10 8 := by decide
  unfold f__law_odd runF m__law_odd
  simp [cSeq, cSet, cAsg, gtName, free, cCons, M.bind, M.ret, M.opt, liftS, tupOf, lstOf, dNeg, cOp, dPow, pw, sizeLine_eq, cRet, cCallF, used, cArgR, cArg, cVar, dAdd, allSl, toSl, iosOf, noDup, e, putBack, put1, backs, back1]
def errs (d : D) : List D := exNames.tail.map fun k => .exc k d
theorem all_of {d : D} : f__law_all_of [.im d] = .ok (.lst (errs d)) [.un] := by rfl
theorem kinds_root : f__law_kinds_of [.im (.exc "PairError" (.int 0))] = .ok (.lst ((List.replicate 29 false).map D.bl)) [.un] := by rfl
theorem repr1 : ∀ x, x ∈ odds → ∃ s, reprD x = some (.str s) := fun x hx => reprD_of (List.all_eq_true.mp (show (odds.all fun x => (reprD x).isSome) = true by decide +kernel) x hx)
theorem repr2 : ∀ x, x ∈ odds → ∀ y, y ∈ odds → ∃ s, reprD (.tup [x, .lst [y]]) = some (.str s) := fun x hx y hy =>
  reprD_of (List.all_eq_true.mp (List.all_eq_true.mp (show (odds.all fun x => odds.all fun y => (reprD (.tup [x, .lst [y]])).isSome) = true by decide +kernel) x hx) y hy)
theorem repr3 : ∀ x, x ∈ odds → ∃ s, reprD (.dk [(.inr "a", x)]) = some (.str s) := fun x hx => reprD_of (List.all_eq_true.mp (show (odds.all fun x => (reprD (.dk [(.inr "a", x)])).isSome) = true by decide +kernel) x hx)
theorem inner0 {p S d : D} : forL (gtTup 2 (gtCons (gtName 4) (gtCons (gtName 5) gtNil))) h__law_right_2 (enumD (errs d)) [.ow true p, .im S, .im d, .im (.lst (errs d)), .un, .un, .un] =
    .nx [.ow true p, .im S, .im d, .im (.lst (errs d)), .im (.int 28), .im (.exc "BadLine" d), .un] := by kernel_rfl
theorem inner1 {p S d a b : D} : forL (gtTup 2 (gtCons (gtName 4) (gtCons (gtName 5) gtNil))) h__law_right_2 (enumD (errs d)) [.ow true p, .im S, .im d, .im (.lst (errs d)), .im a, .im b, .un] =
    .nx [.ow true p, .im S, .im d, .im (.lst (errs d)), .im (.int 28), .im (.exc "BadLine" d), .un] := by kernel_rfl
end K00
end
section
set_option linter.all false
set_option maxRecDepth 100000
set_option maxHeartbeats 1000000
set_option exponentiation.threshold 5000
namespace K00
open PySem L2 PyD
theorem errs_mem {d x : D} (h : x ∈ errs d) : ∃ k, exNames.contains k = true ∧ x = .exc k d := by
  obtain ⟨k, hk, rfl⟩ := List.mem_map.mp h
  exact ⟨k, List.contains_iff_mem.mpr (List.mem_of_mem_tail hk), rfl⟩
theorem elt {p S d E s4 : D} {x4 : Sl} {s : Str} {k : Str} (hr : reprD d = some (.str s)) (hk : exNames.contains k = true) :
    h__law_right_0 [.ow true p, .im S, .im d, .im E, x4, .im (.exc k d), .un] = .ok (.bl true) [.ow true p, .im S, .im d, .im E, x4, .im (.exc k d), .un] := by
  have hk2 : k ∈ exNames := List.contains_iff_mem.mp hk
  unfold h__law_right_0
  simp [hk2, cAndV, cOp, M.bind, cVar, valOf, hk, hr, M.opt, M.ret, dEq, eqD, toB, isiD, t_ValueError, tabC, kd]
theorem chk {p S d : D} {x4 x5 : Sl} {s : Str} (hr : reprD d = some (.str s)) (h5 : freeAll [5] [.ow true p, .im S, .im d, .im (.lst (errs d)), x4, x5, .un] = true) :
    cLc [5] (cItems seqOf (cVar 3)) (gtName 5) (M.ret true) h__law_right_0 [.ow true p, .im S, .im d, .im (.lst (errs d)), x4, x5, .un] = .ok (.lst ((errs d).map fun _ => .bl true)) [.ow true p, .im S, .im d, .im (.lst (errs d)), x4, x5, .un] := by
  have key := compL_map (vs := [5]) (gt := gtName 5) (ct := M.ret true) (ce := h__law_right_0) (r := [.ow true p, .im S, .im d, .im (.lst (errs d)), x4, .un, .un]) (g := fun _ => .bl true) (errs d) [] (fun x hx => by
    obtain ⟨k, hk, rfl⟩ := errs_mem hx
    exact ⟨_, _, rfl, rfl, elt (s4 := d) hr hk, rfl⟩) (by rw [sizeLine_eq]; simp [errs, exNames])
  unfold cLc cItems
  have hw : wipeR [.ow true p, .im S, .im d, .im (.lst (errs d)), x4, x5, .un] [5] = [.ow true p, .im S, .im d, .im (.lst (errs d)), x4, .un, .un] := rfl
  simp [M.bind, cVar, seqOf, M.opt, M.ret]
  rw [if_pos h5, hw, key]
  rfl
theorem bodyG {p S d : D} {x3 x4 x5 : Sl} {s : Str} {r1 : Rho} (hr : reprD d = some (.str s)) (h3 : free 3 [.ow true p, .im S, .im d, x3, x4, x5, .un] = true) (h5 : freeAll [5] [.ow true p, .im S, .im d, .im (.lst (errs d)), x4, x5, .un] = true)
    (hi : forL (gtTup 2 (gtCons (gtName 4) (gtCons (gtName 5) gtNil))) h__law_right_2 (enumD (errs d)) [.ow true p, .im S, .im d, .im (.lst (errs d)), x4, x5, .un] = .nx r1) :
    h__law_right_3 [.ow true p, .im S, .im d, x3, x4, x5, .un] = .nx r1 := by
  have e1 : cSet 3 (cCallF f__law_all_of 1 (cArg (cVar 2) (M.ret []))) [.ow true p, .im S, .im d, x3, x4, x5, .un] = .nx [.ow true p, .im S, .im d, .im (.lst (errs d)), x4, x5, .un] := by
    unfold cSet cAsg
    simp [liftS, cCallF, cArg, cVar, M.bind, M.ret, allSl, toSl, iosOf, noDup, all_of, putBack, gtName, h3]
  have e2 : dAll [.lst ((errs d).map fun _ => .bl true)] = some (.bl true) := dAll_true fun x hx => by
    obtain ⟨_, _, rfl⟩ := List.mem_map.mp hx
    rfl
  have e3 : cIfS (cNot (cB (cCall dAll (cCons (cLc [5] (cItems seqOf (cVar 3)) (gtName 5) (M.ret true) h__law_right_0) (M.ret []))))) (cRet (M.ret (.bl false))) cNext [.ow true p, .im S, .im d, .im (.lst (errs d)), x4, x5, .un] = .nx [.ow true p, .im S, .im d, .im (.lst (errs d)), x4, x5, .un] := by
    unfold cIfS cNot cB cCall cCons
    simp only [liftS, M.bind]
    rw [chk hr h5]
    simp [M.ret, M.opt, e2, toB, cNext]
  have e4 : cFor ((cVar 3).bind fun d => M.opt ((listOf d).map enumD)) (gtTup 2 (gtCons (gtName 4) (gtCons (gtName 5) gtNil))) h__law_right_2 [.ow true p, .im S, .im d, .im (.lst (errs d)), x4, x5, .un] = .nx r1 := by
    unfold cFor
    simp [liftS, M.bind, cVar, M.opt, M.ret, PyD.listOf]
    exact hi
  unfold h__law_right_3 cSeq
  rw [e1]
  dsimp only
  rw [e3]
  dsimp only
  exact e4
theorem body0 {p S d : D} {s : Str} (hr : reprD d = some (.str s)) : h__law_right_3 [.ow true p, .im S, .im d, .un, .un, .un, .un] = .nx [.ow true p, .im S, .im d, .im (.lst (errs d)), .im (.int 28), .im (.exc "BadLine" d), .un] := bodyG hr rfl rfl inner0
theorem body1 {p S d a3 a b : D} {s : Str} (hr : reprD d = some (.str s)) : h__law_right_3 [.ow true p, .im S, .im d, .im a3, .im a, .im b, .un] = .nx [.ow true p, .im S, .im d, .im (.lst (errs d)), .im (.int 28), .im (.exc "BadLine" d), .un] := bodyG hr rfl rfl inner1
theorem right_ok {n a b c : Int} (h : PotOk n a b c) (hn : n < 2 ^ 60) : ∃ outs, f__law_right [.ow true (Pot a b c)] = .ok (.bl true) outs := by
  obtain ⟨x, a1, c1, o1, m1, k1⟩ := odd_ok h (by omega)
  obtain ⟨y, a2, c2, o2, m2, k2⟩ := odd_ok k1 (by omega)
  obtain ⟨z, a3, c3, o3, m3, k3⟩ := odd_ok k2 (by omega)
  obtain ⟨w, a4, c4, o4, m4, k4⟩ := odd_ok k3 (by omega)
  obtain ⟨s1, r1⟩ := repr1 x m1
  obtain ⟨s2, r2⟩ := repr2 y m2 z m3
  obtain ⟨s3, r3⟩ := repr3 w m4
  have hd : dispOf [(.str "a", w)] = some (.dk [(.inr "a", w)]) := rfl
  have st : ∀ r : Rho, True := fun _ => True.intro
  unfold f__law_right runF m__law_right
  simp [cSeq, cSet, cAsg, liftS, cCons, cCallF, used, cArgR, M.bind, M.ret, M.opt, allSl, toSl, iosOf, noDup, o1, o2, o3, o4, putBack, put1, lstOf, tupOf, sizeLine_eq, cPairs, hd, gtName, free, cFor, cItems, cVar, seqOf, forL, body0 r1, body1 r2, body1 r3]
  have at0 : ∀ p q r : D, atI [p, q, r] 0 = some p := fun _ _ _ => rfl
  have hv : ∀ d : D, valOf exNames (.exc "PairError" d) = some d := fun _ => rfl
  have hk : dAny [.lst ((List.replicate 29 false).map D.bl)] = some (.bl false) := rfl
  simp [cRet, liftS, cAndV, cOp, cMkx, mkX, cIxv, live, slotD, dIx, at0, M.bind, M.ret, M.opt, hv, r1, dEq, eqD, toB, cNotV, cCall, cCallF, cArg, allSl, toSl, iosOf, noDup, kinds_root, putBack]
  exact ⟨_, rfl⟩
theorem pot_in {m : Int} {x : D} {y : Sl} {cell place : Int} : True := trivial
def own (cell : Int) : Int := (if cell < 0 then -cell else cell) % (10 ^ 60) ^ 5 * (if (10 : Int) ^ 18 ≤ (if cell < 0 then -cell else cell) then 1 else 0)
theorem own_ok (cell : Int) : 0 ≤ own cell ∧ own cell < 2 ^ 1000 := by
  unfold own
  have h0 : 0 ≤ (if cell < 0 then -cell else cell) % (10 ^ 60) ^ 5 := Int.emod_nonneg _ (by decide)
  have h1 : (if cell < 0 then -cell else cell) % (10 ^ 60) ^ 5 < (10 ^ 60) ^ 5 := Int.emod_lt_of_pos _ (by decide)
  have h2 : ((10 : Int) ^ 60) ^ 5 < 2 ^ 1000 := by decide
  generalize (if cell < 0 then -cell else cell) % (10 ^ 60) ^ 5 = m at h0 h1
  by_cases hf : (10 : Int) ^ 18 ≤ (if cell < 0 then -cell else cell)
  · rw [if_pos hf, Int.mul_one]
    exact ⟨h0, Int.lt_trans h1 h2⟩
  · rw [if_neg hf, Int.mul_zero]
    exact ⟨Int.le_refl _, by decide⟩
theorem pot_ok {xs : List Int} {i : Nat} (hi : i < 64) (hx : xs.length ≤ 63) : ∃ a b, f__law_pot [.im (.scr (xs.map D.int)), .im (.int i)] = .ok (Pot a b 0) [.un, .un] ∧ PotOk 0 a b 0 := by
  obtain ⟨cell, hc⟩ : ∃ cell : Int, cIf (cB (cOp dLt (cVar 1) (cCall1 dLen (cPeek 0)))) (cIxv 0 dIx (cVar 1)) (cOp dAdd (cOp dMul (M.ret (.int 71)) (cPeek 1)) (M.ret (.int 31))) [.im (.scr (xs.map D.int)), .im (.int i), .un, .un, .un] =
      .ok (.int cell) [.im (.scr (xs.map D.int)), .im (.int i), .un, .un, .un] := by
    by_cases hl : i < xs.length
    · refine ⟨xs[i], ?_⟩
      have e1 : (i : Int) < (xs.length : Int) := by omega
      have e2 : atI (xs.map D.int) (i : Int) = some (.int xs[i]) := atI_nat (by simp [hl])
      simp [cIf, cB, cOp, cVar, cCall1, cPeek, dLen, dLt, M.bind, M.ret, M.opt, toB, e1, cIxv, live, slotD, dIx, e2]
    · refine ⟨71 * i + 31, ?_⟩
      have e1 : ¬ (i : Int) < (xs.length : Int) := by omega
      have e2 : CMulW 71 (i : Int) := (show Bt 7 71 from .of (by decide) (by decide)).cw (show Bt 6 (i : Int) from .of (by omega) (by omega))
      simp [cIf, cB, cOp, cVar, cCall1, cPeek, dLen, dLt, M.bind, M.ret, M.opt, toB, e1, dAdd, dMul, e2]
  have b1 : Bt 1000 ((if cell < 0 then -cell else cell) % (10 ^ 60) ^ 5) := .of (Int.emod_nonneg _ (by decide)) (Int.lt_trans (Int.emod_lt_of_pos _ (by decide)) (by decide))
  have m1 : ∀ b : Bool, CMulW ((if cell < 0 then -cell else cell) % (10 ^ 60) ^ 5) (if b = true then 1 else 0) := fun b => b1.cw (show Bt 1 (if b = true then 1 else 0) from by unfold Bt; cases b <;> decide)
  have p1 : CPow 10 60 ∨ CPowW 10 60 := by decide
  have p2 : CPow (10 ^ 60) 5 ∨ CPowW (10 ^ 60) 5 := .inr ⟨by decide, by decide, by decide +kernel, by decide⟩
  have p3 : CPow 10 18 ∨ CPowW 10 18 := by decide
  generalize hS : cell % 2305843009213693951 = small
  have s0 : 0 ≤ small := by rw [← hS]; exact Int.emod_nonneg _ (by decide)
  have s1 : small < 2305843009213693951 := by rw [← hS]; exact Int.emod_lt_of_pos _ (by decide)
  have m2 : CMulW small 70201 := (show Bt 61 small from .of s0 (by omega)).cw (show Bt 17 70201 from .of (by decide) (by decide))
  have bi : Bt 6 (i : Int) := .of (by omega) (by omega)
  have m3 : CMulW 7283 (i : Int) := (show Bt 13 7283 from .of (by decide) (by decide)).cw bi
  have m4 : CMulW (7283 * (i : Int)) (i : Int) := ((show Bt 13 7283 from .of (by decide) (by decide)).mul bi).cw bi
  refine ⟨own cell, (small * 70201 + 7283 * i * i + 149) % 2305843009213693921, ?_, (own_ok cell).1, (own_ok cell).2, Int.emod_nonneg _ (by decide), Int.lt_trans (Int.emod_lt_of_pos _ (by decide)) (by decide), by decide, by decide⟩
  have q1 := r_set (i := 2) hc rfl
  have hA : cCall dAbs (cCons (cVar 2) (M.ret [])) [.im (.scr (xs.map D.int)), .im (.int i), .im (.int cell), .un, .un] = .ok (.int (if cell < 0 then -cell else cell)) [.im (.scr (xs.map D.int)), .im (.int i), .im (.int cell), .un, .un] := r_call (r_one rfl) rfl
  have q2 : cSet 3 (cOp dMul (cOp dMod (cCall dInt1 (cCons (cCall dAbs (cCons (cVar 2) (M.ret []))) (M.ret []))) (cOp dPow (cOp dPow (M.ret (.int 10)) (M.ret (.int 60))) (M.ret (.int 5)))) (cCall dInt1 (cCons (cOp dGe (cCall dAbs (cCons (cVar 2) (M.ret []))) (cOp dPow (M.ret (.int 10)) (M.ret (.int 18)))) (M.ret []))))
      [.im (.scr (xs.map D.int)), .im (.int i), .im (.int cell), .un, .un] = .nx [.im (.scr (xs.map D.int)), .im (.int i), .im (.int cell), .im (.int (own cell)), .un] := by
    have z := r_set (i := 3) (r_op (r_op (r_call (f := dInt1) (r_one hA) rfl) (r_op (cb := M.ret (.int 5)) (r_op (ca := M.ret (.int 10)) (cb := M.ret (.int 60)) rfl rfl (dPow_ok p1)) rfl (dPow_ok p2)) (dMod_ok (by decide)))
      (r_call (f := dInt1) (r_one (r_op (f := dGe) hA (r_op (ca := M.ret (.int 10)) (cb := M.ret (.int 18)) rfl rfl (dPow_ok p3)) rfl)) rfl) (dMul_ok (m1 _))) rfl
    refine z.trans ?_
    unfold own
    simp
  have q3 : cSet 4 (cOp dMod (cCall dInt1 (cCons (cVar 2) (M.ret []))) (M.ret (.int 2305843009213693951))) [.im (.scr (xs.map D.int)), .im (.int i), .im (.int cell), .im (.int (own cell)), .un] = .nx [.im (.scr (xs.map D.int)), .im (.int i), .im (.int cell), .im (.int (own cell)), .im (.int small)] := by
    have z := r_set (i := 4) (r_op (cb := M.ret (.int 2305843009213693951)) (r_call (f := dInt1) (r_one (c := cVar 2) (r := [.im (.scr (xs.map D.int)), .im (.int i), .im (.int cell), .im (.int (own cell)), .un]) (x := .int cell) rfl) rfl) rfl (dMod_ok (by decide))) rfl
    rw [hS] at z
    exact z
  have q4 : cRetO ((cCons (cVar 3) (cCons (cOp dMod (cCall dInt1 (cCons (cOp dAdd (cOp dAdd (cOp dMul (cVar 4) (M.ret (.int 70201))) (cOp dMul (cOp dMul (M.ret (.int 7283)) (cPeek 1)) (cPeek 1))) (M.ret (.int 149))) (M.ret []))) (M.ret (.int 2305843009213693921))) (cCons (M.ret (.int 0)) (M.ret [])))).bind fun xs => M.opt (lstOf xs))
      [.im (.scr (xs.map D.int)), .im (.int i), .im (.int cell), .im (.int (own cell)), .im (.int small)] = .ro (Pot (own cell) ((small * 70201 + 7283 * i * i + 149) % 2305843009213693921) 0) [.im (.scr (xs.map D.int)), .im (.int i), .im (.int cell), .im (.int (own cell)), .im (.int small)] := by
    refine r_retO (r_opt (f := lstOf) (r_cons (c := cVar 3) rfl (r_cons (r_op (cb := M.ret (.int 2305843009213693921)) (r_call (f := dInt1) (r_one (r_op (f := dAdd) (cb := M.ret (.int 149)) (r_op (f := dAdd) (r_op (ca := cVar 4) (cb := M.ret (.int 70201)) rfl rfl (dMul_ok m2)) (r_op (cb := cPeek 1) (r_op (ca := M.ret (.int 7283)) (cb := cPeek 1) rfl rfl (dMul_ok m3)) rfl (dMul_ok m4)) rfl) rfl rfl)) rfl) rfl (dMod_ok (by decide))) (r_one (c := M.ret (.int 0)) rfl))) ?_)
    unfold lstOf
    rw [if_pos (by rw [sizeLine_eq]; show 3 ≤ 16777216; decide)]
  have qm : m__law_pot [.im (.scr (xs.map D.int)), .im (.int i), .un, .un, .un] = .ro (Pot (own cell) ((small * 70201 + 7283 * i * i + 149) % 2305843009213693921) 0) [.im (.scr (xs.map D.int)), .im (.int i), .im (.int cell), .im (.int (own cell)), .im (.int small)] :=
    (r_seq q1).trans ((r_seq q2).trans ((r_seq q3).trans q4))
  unfold f__law_pot PyD.runN
  show (match m__law_pot [.im (.scr (xs.map D.int)), .im (.int i), .un, .un, .un] with
    | .ro d r => FR.ok d (backs 2 r)
    | .exc k d r => .exc k d (backs 2 r)
    | _ => .stuck) = _
  rw [qm]
  rfl
theorem cells_ok {S : List D} : ∃ n : Nat, n ≤ 3 ∧ f__law_cells [.im (.scr S), .im (.int 3)] = .ok (.lst (rangeL 0 n)) [.un, .un] := by
  obtain ⟨m, hm, h0, h1⟩ : ∃ m : Int, (cCall dMax2 (cCons (M.ret (.int 1)) (cCons (cCall dMin2 (cCons (cVar 1) (cCons (cCall1 dLen (cPeek 0)) (M.ret [])))) (M.ret [])))) [.im (.scr S), .im (.int 3)] = .ok (.int m) [.im (.scr S), .im (.int 3)] ∧ 0 ≤ m ∧ m ≤ 3 := by
    have e1 : cCall dMin2 (cCons (cVar 1) (cCons (cCall1 dLen (cPeek 0)) (M.ret []))) [.im (.scr S), .im (.int 3)] = .ok (.int (if (S.length : Int) < 3 then S.length else 3)) [.im (.scr S), .im (.int 3)] :=
      r_call (xs := [.int 3, .int S.length]) (r_cons rfl (r_one rfl)) rfl
    refine ⟨_, r_call (f := dMax2) (r_cons (c := M.ret (.int 1)) rfl (r_one e1)) rfl, ?_, ?_⟩
    · split <;> dsimp only <;> split <;> omega
    · split <;> dsimp only <;> split <;> omega
  refine ⟨m.toNat, by omega, ?_⟩
  have e2 : lRg2 (.int 0) (.int m) = some (.lst (rangeL 0 m.toNat)) := by
    unfold lRg2
    dsimp only
    rw [if_pos (show RgOk 0 m from .of_le (by decide) (by omega) (by decide) h0), Int.sub_zero]
  have e3 : m__law_cells [.im (.scr S), .im (.int 3)] = .rt (.lst (rangeL 0 m.toNat)) [.im (.scr S), .im (.int 3)] := r_retv (r_opt (f := fun d => lRg2 (.int 0) d) hm e2)
  unfold f__law_cells runF
  show (match m__law_cells [.im (.scr S), .im (.int 3)] with
    | .nx r => FR.ok .non (backs 2 r)
    | .rt d r => .ok d (backs 2 r)
    | .exc k d r => .exc k d (backs 2 r)
    | _ => .stuck) = _
  rw [e3]
  rfl
theorem plain : ∀ ns : List Int, ns.length ≤ 63 → ∃ outs, f_law [.im (.scr (ns.map D.int))] = .ok (.bl true) outs := fun ns hl => by
  obtain ⟨n, hn, hc⟩ := cells_ok (S := ns.map D.int)
  have e0 : cCallF f__law_cells 2 (cArg (cVar 0) (cArg (M.ret (.int 3)) (M.ret []))) [.im (.scr (ns.map D.int)), .un] = .ok (.lst (rangeL 0 n)) [.im (.scr (ns.map D.int)), .un] := by
    unfold cCallF
    show (match f__law_cells [.im (.scr (ns.map D.int)), .im (.int 3)] with
      | .ok d outs => Res.ok d (putBack [.im (.scr (ns.map D.int)), .un] [.v (.scr (ns.map D.int)), .v (.int 3)] outs)
      | .exc k d outs => .exc k d (putBack [.im (.scr (ns.map D.int)), .un] [.v (.scr (ns.map D.int)), .v (.int 3)] outs)
      | .stuck => .stuck) = _
    rw [hc]
    rfl
  have key := compL_map (vs := [1]) (gt := gtName 1) (ct := M.ret true) (ce := h_law_0) (r := [.im (.scr (ns.map D.int)), .un]) (g := fun _ => .bl true) (rangeL 0 n) [] (fun x hx => by
    obtain ⟨i, hi, rfl⟩ := List.mem_map.mp hx
    have hi := List.mem_range.mp hi
    obtain ⟨a, b, hp, hk⟩ := pot_ok (xs := ns) (i := i) (by omega) hl
    obtain ⟨outs, hr⟩ := right_ok hk (by decide)
    have e1 : cCallF f__law_pot 2 (cArg (cVar 0) (cArg (cVar 1) (M.ret []))) [.im (.scr (ns.map D.int)), .im (.int (0 + (i : Nat)))] = .ok (Pot a b 0) [.im (.scr (ns.map D.int)), .im (.int (0 + (i : Nat)))] := by
      rw [Int.zero_add]
      unfold cCallF
      show (match f__law_pot [.im (.scr (ns.map D.int)), .im (.int i)] with
        | .ok d outs => Res.ok d (putBack [.im (.scr (ns.map D.int)), .im (.int i)] [.v (.scr (ns.map D.int)), .v (.int i)] outs)
        | .exc k d outs => .exc k d (putBack [.im (.scr (ns.map D.int)), .im (.int i)] [.v (.scr (ns.map D.int)), .v (.int i)] outs)
        | .stuck => .stuck) = _
      rw [hp]
      rfl
    exact ⟨_, _, rfl, rfl, callN_ok e1 hr, rfl⟩) (by rw [sizeLine_eq]; simp [rangeL]; omega)
  have e2 : cLc [1] (cItems seqOf (cCallF f__law_cells 2 (cArg (cVar 0) (cArg (M.ret (.int 3)) (M.ret []))))) (gtName 1) (M.ret true) h_law_0 [.im (.scr (ns.map D.int)), .un] = .ok (.lst ((rangeL 0 n).map fun _ => .bl true)) [.im (.scr (ns.map D.int)), .un] := by
    have e3 : cItems seqOf (cCallF f__law_cells 2 (cArg (cVar 0) (cArg (M.ret (.int 3)) (M.ret [])))) [.im (.scr (ns.map D.int)), .un] = .ok (rangeL 0 n) [.im (.scr (ns.map D.int)), .un] := r_opt (f := seqOf) e0 rfl
    have hw : wipeR [.im (.scr (ns.map D.int)), .un] [1] = [.im (.scr (ns.map D.int)), .un] := rfl
    unfold cLc
    rw [r_bind e3, if_pos (by rfl), hw, key]
    rfl
  have e4 : dAll [.lst ((rangeL 0 n).map fun _ => .bl true)] = some (.bl true) := dAll_true fun x hx => by
    obtain ⟨_, _, rfl⟩ := List.mem_map.mp hx
    rfl
  have e5 : m_law [.im (.scr (ns.map D.int)), .un] = .rt (.bl true) [.im (.scr (ns.map D.int)), .un] := r_retv (r_call (r_one e2) e4)
  refine ⟨[.un], ?_⟩
  unfold f_law runF
  show (match m_law [.im (.scr (ns.map D.int)), .un] with
    | .nx r => FR.ok .non (backs 1 r)
    | .rt d r => .ok d (backs 1 r)
    | .exc k d r => .exc k d (backs 1 r)
    | _ => .stuck) = _
  rw [e5]
  rfl
end K00
end
section
set_option linter.all false
set_option maxRecDepth 100000
set_option maxHeartbeats 0
open PySem PySem.W PySem.Calls PyProof.Rows
theorem PySem.Challenge.cw_factpairs_k00_errors_keep_their_value_holds : PySem.Challenge.rw_factpairs_k00_errors_keep_their_value.Holds := by
  w_on; o_law
  refine HandSHeadRun.head_any (r := OpenLaw.row PySem.Challenge.rw_factpairs_k00_errors_keep_their_value) (q := K00.qv) (H := K00.hk) (ob := K00.ob) (M := 20000) (loose := K00.names) (d := HandSHeadRun.topDef (OpenLaw.row PySem.Challenge.rw_factpairs_k00_errors_keep_their_value).prog 40) (kwd := []) K00.ob_eq
    (by kernel_rfl) (fun s => by kernel_rfl) K00.run (by kernel_rfl) (by kernel_rfl) (by kernel_rfl) (by rfl) (by first | assumption | decide +kernel) (by decide +kernel) ⟨rfl, rfl, rfl, rfl, rfl, by decide +kernel⟩ ?hw ?hc
  case hw => w_witness2
  case hc =>
    refine PyD.pyd_end (l := PySem.Challenge.rw_factpairs_k00_errors_keep_their_value) (n := 63) (k := 5) (x := "_law_script") (f := K00.f_law) rfl (by decide) (by kernel_rfl) ⟨rfl, by decide, by decide⟩ K00.plain ?F
    intro w mg fa h Y G hmg0
    obtain ⟨K, KX, c⟩ := Y
    have hmg : mg ("law" : PySem.Str) = some (.ref fa) := by
      have e : (HandSHeadRun.topDef (OpenLaw.row PySem.Challenge.rw_factpairs_k00_errors_keep_their_value).prog 40).name = ("law" : PySem.Str) := by kernel_rfl
      rw [← e]
      exact hmg0
    have fx := K00.fx_of KX G c
    have e2 := hmg.symm.trans fx.g_law
    cases e2
    obtain ⟨fd, F⟩ := fx.d_law
    have b := L2.FunD.bindsA (ps := ["_law_script"]) F fun _ _ _ _ _ _ us hl => match us, hl with | [_], _ => rfl
    exact ⟨K, fd, He.ga K, KX, c.nil, fun s v => b s [v] rfl, fun base _ _ => K00.ok_law fx F⟩
end
